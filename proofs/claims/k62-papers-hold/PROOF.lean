import PyProof.Rows.All
import Wide.All
import OpenK.AllK
import Wide.FinOn
import HandS.ForMost
import HandS.ForExc
import HandS.Wide
import HandS.WideBits
import HandS.IsInst
import HandS.TupLe
import KE.BitLaws
import HandS.Defaults
import HandS.ExcIs
import HandS.Conv
import HandS.Zip
import HandS.More
import HandS.SetKeys
import HandS.Strs
import PyProof.DictUpdate
import HandS.Style
import PySem.Challenge.RW_zonewalk_k62_whole_papers_hold
set_option Elab.async false
set_option linter.all false
set_option maxRecDepth 100000
set_option maxHeartbeats 4000000

namespace ZW
theorem fmod_gcd (a b : Int) : Int.gcd b (a.fmod b) = Int.gcd a b := by
  rw [Int.fmod_def, Int.gcd_comm a b]
  exact Int.gcd_sub_mul_left_right b a (a.fdiv b)
theorem fmod_lt (a b : Int) (hb : b ≠ 0) : (a.fmod b).natAbs < b.natAbs := by
  rcases Int.lt_or_lt_of_ne hb with h | h
  · have h1 := Int.fmod_def a b
    have e : a.fmod b = -((-a).fmod (-b)) := by simp
    rw [e, Int.fmod_eq_emod_of_nonneg _ (by omega)]
    have := Int.emod_lt_of_pos (-a) (b := -b) (by omega)
    have := Int.emod_nonneg (-a) (b := -b) (by omega)
    omega
  · rw [Int.fmod_eq_emod_of_nonneg a (by omega)]
    have := Int.emod_lt_of_pos a h
    have := Int.emod_nonneg a hb
    omega
theorem gcd_pos_right {a b : Int} (hb : b ≠ 0) : (0 : Int) < Int.gcd a b := by
  have := Int.gcd_pos_of_ne_zero_right a hb
  omega
/-- both divided by their gcd -/
structure Low (a b t u : Int) : Prop where
  pos : 0 < b → 0 < u
  top : t * Int.gcd a b = a
  bot : u * Int.gcd a b = b
  eq : t * b = a * u
  one : Int.gcd t u = 1
theorem low_of {a b : Int} (hb : b ≠ 0) : Low a b (a.fdiv (Int.gcd a b)) (b.fdiv (Int.gcd a b)) := by
  have g := gcd_pos_right (a := a) hb
  have d1 : (Int.gcd a b : Int) ∣ a := Int.gcd_dvd_left ..
  have d2 : (Int.gcd a b : Int) ∣ b := Int.gcd_dvd_right ..
  rw [Int.fdiv_eq_ediv_of_nonneg _ (by omega), Int.fdiv_eq_ediv_of_nonneg _ (by omega)]
  have e1 := Int.ediv_mul_cancel d1
  have e2 := Int.ediv_mul_cancel d2
  generalize hx : a / (Int.gcd a b : Int) = x at *
  generalize hy : b / (Int.gcd a b : Int) = y at *
  generalize hg : (Int.gcd a b : Int) = G at *
  refine ⟨fun h => ?_, ?_, ?_, ?_, ?_⟩
  · rcases Int.lt_or_le 0 y with z | z
    · exact z
    · have := Int.mul_nonpos_of_nonpos_of_nonneg z (Int.le_of_lt g)
      omega
  · rw [hg]; exact e1
  · rw [hg]; exact e2
  · rw [← e2, ← e1]; rw [Int.mul_comm y G, ← Int.mul_assoc]
  · have q : Int.gcd (x * G) (y * G) = Int.gcd x y * G.natAbs := Int.gcd_mul_right ..
    rw [e1, e2] at q
    have hG : G.natAbs = Int.gcd a b := by omega
    rw [hG] at q
    have gp : 0 < Int.gcd a b := by omega
    exact Nat.eq_of_mul_eq_mul_right gp (by rw [Nat.one_mul]; exact q.symm)
theorem quo_le {t G a : Int} (h : t * G = a) (hG : 0 < G) : t.natAbs ≤ a.natAbs := by
  rw [← h, Int.natAbs_mul]
  exact Nat.le_mul_of_pos_right _ (by omega)
/-- the fraction t / u, in lowest terms, that stands so to a and b -/
structure Red (a b t u : Int) : Prop where
  pos : 0 < u
  eq : t * b = a * u
  one : Int.gcd t u = 1
  tle : t.natAbs ≤ a.natAbs
  ule : u.natAbs ≤ b.natAbs
theorem Low.red {a b t u : Int} (l : Low a b t u) (h : 0 < b) : Red a b t u := ⟨l.pos h, l.eq, l.one, quo_le l.top (gcd_pos_right (by omega)), quo_le l.bot (gcd_pos_right (by omega))⟩
theorem red_neg {a b : Int} (hb : b < 0) : Red a b (a.fdiv (0 - (Int.gcd a b : Int))) (b.fdiv (0 - (Int.gcd a b : Int))) := by
  have l := low_of (a := a) (b := b) (by omega)
  have g := gcd_pos_right (a := a) (b := b) (by omega)
  have k : ∀ x t : Int, t * (Int.gcd a b : Int) = x → x.fdiv (0 - (Int.gcd a b : Int)) = - t := by
    intro x t e
    rw [Int.zero_sub, show x = (-(Int.gcd a b : Int)) * (-t) by rw [Int.neg_mul_neg, Int.mul_comm, e], Int.mul_fdiv_cancel_left _ (by omega)]
  rw [k _ _ l.top, k _ _ l.bot]
  have hu : b.fdiv (Int.gcd a b) < 0 := by
    rcases Int.lt_or_le (b.fdiv (Int.gcd a b)) 0 with z | z
    · exact z
    · have := Int.mul_nonneg z (Int.le_of_lt g); rw [l.bot] at this; omega
  refine ⟨by omega, by rw [Int.neg_mul, Int.mul_neg, l.eq], by rw [Int.gcd_neg, Int.neg_gcd]; exact l.one, by rw [Int.natAbs_neg]; exact quo_le l.top g, by rw [Int.natAbs_neg]; exact quo_le l.bot g⟩
theorem dvd_cop {u t v : Int} (h : u ∣ t * v) (c : Int.gcd t u = 1) : u ∣ v := by
  have h1 : u.natAbs ∣ t.natAbs * v.natAbs := by rw [← Int.natAbs_mul]; exact Int.natAbs_dvd_natAbs.mpr h
  have h2 : Nat.Coprime u.natAbs t.natAbs := by rw [Nat.coprime_comm]; exact c
  exact Int.natAbs_dvd_natAbs.mp (h2.dvd_of_dvd_mul_left h1)
theorem cop_uniq {t u t' u' : Int} (hu : 0 < u) (hu' : 0 < u') (c : Int.gcd t u = 1) (c' : Int.gcd t' u' = 1) (e : t * u' = t' * u) : t = t' ∧ u = u' := by
  have d1 : u ∣ u' := by
    have : u ∣ t * u' := ⟨t', by rw [e, Int.mul_comm]⟩
    exact dvd_cop this c
  have d2 : u' ∣ u := by
    have : u' ∣ t' * u := ⟨t, by rw [← e, Int.mul_comm]⟩
    exact dvd_cop this c'
  have eu : u = u' := by
    have h1 := Int.le_of_dvd hu' d1
    have h2 := Int.le_of_dvd hu d2
    omega
  subst eu
  exact ⟨Int.eq_of_mul_eq_mul_right (by omega) e, rfl⟩
theorem Red.uniq {a b t u t' u' : Int} (hb : b ≠ 0) (h : Red a b t u) (k : Red a b t' u') : t = t' ∧ u = u' := by
  refine cop_uniq h.pos k.pos h.one k.one ?_
  have : t * u' * b = t' * u * b := by
    rw [Int.mul_right_comm, h.eq, Int.mul_right_comm t', k.eq]; ac_rfl
  exact Int.eq_of_mul_eq_mul_right hb this
/-- fractions that stand so to the same two numbers, told by cross products -/
theorem red_cross {a b a' b' t u t' u' : Int} (hb : b ≠ 0) (hb' : b' ≠ 0) (x : a * b' = a' * b) (h : Red a b t u) (k : Red a' b' t' u') : t = t' ∧ u = u' := by
  refine cop_uniq h.pos k.pos h.one k.one ?_
  have e : t * u' * (b * b') = t' * u * (b * b') := by
    rw [show t * u' * (b * b') = (t * b) * (u' * b') by ac_rfl, show t' * u * (b * b') = (t' * b') * (u * b) by ac_rfl, h.eq, k.eq,
      show a * u * (u' * b') = (a * b') * (u * u') by ac_rfl, show a' * u' * (u * b) = (a' * b) * (u * u') by ac_rfl, x]
  exact Int.eq_of_mul_eq_mul_right (Int.mul_ne_zero hb hb') e
theorem gcd_le_size {a b : Int} (hb : b ≠ 0) : (Int.gcd a b) ≤ b.natAbs := by
  have := Int.gcd_dvd_right (a := a) (b := b)
  exact Nat.le_of_dvd (by omega) (by simpa using Int.natAbs_dvd_natAbs.mpr this)
theorem log_lt {i : Int} {n m : Nat} (h : i.natAbs < 2 ^ n) (h0 : 0 < n) (hm : n ≤ m) : i.natAbs.log2 < m := by
  by_cases e : i.natAbs = 0
  · rw [e]; simp; omega
  · exact Nat.lt_of_lt_of_le ((Nat.log2_lt e).mpr h) hm
open PySem PySem.Spec PyProof.Rows L2
theorem upd_keep {H : Hp} {p : Addr} {o : HO} (h : H p = none) : Same H (upd H p o) := fun b x e => by
  rw [upd_ne (ne_of_none e h)]
  exact e
theorem Same.to {H H' : Hp} (s : Same H H') {a : Addr} {o : HO} (h : H a = some o) : H' a = some o := s a o h
theorem seq_step {t u : TS} {D : Ends} {σ : L2.St} {H : Hp} (h : t { D with nx := u D } σ H) : tSeq t u D σ H := h
theorem ite_d {c : Prop} [Decidable c] {A B : Prop} (h1 : c → A) (h2 : ¬ c → B) : if decide c = true then A else B := by
  by_cases h : c
  · rw [if_pos (decide_eq_true h)]; exact h1 h
  · rw [if_neg (by rw [decide_eq_false h]; exact Bool.false_ne_true)]; exact h2 h
theorem shl1 {i : Int} {n : Nat} (h : i.natAbs < 2 ^ n) (hn : n ≤ 100000) : CShl i 1 := shl_ok (j := 1) h (by omega)
theorem one_ne : ((1 : Int) = 0) = False := by simp
theorem pow_lit (i : Int) : i ^ (1 : Nat) = i := Int.pow_one i
theorem cxK {CX : CXT} {P : Program} {w : World} {K : PySem.W.Frag} {mg : Str → Option Value} {base : Heap} {N : List Str} {qual : Str} {scope : Scope} {f : Addr} {cd : Value} {A : Around} {outer : List Env} {s : Shared} {H : Hp} {E : XK} :
    (cxOf CX P w K mg base N qual scope f cd A outer s H E).K = K := rfl
theorem ix_l {K : PySem.W.Frag} {H : Hp} {p : Addr} {xs : List V} {i : Int} {v : V} {Q : VK} (h : SqL K H p xs) (hi : 0 ≤ i) (hv : xs[i.toNat]? = some v) (q : Q v H) : rIxL K (.ref p) (.int i) H Q :=
  ⟨p, xs, i, v, rfl, rfl, h, at_of (j := i.toNat) (by omega) hv, q⟩
theorem ix_t {K : PySem.W.Frag} {H : Hp} {p : Addr} {xs : List V} {i : Int} {v : V} {Q : VK} (h : SqT K H p xs) (hi : 0 ≤ i) (hv : xs[i.toNat]? = some v) (q : Q v H) : rIxT K (.ref p) (.int i) H Q :=
  ⟨p, xs, i, v, rfl, rfl, h, at_of (j := i.toNat) (by omega) hv, q⟩
theorem sqL_upd {K : PySem.W.Frag} {H : Hp} {p : Addr} {xs : List V} : SqL K (upd H p (.lst xs)) p xs := SqL.of upd_same
theorem fm2 (c : Int) : c.fmod 2 = 0 ∨ c.fmod 2 = 1 := by
  rw [Int.fmod_eq_emod_of_nonneg _ (by omega)]; omega
theorem fm_pos {c m : Int} (h : 0 < m) : 0 ≤ c.fmod m ∧ c.fmod m < m := by
  rw [Int.fmod_eq_emod_of_nonneg _ (by omega)]
  exact ⟨Int.emod_nonneg _ (by omega), Int.emod_lt_of_pos _ h⟩
/-- a number of at most n bits -/
def Sz (n : Nat) (i : Int) : Prop := i.natAbs < 2 ^ n
theorem Sz.mono {i : Int} {a c : Nat} (ha : Sz a i) (h : a ≤ c) : Sz c i := Nat.lt_of_lt_of_le ha (Nat.pow_le_pow_right (by decide) h)
theorem Sz.mulW {i j : Int} {a b : Nat} (ha : Sz a i) (hb : Sz b j) (h : a + b ≤ 999998) : CMulW i j :=
  wide_mul (a := a + 1) (b := b + 1) (Sz.mono ha (by omega)) (Sz.mono hb (by omega)) (by omega) (by omega) (by omega)
theorem Sz.mul {i j : Int} {a b c : Nat} (ha : Sz a i) (hb : Sz b j) (h : a + b ≤ c) : Sz c (i * j) := Sz.mono (wide_lt ha hb) h
theorem Sz.add {i j : Int} {a b c : Nat} (ha : Sz a i) (hb : Sz b j) (h1 : a + 1 ≤ c) (h2 : b + 1 ≤ c) : Sz c (i + j) := by
  have x : Sz (c - 1) i := ha.mono (by omega)
  have y : Sz (c - 1) j := hb.mono (by omega)
  have e : (2 : Nat) ^ c = 2 ^ (c - 1) * 2 := by rw [← Nat.pow_succ]; congr 1; omega
  unfold Sz at x y ⊢
  omega
theorem Sz.sub {i j : Int} {a b c : Nat} (ha : Sz a i) (hb : Sz b j) (h1 : a + 1 ≤ c) (h2 : b + 1 ≤ c) : Sz c (i - j) := by
  have x : Sz (c - 1) i := ha.mono (by omega)
  have y : Sz (c - 1) j := hb.mono (by omega)
  have e : (2 : Nat) ^ c = 2 ^ (c - 1) * 2 := by rw [← Nat.pow_succ]; congr 1; omega
  unfold Sz at x y ⊢
  omega
theorem Sz.le {i j : Int} {a : Nat} (h : i.natAbs ≤ j.natAbs) (hj : Sz a j) : Sz a i := Nat.lt_of_le_of_lt h hj
theorem Sz.nn {i j : Int} {a : Nat} (h0 : 0 ≤ i) (h : i ≤ j) (hj : Sz a j) : Sz a i := Sz.le (by omega) hj
theorem Sz.rg {i j : Int} {a : Nat} (h0 : -j ≤ i) (h : i ≤ j) (hj : Sz a j) : Sz a i := Sz.le (by omega) hj
/-- a divisor that the rule takes -/
def DivOk (j : Int) : Prop := j ≠ 0 ∧ j.natAbs.log2 < 9000
theorem DivOk.of {j : Int} {n : Nat} (h : j ≠ 0) (hs : Sz n j) (hn : n ≤ 8000) : DivOk j := ⟨h, log_lt (n := 8000) (hs.mono hn) (by omega) (by omega)⟩
theorem sz_line {n : Nat} (h : n ≤ 1000) : (n ≤ sizeLine) = True := eq_true (Nat.le_of_lt (small1000 h))
section
variable {X : Cx}
theorem op_fdivZ : OpR X (binaryOp .FloorDiv) (rI (fun _ j => DivOk j) fun i j => .int (i.fdiv j)) := opI fun _ _ _ _ _ _ _ hc q =>
  floordiv_int hc.1 q (.inl (PyProof.noPylong_of_log2 hc.2))
end
theorem gTup_of {K : PySem.W.Frag} {a : Addr} {xs : List V} {n : Nat} {t : TGs} {σ : L2.St} {H : Hp} {Q : L2.St → Hp → Prop} (h : SqT K H a xs) (hn : xs.length = n) (q : t xs σ H Q) : gTup K n t (.ref a) σ H Q := ⟨a, xs, rfl, h, hn, q⟩
theorem sqt {K : PySem.W.Frag} {H : Hp} {a : Addr} {xs : List V} (h : H a = some (.tup xs)) : SqT K H a xs := SqT.of h
theorem Low.top_le {a b t u : Int} (l : Low a b t u) (hb : b ≠ 0) : t.natAbs ≤ a.natAbs := quo_le l.top (gcd_pos_right hb)
theorem Low.bot_le {a b t u : Int} (l : Low a b t u) (hb : b ≠ 0) : u.natAbs ≤ b.natAbs := quo_le l.bot (gcd_pos_right hb)
theorem ite_and {a : Bool} {c : Prop} [Decidable c] {A R : Prop} (h1 : a = true → c → A) (h2 : ¬ (a = true ∧ c) → R) : if a = true then (if decide c = true then A else R) else R := by
  by_cases ha : a = true
  · rw [if_pos ha]; exact ite_d (h1 ha) fun z => h2 fun q => z q.2
  · rw [if_neg ha]; exact h2 fun q => ha q.1
section
variable {X : Cx} {e : Expr} {es : List Expr} {t t' : TE} {ta : TA} {pos : Pos}
theorem pe_imp (h : PE X e t) (k : ∀ σ H Q, t' σ H Q → t σ H Q) : PE X e t' := ⟨fun pins s σ H Q I q => h.run pins s σ H Q I (k σ H Q q)⟩
def tWk (ta : TA) : TA := fun σ H Q => ∃ Q0 : List V → Hp → Prop, ta σ H Q0 ∧ ∀ xs H1, Q0 xs H1 → Q xs H1
theorem pa_wk (h : PA X es ta) : PA X es (tWk ta) := ⟨fun pos pins s σ H _ I ⟨Q0, a, k⟩ => thn (h.run pos pins s σ H Q0 I a) fun _ _ ⟨xs, H1, I1, r, q⟩ => ⟨xs, H1, I1, r, k _ _ q⟩⟩
/-- a new tuple, a new list: nothing but what is tracked is told of the heap behind -/
def tTupN (ta : TA) : TE := fun σ H Q => ta σ H fun xs H1 => xs.length ≤ sizeLine ∧ ∀ p H2, Same H1 H2 → H1 p = none → H2 p = some (.tup xs) → Q (.ref p) H2
def tLstN (ta : TA) : TE := fun σ H Q => ta σ H fun xs H1 => xs.length ≤ sizeLine ∧ ∀ p H2, Same H1 H2 → H1 p = none → H2 p = some (.lst xs) → Q (.ref p) H2
theorem pe_tupN {x1} (h : PA X es ta) : PE X (.Tuple es x1 pos) (tTupN ta) :=
  pe_imp (pe_tup (pa_wk h)) fun _ _ _ q => ⟨_, q, fun _ _ ⟨z, k⟩ => ⟨z, fun p hp => k p _ (upd_keep hp) hp upd_same⟩⟩
theorem pe_lstN (h : PA X es ta) : PE X (.List es pos) (tLstN ta) :=
  pe_imp (pe_lst (pa_wk h)) fun _ _ _ q => ⟨_, q, fun _ _ ⟨z, k⟩ => ⟨z, fun p hp => k p _ (upd_keep hp) hp upd_same⟩⟩
def rSlN (K : PySem.W.Frag) : V → Option Int → Option Int → Hp → VK → Prop := fun x lo hi H Q => ∃ a xs, x = .ref a ∧ SqL K H a xs ∧ ∀ p H2, Same H H2 → H p = none → H2 p = some (.lst (cutV xs lo hi)) → Q (.ref p) H2
theorem sl_listN : SlR X (rSlN X.K) := fun pins s σ H x v vl vu lo hi sl Q I rx hs p1 p2 ⟨a, xs, e, h, q⟩ =>
  sl_list pins s σ H x v vl vu lo hi sl Q I rx hs p1 p2 ⟨a, xs, e, h, fun p hp => q p _ (upd_keep hp) hp upd_same⟩
theorem op_imp {f : Value → Value → Sem Value} {r r' : R2} (h : OpR X f r) (k : ∀ x y H Q, r' x y H Q → r x y H Q) : OpR X f r' := fun pins s σ H x y v u Q I rx ry q => h pins s σ H x y v u Q I rx ry (k x y H Q q)
def rCatN : R2 := fun x y H Q => ∃ l b xs zs, x = .ref l ∧ y = .ref b ∧ H l = some (.lst xs) ∧ H b = some (.lst zs) ∧ xs.length + zs.length ≤ sizeLine ∧ ∀ p H2, Same H H2 → H p = none → H2 p = some (.lst (xs ++ zs)) → Q (.ref p) H2
theorem op_catN : OpR X (binaryOp .Add) rCatN := op_imp op_cat fun _ _ _ _ ⟨l, b, xs, zs, e1, e2, h1, h2, z, q⟩ => ⟨l, b, xs, zs, e1, e2, h1, h2, z, fun p hp => q p _ (upd_keep hp) hp upd_same⟩
def rRepN : R2 := fun x y H Q => ∃ l k xs, x = .ref l ∧ y = .int k ∧ H l = some (.lst xs) ∧ -(2 ^ 63) ≤ k ∧ k < 2 ^ 63 ∧ xs.length * k.toNat ≤ sizeLine ∧ ∀ p H2, Same H H2 → H p = none → H2 p = some (.lst (List.replicate k.toNat xs).flatten) → Q (.ref p) H2
theorem op_repN : OpR X (binaryOp .Mult) rRepN := op_imp op_rep fun _ _ _ _ ⟨l, k, xs, e1, e2, h, a, b, z, q⟩ => ⟨l, k, xs, e1, e2, h, a, b, z, fun p hp => q p _ (upd_keep hp) hp upd_same⟩
theorem small1000' {n : Nat} (h : n ≤ 1000) : n ≤ sizeLine := Nat.le_of_lt (small1000 h)
theorem call_imp {f : Value} {r r' : List V → Hp → VK → Prop} (h : CallR X f r) (k : ∀ x H Q, r' x H Q → r x H Q) : CallR X f r' := fun pins s σ H xs us Q I r q => h pins s σ H xs us Q I r (k xs H Q q)
def rListN (K : PySem.W.Frag) : List V → Hp → VK → Prop := fun xs H Q => ∃ p ys, xs = [.ref p] ∧ (SqL K H p ys ∨ SqT K H p ys) ∧ ∀ l H2, Same H H2 → H l = none → H2 l = some (.lst ys) → Q (.ref l) H2
theorem call_listN : CallR X (.type "list") (rListN X.K) := call_imp call_list_of fun _ _ _ ⟨p, ys, e, h, q⟩ => ⟨p, ys, e, h, fun l hl => q l _ (upd_keep hl) hl upd_same⟩
def rIntB : List V → Hp → VK → Prop := fun xs H Q => ∃ k, xs = [.bl k] ∧ Q (.int (if k then 1 else 0)) H
theorem call_intB : CallR X (.type "int") rIntB := call_imp call_int1 fun _ _ _ h => .inr h
end
theorem nat_and_mod (x y : Nat) : (x &&& y) % 2 = (x % 2) * (y % 2) := by
  have h := Nat.and_mod_two_pow (a := x) (b := y) (n := 1)
  have h1 : x % 2 = 0 ∨ x % 2 = 1 := by omega
  have h2 : y % 2 = 0 ∨ y % 2 = 1 := by omega
  rw [Nat.pow_one] at h
  rcases h1 with e | e <;> rcases h2 with f | f <;> rw [h, e, f] <;> rfl
theorem nat_or_mod (x y : Nat) : (x ||| y) % 2 = if x % 2 = 0 ∧ y % 2 = 0 then 0 else 1 := by
  have h := Nat.or_mod_two_pow (a := x) (b := y) (n := 1)
  have h1 : x % 2 = 0 ∨ x % 2 = 1 := by omega
  have h2 : y % 2 = 0 ∨ y % 2 = 1 := by omega
  rw [Nat.pow_one] at h
  rcases h1 with e | e <;> rcases h2 with f | f <;> rw [h, e, f] <;> rfl
theorem and_bit (a b : Int) : Builtin.bitAnd a b % 2 = (if a % 2 = 1 ∧ b % 2 = 1 then 1 else 0) := by
  have key : ∀ x y : Nat, x % 2 = 0 ∨ x % 2 = 1 := by omega
  have nn : ∀ x, Builtin.bitNot x = - x - 1 := by intro x; unfold Builtin.bitNot; omega
  by_cases ha : 0 ≤ a <;> by_cases hb : 0 ≤ b
  · rw [bitAnd_pp ha hb]
    have h := nat_and_mod a.toNat b.toNat
    have h1 : a.toNat % 2 = 0 ∨ a.toNat % 2 = 1 := by omega
    have h2 : b.toNat % 2 = 0 ∨ b.toNat % 2 = 1 := by omega
    rcases h1 with e | e <;> rcases h2 with f | f <;> rw [e, f] at h <;> split <;> omega
  · rw [bitAnd_pn ha hb, nn]
    have h := nat_and_mod a.toNat (-b-1).toNat
    have h1 : a.toNat % 2 = 0 ∨ a.toNat % 2 = 1 := by omega
    have h2 : (-b-1).toNat % 2 = 0 ∨ (-b-1).toNat % 2 = 1 := by omega
    rcases h1 with e | e <;> rcases h2 with f | f <;> rw [e, f] at h <;> split <;> omega
  · rw [bitAnd_np ha hb, nn]
    have h := nat_and_mod b.toNat (-a-1).toNat
    have h1 : b.toNat % 2 = 0 ∨ b.toNat % 2 = 1 := by omega
    have h2 : (-a-1).toNat % 2 = 0 ∨ (-a-1).toNat % 2 = 1 := by omega
    rcases h1 with e | e <;> rcases h2 with f | f <;> rw [e, f] at h <;> split <;> omega
  · rw [bitAnd_nn ha hb, nn, nn, nn]
    have h := nat_or_mod (-a-1).toNat (-b-1).toNat
    have h1 : (-a-1).toNat % 2 = 0 ∨ (-a-1).toNat % 2 = 1 := by omega
    have h2 : (-b-1).toNat % 2 = 0 ∨ (-b-1).toNat % 2 = 1 := by omega
    rcases h1 with e | e <;> rcases h2 with f | f <;> rw [e, f] at h <;> split at h <;> split <;> omega

theorem bit_sum (a b : Int) : Builtin.bitOr ((a / 2 + b / 2) * 2) (Builtin.bitAnd (Builtin.bitAnd a b) 1) = 2 * (a / 2 + b / 2) + (if a % 2 = 1 ∧ b % 2 = 1 then 1 else 0) := by
  rw [bitAnd_m1, and_bit, bitOr_and]
  split
  · rw [bitAnd_m1]; omega
  · rw [bitAnd_zero]; omega
theorem isi {K : PySem.W.Frag} {H : Hp} {x : V} {a b : String} {r : Bool} {Q : VK} (h : TyX K H x (.type a)) (k : kitB a b = some r) (q : Q (.bl r) H) : rIsi K [x, .ty b] H Q := ⟨x, .ty b, _, _, r, rfl, .ty b, h, kit_ty k, q⟩
theorem if_t {b : Bool} {A B : Prop} (h : b = true) (q : A) : if b = true then A else B := by rw [if_pos h]; exact q
theorem if_f {b : Bool} {A B : Prop} (h : b = false) (q : B) : if b = true then A else B := by rw [h, if_neg Bool.false_ne_true]; exact q
/-- a bound, as a value -/
def oV : Option Int → V
  | none => .non
  | some i => .int i
theorem oV_none : oV none = .non := rfl
theorem oV_some (i : Int) : oV (some i) = .int i := rfl
theorem funD_mk {K : PySem.W.Frag} {x qual : Str} {st : Stmt} {f t : Addr} {oc kV doc pm cdv ct : Value} {od an : Option Addr} {osl : Array (Option Value)} {o : Obj} {n : Nat} {its : List Value} {dvs : List V}
    (l : K.lookup f = some ⟨oc, od, .func (PySem.W.fnOf x qual (defArgs st) (defBody st) (defScope st) (.ref t) kV doc pm an cdv ct), osl⟩) (c : PySem.W.codeIn K cdv qual = true) (k : PySem.W.keepIn K (.ref f) = true)
    (lt : K.lookup t = some o) (ld : o.data = .seq its.toArray n) (hv : Vals dvs its) (hd : dvs ≠ []) : FunD K x qual (defArgs st) (defBody st) (defScope st) dvs [] f (PySem.W.fnOf x qual (defArgs st) (defBody st) (defScope st) (.ref t) kV doc pm an cdv ct) :=
  ⟨⟨oc, od, .ref t, kV, doc, pm, an, cdv, ct, osl, rfl, l, c, .inr ⟨hd, t, o, its, n, rfl, lt, ld, hv⟩, .inl rfl⟩, k⟩
section
variable {X : Cx} {D a : Addr} {cls : Value} {d : Option Addr} {oe : Obj} {pn : List (Addr × Obj)}
/-- isinstance of the caught error: its class is told in the reading -/
theorem call_isE2 (hz : Zc cls d oe) (hf : ∃ vs, oe.data = .fields vs) : CallR (X.suite a ((a, oe) :: pn)) (.builtin "isinstance") (fun xs H Q => ∃ D, cls = .ref D ∧ d = none ∧ ExcC X.K D ∧ rIsE X.K D a xs H Q) := by
  intro pins s σ H xs us Q I r ⟨D, h1, h2, C, h⟩
  subst h1; subst h2
  exact call_isE C hz hf pins s σ H xs us Q I r h
end
theorem cut_int {ns : List Int} {lo hi : Option Int} {i : Nat} {x : V} (h : (cutV (ns.map V.int) lo hi)[i]? = some x) : ∃ z, x = .int z := by
  have m := List.mem_of_mem_drop (List.mem_of_mem_take (List.mem_of_getElem? h))
  obtain ⟨z, _, e⟩ := List.mem_map.mp m
  exact ⟨z, e.symm⟩
def kinds : List String := ["int", "bool", "NoneType", "str", "list", "tuple", "dict"]
/-- whether a thing is a whole number -/
def spWhole (K : PySem.W.Frag) : Sp := fun vs H Q _ => ∃ (x : V) (t : String), vs = [x] ∧ TyX K H x (.type t) ∧ t ∈ kinds ∧ Q (.bl (decide (t = "int"))) H
/-- two numbers in lowest terms, as a new tuple -/
def LowT (a b : Int) (H : Hp) (Q : VK) : Prop := ∀ (t u : Int) (p : Addr) (H' : Hp), Low a b t u → Same H H' → H' p = some (.tup [.int t, .int u]) → Q (.ref p) H'
/-- two numbers in lowest terms with a bottom above 0, as a new tuple -/
def RedT (a b : Int) (H : Hp) (Q : VK) : Prop := ∀ (t u : Int) (p : Addr) (H' : Hp), Red a b t u → Same H H' → H' p = some (.tup [.int t, .int u]) → Q (.ref p) H'
theorem ncast (n : Nat) : ((no_index (OfNat.ofNat n) : Nat) : Int) = OfNat.ofNat n := rfl
theorem exm_two {K : PySem.W.Frag} {C : Addr} {cls : Value} {b : Bool} (h1 : PySem.W.subIn K (.ref C) (.type "BaseException") = some true) (h2 : PySem.W.hasDictIn K C = true) (h3 : PySem.W.typeIn K (.ref C) = some (.type "type")) (h4 : PySem.W.subIn K cls (.ref C) = some b) : PySem.W.exmOne K cls (.ref C) = some b := PySem.W.exm_ref h1 h2 h3 h4
/-- isinstance(e, c) of a caught error -/
theorem isE {K : PySem.W.Frag} {D a : Addr} {c : V} {cv : Value} {b : Bool} {H : Hp} {Q : VK} (X : ExcC K D) (hc : ∀ u, RelV c u → u = cv) (k : PySem.W.kitOne K (.ref D) cv = some b) (q : Q (.bl b) H) : ∃ D', Value.ref D = Value.ref D' ∧ (Option.none : Option Addr) = Option.none ∧ ExcC K D' ∧ rIsE K D' a [.ref a, c] H Q :=
  ⟨D, rfl, rfl, X, c, cv, b, rfl, hc, k, q⟩
theorem tyx_same {K : PySem.W.Frag} {H H2 : Hp} (s : Same H H2) {x : V} {t : Value} (h : TyX K H x t) : TyX K H2 x t := by
  cases h with
  | base b =>
    refine .base ?_
    cases b with
    | non => exact .non
    | bl y => exact .bl y
    | int i => exact .int i
    | str y => exact .str y
    | flt y => exact .flt y
    | lst e => exact .lst (s _ _ e)
    | frz e => exact .frz (s _ _ e)
    | tup e => exact .tup (s _ _ e)
    | dK e => exact .dK (s _ _ e)
    | dT e => exact .dT (s _ _ e)
    | ins e cl a b c d => exact .ins (s _ _ e) cl a b c d
  | byt b => exact .byt b
  | set e => exact .set (s _ _ e)
  | kList e c => exact .kList e c
  | kTuple e c => exact .kTuple e c
  | kDict e c => exact .kDict e c
  | fTuple e => exact .fTuple (s _ _ e)
  | fDict e => exact .fDict (s _ _ e)
/-- what stands behind a statement is shown once, for all its ways -/
theorem join_if {t R : TS} {D : Ends} {σ : L2.St} {H : Hp} (P : L2.St → Hp → Prop) (h2 : ∀ σ' H', P σ' H' → R D σ' H') (h1 : (∀ σ' H', P σ' H' → R D σ' H') → tSeq t R D σ H) : tSeq t R D σ H := h1 h2
theorem red_zero {b t u : Int} (R : Red 0 b t u) : Red 0 1 t u := by
  have h1 := R.tle
  have h2 : t = 0 := by simp at h1; exact h1
  subst h2
  have h3 := R.one
  rw [Int.gcd_zero_left] at h3
  exact ⟨R.pos, by simp, R.one, h1, by omega⟩
theorem shaped_ii (a b : Int) : SeqAt.shaped (.tuple [.int a, .int b]) = true := rfl
section
variable {X : Cx} {K : PySem.W.Frag}
theorem call_isiA (h : X.K = K) : CallR X (.builtin "isinstance") (rIsi K) := by subst h; exact call_isi
theorem ix_listA (h : X.K = K) : IxR X (rIxL K) := by subst h; exact ix_list
theorem ix_tupA (h : X.K = K) : IxR X (rIxT K) := by subst h; exact ix_tup
theorem call_tupleLA (h : X.K = K) : CallR X (.type "tuple") (fun xs H Q => ∃ p ys, xs = [.ref p] ∧ SqL K H p ys ∧ ∀ l H2, Same H H2 → H l = none → H2 l = some (.tup ys) → Q (.ref l) H2) := by
  subst h
  exact call_imp call_tuple_of fun _ _ _ ⟨p, ys, e, h, q⟩ => ⟨p, ys, e, .inl ⟨h, fun l hl => q l _ (upd_keep hl) hl upd_same⟩⟩
def tRevN (K : PySem.W.Frag) (te : TE) : TE := fun σ H Q => te σ H fun x H1 => ∃ a xs, x = .ref a ∧ SqL K H1 a xs ∧ ∀ p H2, Same H1 H2 → H1 p = none → H2 p = some (.lst xs.reverse) → Q (.ref p) H2
theorem op_mulOk : OpR X (binaryOp .Mult) (rI IntMulOk fun i j => .int (i * j)) := opI fun _ _ _ _ _ _ _ hc q => mul_int q hc
theorem op_in_seqA (h : X.K = K) : OpR X (compareOp .In) (rIn K false) := by subst h; exact op_in_seq
theorem op_notIn_seqA (h : X.K = K) : OpR X (compareOp .NotIn) (rIn K true) := by subst h; exact op_notIn_seq
theorem pe_indexA {o e : Expr} {to : TE} {t : TA} {apos cpos : PySem.Pos} (h : X.K = K) (ho : PE X o to) (ha : PA X [e] t)
    (hbase : attributeBase o "index" X.env (eval o X.env) = eval o X.env := by rfl)
    (hfew : ((backTo cpos (starEach [e] X.env)).all (fun x => !x.1) && (backToKw cpos (keywordEach [] X.env)).all (fun x => x.1.isSome)
      && decide (([e] : List Expr).length + ([] : List Keyword).length + (if ([] : List Keyword).isEmpty then 0 else 1) < 30)) = true := by rfl)
    (hline : (apos.endLine == cpos.line) = true := by rfl) (hs : starEach [e] X.env = (false, eval e X.env) :: starEach [] X.env := by rfl) (hplain : (backTo cpos (starEach [] X.env)).any (·.1) = false := by rfl) :
    PE X (.Call (.Attribute o "index" apos) [e] [] cpos) (tBM K "list" (rIndex K) to t) := by subst h; exact pe_bm PySem.F.plainAttrs_list PySem.F.slot_list_index PySem.F.type_list_index mt_index ho ha hbase hfew hline hs hplain
theorem pg_tupA {es : List Expr} {k : Nat} {t : TGs} {n : Nat} (h' : X.K = K) (hc : X.calm = true) (h : PGs X es t)
    (hn : (assignEach es X.env).length = n := by rfl) (hst : (assignEach es X.env).findIdx? (·.1) = none := by rfl) {pos : PySem.Pos} : PG X (.Tuple es k pos) (gTup K n t) := by subst h'; exact pg_tup hc h hn hst
theorem pe_fldA {o : Expr} {f : Str} {pos : PySem.Pos} {ta : TE} (h' : X.K = K) (he : PE X o ta) (hb : attributeBase o f X.env (eval o X.env) = eval o X.env) : PE X (.Attribute o f pos) (tFld K ta f) := by subst h'; exact pe_fld he hb
theorem call_len_seqA (h : X.K = K) : CallR X (.builtin "len") (fun xs H Q => ∃ p ys, xs = [.ref p] ∧ (SqL K H p ys ∨ SqT K H p ys) ∧ Q (.int ys.length) H) := by subst h; exact call_len_seq
theorem sl_listA (h : X.K = K) : SlR X (rSlN K) := by subst h; exact sl_listN
theorem call_listA (h : X.K = K) : CallR X (.type "list") (rListN K) := by subst h; exact call_listN
theorem pi_listA {tg l : Expr} {tl : TE} (h : X.K = K) (hl : PE X l tl) : PI X tg l (iList K tl) := by subst h; exact pi_list hl
end
theorem lc_vs {X : Cx} {e : Expr} {wi : TI} {g : TG} {tt : TT} {te : TE} {own : List (Str × Nat)} {vs : List Nat} (h : PE X e (tLc wi g tt te (own.map (·.2)))) (hv : own.map (·.2) = vs) : PE X e (tLc wi g tt te vs) := hv ▸ h
theorem lc_vsS {X : Cx} {e : Stmt} {wi : TI} {g k : TG} {tt : TT} {te : TE} {own : List (Str × Nat)} {vs : List Nat} (h : PS X e (tAsg (tLc wi g tt te (own.map (·.2))) k)) (hv : own.map (·.2) = vs) : PS X e (tAsg (tLc wi g tt te vs) k) := hv ▸ h
theorem same_updN {H H2 : Hp} {D : Addr} {o : HO} (hD : H D = none) (s : Same H H2) : Same H (upd H2 D o) := fun b x e => by
  rw [upd_ne (ne_of_none e hD)]
  exact s b x e
theorem sql_keep {K : PySem.W.Frag} {H H' : Hp} {a : Addr} {xs : List V} (h : SqL K H a xs) (k : ∀ b o, H b = some o → H' b = some o) : SqL K H' a xs := Same.seq (show Same H H' from k) h
theorem dpall_of {K : PySem.W.Frag} {H : Hp} : ∀ {vs : List V} {ds : List PyData}, vs.length = ds.length → (∀ (k : Nat) (v : V) (d : PyData), vs[k]? = some v → ds[k]? = some d → Dp K H v d) → DpAll K H vs ds
  | [], [], _, _ => .nil
  | [], _ :: _, h, _ => by cases h
  | _ :: _, [], h, _ => by cases h
  | v :: vs, d :: ds, h, k => .cons (k 0 v d rfl rfl) (dpall_of (Nat.succ.inj h) fun j v' d' h1 h2 => k (j + 1) v' d' h1 h2)
theorem shaped_list {ds : List PyData} (h : ∀ d ∈ ds, d.canLay0 = true ∧ d.depth ≤ 60) : SeqAt.shaped (.list ds) = true := by
  have key : ∀ ds : List PyData, (∀ d ∈ ds, d.canLay0 = true ∧ d.depth ≤ 60) → PyData.canLayAll0 ds = true ∧ PyData.depthAll ds ≤ 60 := by
    intro ds
    induction ds with
    | nil => intro _; exact ⟨rfl, Nat.zero_le _⟩
    | cons d ds ih =>
      intro h
      have h1 := h d (List.mem_cons_self ..)
      have h2 := ih fun x hx => h x (List.mem_cons_of_mem _ hx)
      refine ⟨by show (d.canLay0 && PyData.canLayAll0 ds) = true; rw [h1.1, h2.1]; rfl, ?_⟩
      show max d.depth (PyData.depthAll ds) ≤ 60
      omega
  have z := key ds h
  refine Bool.and_eq_true_iff.mpr ⟨z.1, decide_eq_true ?_⟩
  show PyData.depthAll ds + 1 ≤ 64
  omega
/-- whether a fraction is let by a bound -/
def letsO : Option Int → Int → Int → Bool
  | none, _, _ => true
  | some b, t, u => decide (t < b / 2 * u ∨ (t = b / 2 * u ∧ b % 2 = 1))
def narO : Option Int → Option Int → Option Int
  | none, y => y
  | some a, none => some a
  | some a, some b => some (if b < a then b else a)
/-- a fraction's tuple -/
def FracAt (n : Nat) (H : Hp) (v : V) : Prop := ∃ (q : Addr) (t u : Int), v = .ref q ∧ H q = some (.tup [.int t, .int u]) ∧ 0 < u ∧ Sz n t ∧ Sz n u
theorem FracAt.keep {n : Nat} {H H' : Hp} {v : V} (s : Same H H') (h : FracAt n H v) : FracAt n H' v := by
  obtain ⟨q, t, u, e, e2, r⟩ := h
  exact ⟨q, t, u, e, s _ _ e2, r⟩
theorem join_bl {b : Bool} {P : Prop} (h1 : b = true → P) (h2 : b = false → P) : P := by cases b; exact h2 rfl; exact h1 rfl
/-- a for over a list, behind its iterable's reading -/
def ForL (K : PySem.W.Frag) (a : Addr) (g : TG) (tb : TS) (D : Ends) (σ : L2.St) (H : Hp) : Prop := ∃ W : Nat → Nat → L2.St → Hp → Prop, (∃ m, W 0 m σ H) ∧ ∀ i m σ H, W i m σ H →
  ((Itl K a).stop i H ∧ D.nx σ H) ∨ ((Itl K a).go i H ∧ ∃ N : L2.St → Hp → Prop, (∀ σ' H', N σ' H' → ∃ m', m' < m ∧ W (i + 1) m' σ' H') ∧ ∀ x H', (Itl K a).yld i H x H' → g x σ H' fun σ2 H2 => tb { D with nx := N, ct := N, bk := D.nx } σ2 H2)
theorem for_li {K : PySem.W.Frag} {te : TE} {g : TG} {tb : TS} {D : Ends} {σ : L2.St} {H : Hp} (h : te σ H fun x H1 => ∃ a, x = .ref a ∧ (∃ xs, SqL K H1 a xs) ∧ ForL K a g tb D σ H1) : tFor (iList K te) g tb D σ H := h
theorem forL_by {K : PySem.W.Frag} {a : Addr} {xs : List V} {g : TG} {tb : TS} {D : Ends} {σ : L2.St} {H : Hp} (Pv : Nat → L2.St → Hp → Prop) (h0 : Pv 0 σ H) (hl : ∀ i σ H, i ≤ xs.length → Pv i σ H → SqL K H a xs)
    (hs : ∀ i x σ H, xs[i]? = some x → Pv i σ H → g x σ H fun σ2 H2 => tb { D with nx := Pv (i + 1), ct := Pv (i + 1), bk := D.nx } σ2 H2) (hd : ∀ σ H, Pv xs.length σ H → D.nx σ H) : (∃ ys, SqL K H a ys) ∧ ForL K a g tb D σ H :=
  ⟨⟨xs, hl 0 σ H (Nat.zero_le _) h0⟩, for_list (K := K) (a := a) (xs := xs) Pv h0 hl hs hd⟩
/-- what is asked whether it is a fraction, and the answer -/
inductive FrIn (K : PySem.W.Frag) (H : Hp) : V → Bool → Prop where
  | other {x : V} {t : String} (h : TyX K H x (.type t)) (k : t ∈ kinds) (n : t ≠ "tuple") : FrIn K H x false
  | len {p : Addr} {xs : List V} (h : H p = some (.tup xs)) (n : xs.length ≠ 2) : FrIn K H (.ref p) false
  | odd {p : Addr} {v0 v1 : V} {t0 t1 : String} (h : H p = some (.tup [v0, v1])) (h0 : TyX K H v0 (.type t0)) (h1 : TyX K H v1 (.type t1)) (k0 : t0 ∈ kinds) (k1 : t1 ∈ kinds) (n : t0 ≠ "int" ∨ t1 ≠ "int") : FrIn K H (.ref p) false
  | num {p : Addr} {a b : Int} (h : H p = some (.tup [.int a, .int b])) : FrIn K H (.ref p) (decide (1 ≤ b ∧ Int.gcd a b = 1))
theorem FrIn.keep {K : PySem.W.Frag} {H H' : Hp} {x : V} {b : Bool} (s : Same H H') (h : FrIn K H x b) : FrIn K H' x b := by
  cases h with
  | other h k n => exact .other (tyx_same s h) k n
  | len h n => exact .len (s _ _ h) n
  | odd h h0 h1 k0 k1 n => exact .odd (s _ _ h) (tyx_same s h0) (tyx_same s h1) k0 k1 n
  | num h => exact .num (s _ _ h)
def tDictN : TE := fun _ H Q => ∀ p H2, Same H H2 → H p = none → H2 p = some (.dK []) → Q (.ref p) H2
theorem pe_dnewN {X : Cx} {pos : Pos} : PE X (.Dict [] [] pos) tDictN := pe_imp pe_dnewK fun _ _ _ q p hp => q p _ (upd_keep hp) hp upd_same
theorem fr_no {K : PySem.W.Frag} {H : Hp} {p : Addr} {a b : Int} (h : H p = some (.tup [.int a, .int b])) (n : ¬ (1 ≤ b ∧ Int.gcd a b = 1)) : FrIn K H (.ref p) false := by
  have z := FrIn.num (K := K) h
  rw [decide_eq_false n] at z
  exact z
def addO : Option Int → Option Int → Option Int
  | some a, some b => some (2 * (a / 2 + b / 2) + (if a % 2 = 1 ∧ b % 2 = 1 then 1 else 0))
  | _, _ => none
/-- a for over a range, behind its bound's reading -/
def ForR (n : Nat) (g : TG) (tb : TS) (D : Ends) (σ : L2.St) (H : Hp) : Prop := ∃ W : Nat → Nat → L2.St → Hp → Prop, (∃ m, W 0 m σ H) ∧ ∀ i m σ H, W i m σ H →
  ((Itr 0 n).stop i H ∧ D.nx σ H) ∨ ((Itr 0 n).go i H ∧ ∃ N : L2.St → Hp → Prop, (∀ σ' H', N σ' H' → ∃ m', m' < m ∧ W (i + 1) m' σ' H') ∧ ∀ x H', (Itr 0 n).yld i H x H' → g x σ H' fun σ2 H2 => tb { D with nx := N, ct := N, bk := D.nx } σ2 H2)
theorem for_rg {ta : TA} {g : TG} {tb : TS} {D : Ends} {σ : L2.St} {H : Hp} (h : ta σ H fun vs H1 => ∃ j : Int, vs = [.int j] ∧ -(2 ^ 62) ≤ j ∧ j < 2 ^ 62 ∧ ForR j.toNat g tb D σ H1) : tFor (iRng1 ta) g tb D σ H := h
theorem forR_by {n : Nat} {g : TG} {tb : TS} {D : Ends} {σ : L2.St} {H : Hp} (Pv : Nat → L2.St → Hp → Prop) (h0 : Pv 0 σ H)
    (hs : ∀ i σ H, i < n → Pv i σ H → g (.int (0 + i)) σ H fun σ2 H2 => tb { D with nx := Pv (i + 1), ct := Pv (i + 1), bk := D.nx } σ2 H2) (hd : ∀ σ H, Pv n σ H → D.nx σ H) : ForR n g tb D σ H := for_range (lo := 0) (n := n) Pv h0 hs hd
theorem rg_ok {n : Nat} (h : n ≤ 100000) : -(2 ^ 62) ≤ ((n : Nat) : Int) ∧ ((n : Nat) : Int) < 2 ^ 62 := by constructor <;> omega
theorem cut_from {xs : List V} {k : Nat} (h : k ≤ xs.length) : cutV xs (some (k : Int)) none = xs.drop k := by
  unfold cutV
  rw [HT.sIx_none, HT.sIx_nat, Nat.min_eq_left h]
  exact List.take_of_length_le (by rw [List.length_drop]; exact Nat.le_refl _)
/-- xs.append(v) -/
theorem app_at {H : Hp} {l : Addr} {xs : List V} {v : V} {Q : VK} (h : H l = some (.lst xs)) (hl : xs.length ≤ 1000) (q : Q .non (upd H l (.lst (xs ++ [v])))) : rAppend (.ref l) [v] H Q := ⟨l, xs, v, rfl, rfl, h, small1000 hl, q⟩
/-- the same, what stands behind kept closed -/
theorem join_op {t R : TS} {D : Ends} {σ : L2.St} {H : Hp} (P : L2.St → Hp → Prop) (h2 : ∀ σ' H', P σ' H' → R D σ' H') (h1 : ∀ R' : TS, (∀ σ' H', P σ' H' → R' D σ' H') → tSeq t R' D σ H) : tSeq t R D σ H := h1 R h2
theorem ex_int {i : Int} {P : Int → Prop} (h : P i) : ∃ j, V.int i = V.int j ∧ P j := ⟨i, rfl, h⟩
theorem pi_tupA {X : Cx} {K : PySem.W.Frag} {tg l : Expr} {tl : TE} (h : X.K = K) (hl : PE X l tl) : PI X tg l (iTup K tl) := by subst h; exact pi_tup hl
/-- a for over a tuple, behind its iterable's reading -/
def ForT (K : PySem.W.Frag) (a : Addr) (g : TG) (tb : TS) (D : Ends) (σ : L2.St) (H : Hp) : Prop := ∃ W : Nat → Nat → L2.St → Hp → Prop, (∃ m, W 0 m σ H) ∧ ∀ i m σ H, W i m σ H →
  ((Itt K a).stop i H ∧ D.nx σ H) ∨ ((Itt K a).go i H ∧ ∃ N : L2.St → Hp → Prop, (∀ σ' H', N σ' H' → ∃ m', m' < m ∧ W (i + 1) m' σ' H') ∧ ∀ x H', (Itt K a).yld i H x H' → g x σ H' fun σ2 H2 => tb { D with nx := N, ct := N, bk := D.nx } σ2 H2)
theorem for_tp {K : PySem.W.Frag} {te : TE} {g : TG} {tb : TS} {D : Ends} {σ : L2.St} {H : Hp} (h : te σ H fun x H1 => ∃ a, x = .ref a ∧ (∃ xs, SqT K H1 a xs) ∧ ForT K a g tb D σ H1) : tFor (iTup K te) g tb D σ H := h
theorem forT_by {K : PySem.W.Frag} {a : Addr} {xs : List V} {g : TG} {tb : TS} {D : Ends} {σ : L2.St} {H : Hp} (Pv : Nat → L2.St → Hp → Prop) (h0 : Pv 0 σ H) (hl : ∀ i σ H, i ≤ xs.length → Pv i σ H → SqT K H a xs)
    (hs : ∀ i x σ H, xs[i]? = some x → Pv i σ H → g x σ H fun σ2 H2 => tb { D with nx := Pv (i + 1), ct := Pv (i + 1), bk := D.nx } σ2 H2) (hd : ∀ σ H, Pv xs.length σ H → D.nx σ H) : (∃ ys, SqT K H a ys) ∧ ForT K a g tb D σ H :=
  ⟨⟨xs, hl 0 σ H (Nat.zero_le _) h0⟩, for_tup (K := K) (a := a) (xs := xs) Pv h0 hl hs hd⟩
/-! ### own classes -/
/-- what isinstance asks of an own class -/
structure OwnCls (K : PySem.W.Frag) (C : Addr) : Prop where
  hc : PySem.W.findIn K (.ref C) "__class__" = some (some (.builtin "object.__class__"))
  hn : PySem.W.specialIn K (.builtin "object.__class__") "__get__" = some (some (.builtin "getset_descriptor.__get__"))
  ht : PySem.W.takesIn K (.builtin "object.__class__") = some true
  hm : PySem.W.mroIn K C (.type "object") = some true
/-- isinstance of an own instance and its class -/
theorem is_own {K : PySem.W.Frag} {H : Hp} {p C dx : Addr} {fs : List (Str × V)} {Q : VK} (h : H p = some (.ins C dx fs)) (c : Cls K C) (o : OwnCls K C) (q : Q (.bl true) H) : rIsi K [.ref p, .ref C] H Q :=
  ⟨.ref p, .ref C, _, _, true, rfl, .own C, .base (.ins h c o.hc o.hn o.ht o.hm), by unfold PySem.W.kitOne; simp, q⟩
/-- a new instance: nothing but what is tracked is told of the heap behind -/
def tMakeN (C : Addr) (sp : Sp) (dvs : List V) (E : XK) (t : TA) : TE := fun σ H Q => t σ H fun vs H1 => ∀ x dx H2, Same H1 H2 → H1 x = none → H2 x = some (.ins C dx []) → sp (.ref x :: (vs ++ dvs)) H2 (fun v H3 => v = .non ∧ Q (.ref x) H3) E
section
variable {X : Cx} {CX : CXT} {k : Nat} {f C : Addr} {fd : FuncData} {ps : List Str} {ds : List Value} {dvs : List V} {sp : Sp} {E : XK} {x : Str} {e : Expr} {es : List Expr} {t : TA} {p pos : Pos}
theorem pe_makeN (M : Mk X.K C f) (F : FnOk X.prog X.w X.K X.mg X.base CX k f fd ps sp) (hr : Room (k + 1) X.A) (hg : Gl X x) (hm : X.mg x = some (.ref C)) (hb : Binds X.K fd ps ds) (hd : Vals dvs ds) (hx : Passes CX X E)
    (ha : PA X (e :: es) t) (hdb : (x == ("__debug__" : Str)) = false := by decide) (he : starEach (e :: es) X.env = (false, eval e X.env) :: starEach es X.env := by rfl) (hpl : (backTo pos (starEach es X.env)).any (·.1) = false := by rfl) :
    PE X (.Call (.Name x p) (e :: es) [] pos) (tMakeN C sp dvs E t) :=
  pe_imp (pe_make M F hr hg hm hb hd hx (pa_wk ha) hdb he hpl) fun σ H Q q => ⟨_, q, fun vs H1 q2 a dx h1 h2 ne => q2 a dx _ (fun b o z => by rw [upd_ne (ne_of_none z h1), upd_ne (ne_of_none z h2)]; exact z) h1 upd_same⟩
end
/-! ### a call within a try, with what it leaves out -/
section
variable {X : Cx} {CX : CXT} {k : Nat} {f : Addr} {fd : FuncData} {ps : List Str} {sp : Sp} {E : L2.St → XK} {x : Str} {p pos : Pos} {e : Expr} {es : List Expr} {t : TA} {ds : List Value} {dvs : List V}
theorem run_fnSD {pins : List (Addr × Obj)} {σ : L2.St} {H : Hp} {s : Shared} {Q : VK} {us : List Value} {vs : List V} (F : FnOk X.prog X.w X.K X.mg X.base CX k f fd ps sp) (hr : Room k X.A) (hb : Binds X.K fd ps ds) (hd : Vals dvs ds) (hx : PassesAt CX X σ (E σ))
    (I : Inv X pins σ H s) (r : Vals vs us) (h : sp (vs ++ dvs) H Q (E σ)) : wpAny (model X.prog X.w) X.A (call (.ref f) us) (EP X pins σ Q) X.xe s := by
  have r2 : Vals (vs ++ dvs) (us ++ ds) := r.append hd
  have hl : (us ++ ds).length = ps.length := by rw [← r2.length]; exact F.len _ _ _ _ h
  refine wpAny_call (codeAny_mono (F.run X.A X.stack s H ⟨us, []⟩ (us ++ ds) (vs ++ dvs) Q (E σ) hr I.env0 (hb s us I.kIn hl) r2 h) fun r s' hq => ?_)
  cases r with
  | error e => exact hx pins H s e s' I hq
  | ok fl =>
    cases fl with
    | ret u => exact I.after hq
    | next => exact False.elim hq
    | brk => exact False.elim hq
    | cont => exact False.elim hq
def tCallSD (sp : Sp) (dvs : List V) (E : L2.St → XK) (t : TA) : TE := fun σ H Q => t σ H fun vs H1 => sp (vs ++ dvs) H1 Q (E σ)
theorem pe_callSD (F : FnOk X.prog X.w X.K X.mg X.base CX k f fd ps sp) (hr : Room k X.A) (hg : Gl X x) (hm : X.mg x = some (.ref f)) (hk : PySem.W.keepIn X.K (.ref f) = true) (hb : Binds X.K fd ps ds) (hd : Vals dvs ds) (hx : ∀ σ, PassesAt CX X σ (E σ))
    (ha : PA X (e :: es) t) (hdb : (x == ("__debug__" : Str)) = false := by decide) (he : starEach (e :: es) X.env = (false, eval e X.env) :: starEach es X.env := by rfl) (hpl : (backTo pos (starEach es X.env)).any (·.1) = false := by rfl) :
    PE X (.Call (.Name x p) (e :: es) [] pos) (tCallSD sp dvs E t) := by
  refine ⟨fun pins s σ H Q I h => ?_⟩
  refine wpAny_Call_Name_kw (ld_glob I hg hm ?_ hdb)
  refine PySem.W.callWith_K (h₀ := X.base) I.ok.mod.kin hk (thn (ha.run pos pins s σ H _ I h) fun us s1 ⟨vs, H1, I1, r, q⟩ => ⟨I1.kIn, ?_⟩) he hpl
  exact run_fnSD F hr hb hd (hx σ) I1 r q
end
/-- what simp leaves alone -/
def Kp (p : Prop) : Prop := p
theorem Kp.of {p : Prop} (h : p) : Kp p := h
end ZW

namespace ZW
open PySem PySem.Spec PyProof.Rows L2
theorem dvl_2 : DivOk 2 = True := eq_true ⟨by decide, by decide +kernel⟩
theorem dvl_3 : DivOk 3 = True := eq_true ⟨by decide, by decide +kernel⟩
theorem dvl_4 : DivOk 4 = True := eq_true ⟨by decide, by decide +kernel⟩
theorem dvl_5 : DivOk 5 = True := eq_true ⟨by decide, by decide +kernel⟩
theorem dvl_6 : DivOk 6 = True := eq_true ⟨by decide, by decide +kernel⟩
theorem dvl_7 : DivOk 7 = True := eq_true ⟨by decide, by decide +kernel⟩
theorem dvl_9 : DivOk 9 = True := eq_true ⟨by decide, by decide +kernel⟩
theorem dvl_18 : DivOk 18 = True := eq_true ⟨by decide, by decide +kernel⟩
theorem dvl_1000000000000000000000000000000 : DivOk 1000000000000000000000000000000 = True := eq_true ⟨by decide, by decide +kernel⟩
theorem dvl_1000000000000000000000000000000000000000000000 : DivOk 1000000000000000000000000000000000000000000000 = True := eq_true ⟨by decide, by decide +kernel⟩
theorem pwl_10_12 : CPow 10 12 = True := eq_true ⟨by decide, by decide, by decide +kernel⟩
theorem pwl_10_18 : CPow 10 18 = True := eq_true ⟨by decide, by decide, by decide +kernel⟩
theorem pwl_10_30 : CPow 10 30 = True := eq_true ⟨by decide, by decide, by decide +kernel⟩
theorem pwl_10_45 : CPow 10 45 = True := eq_true ⟨by decide, by decide, by decide +kernel⟩
end ZW
local macro_rules | `(tactic| walk_at "rd") => `(tactic| ((try simp only [L2.start, List.map_cons, List.map_nil, List.length_cons, List.length_nil, Nat.reduceAdd, Nat.zero_add, Nat.reduceSub, Nat.sub_self, List.replicate, List.cons_append, List.nil_append, List.append_nil]); try simp only [L2.tIfS, L2.tTest, L2.tB, L2.tOp, L2.tUn, L2.tVar, L2.tC, L2.tRet, L2.tRetN, L2.tNext, L2.tAsg, L2.tPar, L2.gName, L2.tCons, L2.tNil, L2.tCall, L2.tCB, L2.tAnd, L2.tOr, L2.tNot, L2.tAndV, L2.tOrV, L2.tNotV, L2.tIf, L2.rI0, L2.rI, L2.rU, L2.rAdd, L2.rSub, L2.rEq, L2.rNe, L2.scal, L2.tTup, L2.tLst, ZW.tTupN, ZW.tLstN, L2.tSl, L2.tPart, L2.tNoPart, ZW.rSlN, ZW.rCatN, ZW.rRepN, ZW.rListN, ZW.rIntB,  L2.tDrop, L2.tIsN, L2.tNotN, L2.tCmp, L2.t2I,
  List.map_cons, List.map_nil, List.length_cons, List.length_nil, List.append_nil, List.nil_append, List.cons_append, List.getElem?_cons_zero, List.getElem?_cons_succ, List.set_cons_zero, List.set_cons_succ, Nat.reduceSub, Nat.reduceAdd, Nat.sub_self, Nat.zero_add, List.getElem?_nil, List.append_eq,
  Option.some.injEq, L2.V.int.injEq, L2.V.bl.injEq, L2.V.ref.injEq, reduceCtorEq, exists_eq_left', exists_eq_left, exists_eq, true_and, and_true, exists_and_left, exists_eq_right, exists_eq_right', decide_true, decide_false, Bool.not_true, Bool.not_false, if_true, if_false, ite_true, ite_false, Bool.false_eq_true, List.cons.injEq, ite_self, and_self, and_assoc, L2.gCons, L2.gNil, Int.reduceToNat, Int.reduceMul, Int.reduceSub, Int.reduceAdd, Int.reduceNe, Int.reduceLE, Int.reduceLT, Int.reduceNeg, Int.reduceEq, ZW.dvl_2, ZW.dvl_3, ZW.dvl_4, ZW.dvl_5, ZW.dvl_6, ZW.dvl_7, ZW.dvl_9, ZW.dvl_18, ZW.dvl_1000000000000000000000000000000, ZW.dvl_1000000000000000000000000000000000000000000000, ZW.pwl_10_12, ZW.pwl_10_18, ZW.pwl_10_30, ZW.pwl_10_45, ZW.sz_line, Nat.reduceLT, Nat.reduceLeDiff, Nat.reduceLeDiff, ne_eq, not_false_eq_true, Int.reducePow, Int.pow_one,  forall_const, implies_true, ZW.cxK, ZW.ncast, L2.tCallS, ZW.tCallSD, ZW.tRevN, L2.tYes, L2.gSub, Int.zero_add, ZW.tDictN, L2.wipe, L2.tDGet, L2.tDIn, L2.tDNotIn, L2.sDPut]))
local macro_rules | `(tactic| walk_at "ix") => `(tactic| (walk_at "rd"; first | refine ZW.ix_l (L2.SqL.of (by assumption)) (by decide) rfl ?_ | refine ZW.ix_t (L2.SqT.of (by assumption)) (by decide) rfl ?_))
local macro_rules | `(tactic| walk_at "sq") => `(tactic| (walk_at "rd"; refine ZW.seq_step ?_; walk_at "rd"))
local macro_rules | `(tactic| walk_at "isT") => `(tactic| (walk_at "rd"; refine ZW.isi (r := true) (by first | exact .base (.int _) | exact .base (.bl _) | exact .base .non | exact .base (.str _) | exact .base (.tup (by assumption)) | exact .base (.lst (by assumption)) | exact .base (.dK (by assumption))) (by decide +kernel) ?_; walk_at "rd"))
local macro_rules | `(tactic| walk_at "isF") => `(tactic| (walk_at "rd"; refine ZW.isi (r := false) (by first | exact .base (.int _) | exact .base (.bl _) | exact .base .non | exact .base (.str _) | exact .base (.tup (by assumption)) | exact .base (.lst (by assumption)) | exact .base (.dK (by assumption))) (by decide +kernel) ?_; walk_at "rd"))
local macro_rules | `(tactic| walk_at "rt") => `(tactic| (walk_at "rd"; (try simp only [L2.V.str.injEq, L2.tChain, exists_eq_left', exists_eq_left, exists_eq_right', true_and, and_true, exists_and_left]); (try walk_at "rd"); (try simp only [L2.V.str.injEq, exists_eq_left', exists_eq_left, exists_eq_right', true_and, and_true, exists_and_left])))

namespace ZW
open PySem PySem.Spec PyProof.Rows L2
def topS (i : Nat) : Stmt := PySem.Challenge.pw_zonewalk_k62_whole_papers_hold.main.body.getD i (.Pass ⟨0, 0, 0, 0⟩)
abbrev s_is_whole : Stmt := topS 7
theorem sc_is_whole : FnScope ["thing"] ["thing"] (defScope s_is_whole) := ⟨rfl, rfl, rfl, by decide +kernel, rfl, by decide +kernel, by decide +kernel⟩
abbrev s_of_signs : Stmt := topS 15
theorem sc_of_signs : FnScope ["thing", "signs", "most", "sign"] ["thing", "signs", "most"] (defScope s_of_signs) := ⟨rfl, rfl, rfl, by decide +kernel, rfl, by decide +kernel, by decide +kernel⟩
abbrev s_is_name : Stmt := topS 16
theorem sc_is_name : FnScope ["thing"] ["thing"] (defScope s_is_name) := ⟨rfl, rfl, rfl, by decide +kernel, rfl, by decide +kernel, by decide +kernel⟩
abbrev s_is_watch_name : Stmt := topS 17
theorem sc_is_watch_name : FnScope ["thing"] ["thing"] (defScope s_is_watch_name) := ⟨rfl, rfl, rfl, by decide +kernel, rfl, by decide +kernel, by decide +kernel⟩
abbrev s_is_sign : Stmt := topS 18
theorem sc_is_sign : FnScope ["thing"] ["thing"] (defScope s_is_sign) := ⟨rfl, rfl, rfl, by decide +kernel, rfl, by decide +kernel, by decide +kernel⟩
abbrev s_is_look : Stmt := topS 19
theorem sc_is_look : FnScope ["thing", "words", "watches"] ["thing", "words", "watches"] (defScope s_is_look) := ⟨rfl, rfl, rfl, by decide +kernel, rfl, by decide +kernel, by decide +kernel⟩
abbrev s_is_guard : Stmt := topS 20
theorem sc_is_guard : FnScope ["thing", "words", "watches", "look"] ["thing", "words", "watches"] (defScope s_is_guard) := ⟨rfl, rfl, rfl, by decide +kernel, rfl, by decide +kernel, by decide +kernel⟩
abbrev s_unlike : Stmt := topS 21
theorem sc_unlike : FnScope ["things"] ["things"] (defScope s_unlike) := ⟨rfl, rfl, rfl, by decide +kernel, rfl, by decide +kernel, by decide +kernel⟩
abbrev s_own : Stmt := topS 22
theorem sc_own : FnScope ["thing"] ["thing"] (defScope s_own) := ⟨rfl, rfl, rfl, by decide +kernel, rfl, by decide +kernel, by decide +kernel⟩
abbrev s_Door_init : Stmt := inClass (topS 23) 0
theorem sc_Door_init : FnScope ["self", "start", "end", "guard", "noughts", "sign"] ["self", "start", "end", "guard", "noughts", "sign"] (defScope s_Door_init) := ⟨rfl, rfl, rfl, by decide +kernel, rfl, by decide +kernel, by decide +kernel⟩
abbrev s_Door_asks : Stmt := inClass (topS 23) 1
theorem sc_Door_asks : FnScope ["self"] ["self"] (defScope s_Door_asks) := ⟨rfl, rfl, rfl, by decide +kernel, rfl, by decide +kernel, by decide +kernel⟩
abbrev s_Door_sets : Stmt := inClass (topS 23) 2
theorem sc_Door_sets : FnScope ["self"] ["self"] (defScope s_Door_sets) := ⟨rfl, rfl, rfl, by decide +kernel, rfl, by decide +kernel, by decide +kernel⟩
abbrev s_are_watches : Stmt := topS 24
theorem sc_are_watches : FnScope ["thing", "watch"] ["thing"] (defScope s_are_watches) := ⟨rfl, rfl, rfl, by decide +kernel, rfl, by decide +kernel, by decide +kernel⟩
abbrev s_is_room : Stmt := topS 25
theorem sc_is_room : FnScope ["thing", "watches"] ["thing", "watches"] (defScope s_is_room) := ⟨rfl, rfl, rfl, by decide +kernel, rfl, by decide +kernel, by decide +kernel⟩
abbrev s_are_rooms : Stmt := topS 26
theorem sc_are_rooms : FnScope ["thing", "watches", "room"] ["thing", "watches"] (defScope s_are_rooms) := ⟨rfl, rfl, rfl, by decide +kernel, rfl, by decide +kernel, by decide +kernel⟩
abbrev s_is_door : Stmt := topS 27
theorem sc_is_door : FnScope ["thing", "watches", "names", "name", "noughts", "watch"] ["thing", "watches", "names"] (defScope s_is_door) := ⟨rfl, rfl, rfl, by decide +kernel, rfl, by decide +kernel, by decide +kernel⟩
abbrev s_Machine_init : Stmt := inClass (topS 28) 0
theorem sc_Machine_init : FnScope ["self", "watches", "rooms", "doors", "names", "room", "door"] ["self", "watches", "rooms", "doors"] (defScope s_Machine_init) := ⟨rfl, rfl, rfl, by decide +kernel, rfl, by decide +kernel, by decide +kernel⟩
abbrev s_Machine_watches : Stmt := inClass (topS 28) 1
theorem sc_Machine_watches : FnScope ["self"] ["self"] (defScope s_Machine_watches) := ⟨rfl, rfl, rfl, by decide +kernel, rfl, by decide +kernel, by decide +kernel⟩
abbrev s_Machine_rooms : Stmt := inClass (topS 28) 2
theorem sc_Machine_rooms : FnScope ["self"] ["self"] (defScope s_Machine_rooms) := ⟨rfl, rfl, rfl, by decide +kernel, rfl, by decide +kernel, by decide +kernel⟩
abbrev s_Machine_doors : Stmt := inClass (topS 28) 3
theorem sc_Machine_doors : FnScope ["self"] ["self"] (defScope s_Machine_doors) := ⟨rfl, rfl, rfl, by decide +kernel, rfl, by decide +kernel, by decide +kernel⟩
abbrev s_Machine_stay : Stmt := inClass (topS 28) 4
theorem sc_Machine_stay : FnScope ["self", "room"] ["self", "room"] (defScope s_Machine_stay) := ⟨rfl, rfl, rfl, by decide +kernel, rfl, by decide +kernel, by decide +kernel⟩
abbrev s_Machine_watch_number : Stmt := inClass (topS 28) 5
theorem sc_Machine_watch_number : FnScope ["self", "name"] ["self", "name"] (defScope s_Machine_watch_number) := ⟨rfl, rfl, rfl, by decide +kernel, rfl, by decide +kernel, by decide +kernel⟩
abbrev s_placed : Stmt := topS 29
theorem sc_placed : FnScope ["machine", "guard", "watches", "watch", "word", "number"] ["machine", "guard"] (defScope s_placed) := ⟨rfl, rfl, rfl, by decide +kernel, rfl, by decide +kernel, by decide +kernel⟩
abbrev s_at_most : Stmt := topS 31
theorem sc_at_most : FnScope ["number"] ["number"] (defScope s_at_most) := ⟨rfl, rfl, rfl, by decide +kernel, rfl, by decide +kernel, by decide +kernel⟩
abbrev s_below : Stmt := topS 32
theorem sc_below : FnScope ["number"] ["number"] (defScope s_below) := ⟨rfl, rfl, rfl, by decide +kernel, rfl, by decide +kernel, by decide +kernel⟩
abbrev s_number_of : Stmt := topS 33
theorem sc_number_of : FnScope ["bound"] ["bound"] (defScope s_number_of) := ⟨rfl, rfl, rfl, by decide +kernel, rfl, by decide +kernel, by decide +kernel⟩
abbrev s_added : Stmt := topS 34
theorem sc_added : FnScope ["one", "other"] ["one", "other"] (defScope s_added) := ⟨rfl, rfl, rfl, by decide +kernel, rfl, by decide +kernel, by decide +kernel⟩
abbrev s_narrower : Stmt := topS 35
theorem sc_narrower : FnScope ["one", "other"] ["one", "other"] (defScope s_narrower) := ⟨rfl, rfl, rfl, by decide +kernel, rfl, by decide +kernel, by decide +kernel⟩
abbrev s_wider : Stmt := topS 36
theorem sc_wider : FnScope ["one", "other"] ["one", "other"] (defScope s_wider) := ⟨rfl, rfl, rfl, by decide +kernel, rfl, by decide +kernel, by decide +kernel⟩
abbrev s_through_zones : Stmt := topS 39
theorem sc_through_zones : FnScope ["rows", "k", "way", "row", "j"] ["rows", "k"] (defScope s_through_zones) := ⟨rfl, rfl, rfl, by decide +kernel, rfl, by decide +kernel, by decide +kernel⟩
abbrev s_narrowest : Stmt := topS 41
theorem sc_narrowest : FnScope ["zone", "rows", "i", "k", "row"] ["zone"] (defScope s_narrowest) := ⟨rfl, rfl, rfl, by decide +kernel, rfl, by decide +kernel, by decide +kernel⟩
abbrev s_everywhere : Stmt := topS 42
theorem sc_everywhere : FnScope ["many", "rows", "i", "row"] ["many"] (defScope s_everywhere) := ⟨rfl, rfl, rfl, by decide +kernel, rfl, by decide +kernel, by decide +kernel⟩
abbrev s_nought : Stmt := topS 43
theorem sc_nought : FnScope ["many", "i"] ["many"] (defScope s_nought) := ⟨rfl, rfl, rfl, by decide +kernel, rfl, by decide +kernel, by decide +kernel⟩
abbrev s_within : Stmt := topS 44
theorem sc_within : FnScope ["one", "other", "row", "wide", "bound", "most"] ["one", "other"] (defScope s_within) := ⟨rfl, rfl, rfl, by decide +kernel, rfl, by decide +kernel, by decide +kernel⟩
abbrev s_copied : Stmt := topS 46
theorem sc_copied : FnScope ["zone", "row"] ["zone"] (defScope s_copied) := ⟨rfl, rfl, rfl, by decide +kernel, rfl, by decide +kernel, by decide +kernel⟩
abbrev s_met : Stmt := topS 47
theorem sc_met : FnScope ["zone", "guard", "rows", "place", "word", "number"] ["zone", "guard"] (defScope s_met) := ⟨rfl, rfl, rfl, by decide +kernel, rfl, by decide +kernel, by decide +kernel⟩
abbrev s_waited : Stmt := topS 48
theorem sc_waited : FnScope ["zone", "rows", "row"] ["zone"] (defScope s_waited) := ⟨rfl, rfl, rfl, by decide +kernel, rfl, by decide +kernel, by decide +kernel⟩
abbrev s_put_back : Stmt := topS 49
theorem sc_put_back : FnScope ["zone", "places", "rows", "place", "row"] ["zone", "places"] (defScope s_put_back) := ⟨rfl, rfl, rfl, by decide +kernel, rfl, by decide +kernel, by decide +kernel⟩
abbrev s_freed : Stmt := topS 50
theorem sc_freed : FnScope ["zone", "place", "rows", "j"] ["zone", "place"] (defScope s_freed) := ⟨rfl, rfl, rfl, by decide +kernel, rfl, by decide +kernel, by decide +kernel⟩
abbrev s_folded : Stmt := topS 51
theorem sc_folded : FnScope ["zone", "mosts", "rows", "greatest", "i", "j", "bound"] ["zone", "mosts"] (defScope s_folded) := ⟨rfl, rfl, rfl, by decide +kernel, rfl, by decide +kernel, by decide +kernel⟩
abbrev s_checked_goal : Stmt := topS 53
theorem sc_checked_goal : FnScope ["machine", "goal", "rooms", "room", "guard"] ["machine", "goal"] (defScope s_checked_goal) := ⟨rfl, rfl, rfl, by decide +kernel, rfl, by decide +kernel, by decide +kernel⟩
abbrev s_hit_by : Stmt := topS 54
theorem sc_hit_by : FnScope ["machine", "goal", "room", "zone", "name", "guard"] ["machine", "goal", "room", "zone"] (defScope s_hit_by) := ⟨rfl, rfl, rfl, by decide +kernel, rfl, by decide +kernel, by decide +kernel⟩
abbrev s_guards_of : Stmt := topS 55
theorem sc_guards_of : FnScope ["machine", "goal", "room", "found", "door", "guard"] ["machine", "goal"] (defScope s_guards_of) := ⟨rfl, rfl, rfl, by decide +kernel, rfl, by decide +kernel, by decide +kernel⟩
abbrev s_greatest : Stmt := topS 56
theorem sc_greatest : FnScope ["machine", "goal", "most", "guard", "watch", "word", "number"] ["machine", "goal"] (defScope s_greatest) := ⟨rfl, rfl, rfl, by decide +kernel, rfl, by decide +kernel, by decide +kernel⟩
abbrev s_settled : Stmt := topS 58
theorem sc_settled : FnScope ["machine", "room", "zone", "mosts", "free", "stay"] ["machine", "room", "zone", "mosts", "free"] (defScope s_settled) := ⟨rfl, rfl, rfl, by decide +kernel, rfl, by decide +kernel, by decide +kernel⟩
abbrev s_through_search : Stmt := topS 59
theorem sc_through_search : FnScope ["machine", "zone", "door", "watch"] ["machine", "zone", "door"] (defScope s_through_search) := ⟨rfl, rfl, rfl, by decide +kernel, rfl, by decide +kernel, by decide +kernel⟩
abbrev s_next_node : Stmt := topS 61
theorem sc_next_node : FnScope ["machine", "nodes", "at", "number", "mosts", "free", "door", "room", "zone", "before", "last"] ["machine", "nodes", "at", "number", "mosts", "free"] (defScope s_next_node) := ⟨rfl, rfl, rfl, by decide +kernel, rfl, by decide +kernel, by decide +kernel⟩
abbrev s_is_new : Stmt := topS 62
theorem sc_is_new : FnScope ["nodes", "node", "other"] ["nodes", "node"] (defScope s_is_new) := ⟨rfl, rfl, rfl, by decide +kernel, rfl, by decide +kernel, by decide +kernel⟩
abbrev s_put : Stmt := topS 63
theorem sc_put : FnScope ["nodes", "node", "most"] ["nodes", "node", "most"] (defScope s_put) := ⟨rfl, rfl, rfl, by decide +kernel, rfl, by decide +kernel, by decide +kernel⟩
abbrev s_listed : Stmt := topS 64
theorem sc_listed : FnScope ["machine", "goal", "most", "free", "stops", "mosts", "place", "room", "zone", "nodes", "at", "number", "node"] ["machine", "goal", "most", "free", "stops"] (defScope s_listed) := ⟨rfl, rfl, rfl, by decide +kernel, rfl, by decide +kernel, by decide +kernel⟩
abbrev s_searched : Stmt := topS 65
theorem sc_searched : FnScope ["machine", "goal", "most", "free"] ["machine", "goal", "most", "free"] (defScope s_searched) := ⟨rfl, rfl, rfl, by decide +kernel, rfl, by decide +kernel, by decide +kernel⟩
abbrev s_narrow_zones : Stmt := topS 67
theorem sc_narrow_zones : FnScope ["machine", "paper", "found", "room", "zone"] ["machine", "paper"] (defScope s_narrow_zones) := ⟨rfl, rfl, rfl, by decide +kernel, rfl, by decide +kernel, by decide +kernel⟩
abbrev s_covered : Stmt := topS 68
theorem sc_covered : FnScope ["zones", "zone", "other"] ["zones", "zone"] (defScope s_covered) := ⟨rfl, rfl, rfl, by decide +kernel, rfl, by decide +kernel, by decide +kernel⟩
abbrev s_in_stay : Stmt := topS 69
theorem sc_in_stay : FnScope ["machine", "room", "zone"] ["machine", "room", "zone"] (defScope s_in_stay) := ⟨rfl, rfl, rfl, by decide +kernel, rfl, by decide +kernel, by decide +kernel⟩
abbrev s_is_closed : Stmt := topS 70
theorem sc_is_closed : FnScope ["machine", "zones", "room", "zone", "door", "behind"] ["machine", "zones", "room", "zone"] (defScope s_is_closed) := ⟨rfl, rfl, rfl, by decide +kernel, rfl, by decide +kernel, by decide +kernel⟩
abbrev s_lets_by : Stmt := topS 71
theorem sc_lets_by : FnScope ["machine", "goal", "paper", "zones", "room", "some", "zone"] ["machine", "goal", "paper"] (defScope s_lets_by) := ⟨rfl, rfl, rfl, by decide +kernel, rfl, by decide +kernel, by decide +kernel⟩
abbrev s_l_cell_at : Stmt := topS 73
theorem sc_l_cell_at : FnScope ["_law_script", "_law_k"] ["_law_script", "_law_k"] (defScope s_l_cell_at) := ⟨rfl, rfl, rfl, by decide +kernel, rfl, by decide +kernel, by decide +kernel⟩
abbrev s_l_stream : Stmt := topS 74
theorem sc_l_stream : FnScope ["_law_cell", "_law_many", "_law_found", "_law_rest", "_law_k", "_law_number"] ["_law_cell", "_law_many"] (defScope s_l_stream) := ⟨rfl, rfl, rfl, by decide +kernel, rfl, by decide +kernel, by decide +kernel⟩
abbrev s_l_looks : Stmt := topS 75
theorem sc_l_looks : FnScope ["_law_xs", "_law_many", "_law_watches", "_law_unit", "_law_words", "_law_looks_here", "_law_k", "_law_number"] ["_law_xs", "_law_many", "_law_watches", "_law_unit", "_law_words"] (defScope s_l_looks) := ⟨rfl, rfl, rfl, by decide +kernel, rfl, by decide +kernel, by decide +kernel⟩
abbrev s_l_parts : Stmt := topS 76
theorem sc_l_parts : FnScope ["_law_script", "_law_watches", "_law_unit", "_law_words", "_law_rooms", "_law_k", "_law_xs", "_law_doors", "_law_cell", "_law_begin", "_law_end", "_law_guard", "_law_noughts", "_law_goal", "_law_watch"] ["_law_script", "_law_watches", "_law_unit"] (defScope s_l_parts) := ⟨rfl, rfl, rfl, by decide +kernel, rfl, by decide +kernel, by decide +kernel⟩
abbrev s_l_meets : Stmt := topS 77
theorem sc_l_meets : FnScope ["_law_looks_here", "_law_values", "_law_watch", "_law_word", "_law_number", "_law_top", "_law_bottom", "_law_due"] ["_law_looks_here", "_law_values"] (defScope s_l_meets) := ⟨rfl, rfl, rfl, by decide +kernel, rfl, by decide +kernel, by decide +kernel⟩
abbrev s_l_lowest : Stmt := topS 78
theorem sc_l_lowest : FnScope ["_law_top", "_law_bottom", "_law_one", "_law_other"] ["_law_top", "_law_bottom"] (defScope s_l_lowest) := ⟨rfl, rfl, rfl, by decide +kernel, rfl, by decide +kernel, by decide +kernel⟩
abbrev s_l_later : Stmt := topS 79
theorem sc_l_later : FnScope ["_law_values", "_law_wait", "_law_found", "_law_watch", "_law_value"] ["_law_values", "_law_wait"] (defScope s_l_later) := ⟨rfl, rfl, rfl, by decide +kernel, rfl, by decide +kernel, by decide +kernel⟩
abbrev s_l_stay : Stmt := topS 80
theorem sc_l_stay : FnScope ["_law_rooms", "_law_room", "_law_name", "_law_stay_here"] ["_law_rooms", "_law_room"] (defScope s_l_stay) := ⟨rfl, rfl, rfl, by decide +kernel, rfl, by decide +kernel, by decide +kernel⟩
abbrev s_l_wait_for : Stmt := topS 81
theorem sc_l_wait_for : FnScope ["_law_guard", "_law_values", "_law_x", "_law_unit", "_law_wait", "_law_watch", "_law_word", "_law_number", "_law_top", "_law_bottom", "_law_lack", "_law_more"] ["_law_guard", "_law_values", "_law_x", "_law_unit"] (defScope s_l_wait_for) := ⟨rfl, rfl, rfl, by decide +kernel, rfl, by decide +kernel, by decide +kernel⟩
abbrev s_l_steps : Stmt := topS 82
theorem sc_l_steps : FnScope ["_law_rooms", "_law_doors", "_law_goal", "_law_cells", "_law_watches", "_law_unit", "_law_room", "_law_values", "_law_watch", "_law_found", "_law_cell", "_law_xs", "_law_door", "_law_here", "_law_wait", "_law_later_here", "_law_behind"] ["_law_rooms", "_law_doors", "_law_goal", "_law_cells", "_law_watches", "_law_unit"] (defScope s_l_steps) := ⟨rfl, rfl, rfl, by decide +kernel, rfl, by decide +kernel, by decide +kernel⟩
abbrev s_l_nodes : Stmt := topS 83
theorem sc_l_nodes : FnScope ["_law_machine", "_law_goal", "_law_nodes_here", "_law_hit", "_law_node"] ["_law_machine", "_law_goal"] (defScope s_l_nodes) := ⟨rfl, rfl, rfl, by decide +kernel, rfl, by decide +kernel, by decide +kernel⟩
abbrev s_l_wide : Stmt := topS 84
theorem sc_l_wide : FnScope ["_law_zone", "_law_cell", "_law_rows", "_law_k", "_law_row"] ["_law_zone", "_law_cell"] (defScope s_l_wide) := ⟨rfl, rfl, rfl, by decide +kernel, rfl, by decide +kernel, by decide +kernel⟩
abbrev s_l_papers : Stmt := topS 85
theorem sc_l_papers : FnScope ["_law_machine", "_law_goal", "_law_cell", "_law_many", "_law_found", "_law_paper", "_law_at", "_law_room", "_law_empty", "_law_k", "_law_name", "_law_zone"] ["_law_machine", "_law_goal", "_law_cell", "_law_many"] (defScope s_l_papers) := ⟨rfl, rfl, rfl, by decide +kernel, rfl, by decide +kernel, by decide +kernel⟩
abbrev s_law : Stmt := topS 86
theorem sc_law : FnScope ["_law_script", "_law_first", "_law_watches", "_law_unit", "_law_rooms", "_law_doors", "_law_goal", "_law_shut", "_law_name", "_law_machine", "_law_stood", "_law_broken", "_law_room", "_law_values", "_law_guard", "_law_paper", "_law_told", "_law_door", "_law_stay_here"] ["_law_script"] (defScope s_law) := ⟨rfl, rfl, rfl, by decide +kernel, rfl, by decide +kernel, by decide +kernel⟩
structure Top (K : PySem.W.Frag) (mg : Str → Option Value) where
  C_Door : Addr
  g_Door : mg "Door" = some (.ref C_Door)
  cl_Door : Cls K C_Door
  ty_Door : OwnCls K C_Door
  n_Door_backs : NoAttr K C_Door "backs"
  n_Door_end : NoAttr K C_Door "end"
  n_Door_looks : NoAttr K C_Door "looks"
  n_Door_sign : NoAttr K C_Door "sign"
  n_Door_start : NoAttr K C_Door "start"
  C_Machine : Addr
  g_Machine : mg "Machine" = some (.ref C_Machine)
  cl_Machine : Cls K C_Machine
  ty_Machine : OwnCls K C_Machine
  n_Machine_door_list : NoAttr K C_Machine "door_list"
  n_Machine_room_names : NoAttr K C_Machine "room_names"
  n_Machine_stay_looks : NoAttr K C_Machine "stay_looks"
  n_Machine_watch_names : NoAttr K C_Machine "watch_names"
  t_BELOW : Addr
  g_BELOW : mg "BELOW" = some (.ref t_BELOW)
  q_BELOW : ∀ H, SqT K H t_BELOW ((["<", "<="] : List Str).map V.str)
  t_WORDS : Addr
  g_WORDS : mg "WORDS" = some (.ref t_WORDS)
  q_WORDS : ∀ H, SqT K H t_WORDS ((["<", "<=", ">", ">=", "="] : List Str).map V.str)
  f_is_whole : Addr
  d_is_whole : FuncData
  F_is_whole : Fun K "is_whole" "is_whole" s_is_whole f_is_whole d_is_whole
  b_is_whole : Binds K d_is_whole ["thing"] []
  g_is_whole : mg "is_whole" = some (.ref f_is_whole)
  f_of_signs : Addr
  d_of_signs : FuncData
  F_of_signs : Fun K "of_signs" "of_signs" s_of_signs f_of_signs d_of_signs
  b_of_signs : Binds K d_of_signs ["thing", "signs", "most"] []
  g_of_signs : mg "of_signs" = some (.ref f_of_signs)
  f_is_name : Addr
  d_is_name : FuncData
  F_is_name : Fun K "is_name" "is_name" s_is_name f_is_name d_is_name
  b_is_name : Binds K d_is_name ["thing"] []
  g_is_name : mg "is_name" = some (.ref f_is_name)
  f_is_watch_name : Addr
  d_is_watch_name : FuncData
  F_is_watch_name : Fun K "is_watch_name" "is_watch_name" s_is_watch_name f_is_watch_name d_is_watch_name
  b_is_watch_name : Binds K d_is_watch_name ["thing"] []
  g_is_watch_name : mg "is_watch_name" = some (.ref f_is_watch_name)
  f_is_sign : Addr
  d_is_sign : FuncData
  F_is_sign : Fun K "is_sign" "is_sign" s_is_sign f_is_sign d_is_sign
  b_is_sign : Binds K d_is_sign ["thing"] []
  g_is_sign : mg "is_sign" = some (.ref f_is_sign)
  f_is_look : Addr
  d_is_look : FuncData
  F_is_look : Fun K "is_look" "is_look" s_is_look f_is_look d_is_look
  b_is_look : Binds K d_is_look ["thing", "words", "watches"] []
  g_is_look : mg "is_look" = some (.ref f_is_look)
  f_is_guard : Addr
  d_is_guard : FuncData
  F_is_guard : Fun K "is_guard" "is_guard" s_is_guard f_is_guard d_is_guard
  b_is_guard : Binds K d_is_guard ["thing", "words", "watches"] []
  g_is_guard : mg "is_guard" = some (.ref f_is_guard)
  f_unlike : Addr
  d_unlike : FuncData
  F_unlike : Fun K "unlike" "unlike" s_unlike f_unlike d_unlike
  b_unlike : Binds K d_unlike ["things"] []
  g_unlike : mg "unlike" = some (.ref f_unlike)
  f_own : Addr
  d_own : FuncData
  F_own : Fun K "own" "own" s_own f_own d_own
  b_own : Binds K d_own ["thing"] []
  g_own : mg "own" = some (.ref f_own)
  f_Door_init : Addr
  d_Door_init : FuncData
  F_Door_init : FunD K "__init__" "Door.__init__" (defArgs s_Door_init) (defBody s_Door_init) (defScope s_Door_init) [.str ""] [] f_Door_init d_Door_init
  b_Door_init : Binds K d_Door_init ["self", "start", "end", "guard", "noughts", "sign"] []
  mk_Door : Mk K C_Door f_Door_init
  dv_Door_init : List Value
  v_Door_init : Vals [.str ""] dv_Door_init
  bd_Door_init : Binds K d_Door_init ["self", "start", "end", "guard", "noughts", "sign"] dv_Door_init
  f_Door_asks : Addr
  d_Door_asks : FuncData
  F_Door_asks : Fun K "asks" "Door.asks" s_Door_asks f_Door_asks d_Door_asks
  b_Door_asks : Binds K d_Door_asks ["self"] []
  m_Door_asks : Meth K C_Door "asks" f_Door_asks
  f_Door_sets : Addr
  d_Door_sets : FuncData
  F_Door_sets : Fun K "sets" "Door.sets" s_Door_sets f_Door_sets d_Door_sets
  b_Door_sets : Binds K d_Door_sets ["self"] []
  m_Door_sets : Meth K C_Door "sets" f_Door_sets
  f_are_watches : Addr
  d_are_watches : FuncData
  F_are_watches : Fun K "are_watches" "are_watches" s_are_watches f_are_watches d_are_watches
  b_are_watches : Binds K d_are_watches ["thing"] []
  g_are_watches : mg "are_watches" = some (.ref f_are_watches)
  f_is_room : Addr
  d_is_room : FuncData
  F_is_room : Fun K "is_room" "is_room" s_is_room f_is_room d_is_room
  b_is_room : Binds K d_is_room ["thing", "watches"] []
  g_is_room : mg "is_room" = some (.ref f_is_room)
  f_are_rooms : Addr
  d_are_rooms : FuncData
  F_are_rooms : Fun K "are_rooms" "are_rooms" s_are_rooms f_are_rooms d_are_rooms
  b_are_rooms : Binds K d_are_rooms ["thing", "watches"] []
  g_are_rooms : mg "are_rooms" = some (.ref f_are_rooms)
  f_is_door : Addr
  d_is_door : FuncData
  F_is_door : Fun K "is_door" "is_door" s_is_door f_is_door d_is_door
  b_is_door : Binds K d_is_door ["thing", "watches", "names"] []
  g_is_door : mg "is_door" = some (.ref f_is_door)
  f_Machine_init : Addr
  d_Machine_init : FuncData
  F_Machine_init : Fun K "__init__" "Machine.__init__" s_Machine_init f_Machine_init d_Machine_init
  b_Machine_init : Binds K d_Machine_init ["self", "watches", "rooms", "doors"] []
  mk_Machine : Mk K C_Machine f_Machine_init
  f_Machine_watches : Addr
  d_Machine_watches : FuncData
  F_Machine_watches : Fun K "watches" "Machine.watches" s_Machine_watches f_Machine_watches d_Machine_watches
  b_Machine_watches : Binds K d_Machine_watches ["self"] []
  m_Machine_watches : Meth K C_Machine "watches" f_Machine_watches
  f_Machine_rooms : Addr
  d_Machine_rooms : FuncData
  F_Machine_rooms : Fun K "rooms" "Machine.rooms" s_Machine_rooms f_Machine_rooms d_Machine_rooms
  b_Machine_rooms : Binds K d_Machine_rooms ["self"] []
  m_Machine_rooms : Meth K C_Machine "rooms" f_Machine_rooms
  f_Machine_doors : Addr
  d_Machine_doors : FuncData
  F_Machine_doors : Fun K "doors" "Machine.doors" s_Machine_doors f_Machine_doors d_Machine_doors
  b_Machine_doors : Binds K d_Machine_doors ["self"] []
  m_Machine_doors : Meth K C_Machine "doors" f_Machine_doors
  f_Machine_stay : Addr
  d_Machine_stay : FuncData
  F_Machine_stay : Fun K "stay" "Machine.stay" s_Machine_stay f_Machine_stay d_Machine_stay
  b_Machine_stay : Binds K d_Machine_stay ["self", "room"] []
  m_Machine_stay : Meth K C_Machine "stay" f_Machine_stay
  f_Machine_watch_number : Addr
  d_Machine_watch_number : FuncData
  F_Machine_watch_number : Fun K "watch_number" "Machine.watch_number" s_Machine_watch_number f_Machine_watch_number d_Machine_watch_number
  b_Machine_watch_number : Binds K d_Machine_watch_number ["self", "name"] []
  m_Machine_watch_number : Meth K C_Machine "watch_number" f_Machine_watch_number
  f_placed : Addr
  d_placed : FuncData
  F_placed : Fun K "placed" "placed" s_placed f_placed d_placed
  b_placed : Binds K d_placed ["machine", "guard"] []
  g_placed : mg "placed" = some (.ref f_placed)
  f_at_most : Addr
  d_at_most : FuncData
  F_at_most : Fun K "at_most" "at_most" s_at_most f_at_most d_at_most
  b_at_most : Binds K d_at_most ["number"] []
  g_at_most : mg "at_most" = some (.ref f_at_most)
  f_below : Addr
  d_below : FuncData
  F_below : Fun K "below" "below" s_below f_below d_below
  b_below : Binds K d_below ["number"] []
  g_below : mg "below" = some (.ref f_below)
  f_number_of : Addr
  d_number_of : FuncData
  F_number_of : Fun K "number_of" "number_of" s_number_of f_number_of d_number_of
  b_number_of : Binds K d_number_of ["bound"] []
  g_number_of : mg "number_of" = some (.ref f_number_of)
  f_added : Addr
  d_added : FuncData
  F_added : Fun K "added" "added" s_added f_added d_added
  b_added : Binds K d_added ["one", "other"] []
  g_added : mg "added" = some (.ref f_added)
  f_narrower : Addr
  d_narrower : FuncData
  F_narrower : Fun K "narrower" "narrower" s_narrower f_narrower d_narrower
  b_narrower : Binds K d_narrower ["one", "other"] []
  g_narrower : mg "narrower" = some (.ref f_narrower)
  f_wider : Addr
  d_wider : FuncData
  F_wider : Fun K "wider" "wider" s_wider f_wider d_wider
  b_wider : Binds K d_wider ["one", "other"] []
  g_wider : mg "wider" = some (.ref f_wider)
  f_through_zones : Addr
  d_through_zones : FuncData
  F_through_zones : Fun K "through" "through" s_through_zones f_through_zones d_through_zones
  b_through_zones : Binds K d_through_zones ["rows", "k"] []
  g_through_zones : mg "through_zones" = some (.ref f_through_zones)
  f_narrowest : Addr
  d_narrowest : FuncData
  F_narrowest : Fun K "narrowest" "narrowest" s_narrowest f_narrowest d_narrowest
  b_narrowest : Binds K d_narrowest ["zone"] []
  g_narrowest : mg "narrowest" = some (.ref f_narrowest)
  f_everywhere : Addr
  d_everywhere : FuncData
  F_everywhere : Fun K "everywhere" "everywhere" s_everywhere f_everywhere d_everywhere
  b_everywhere : Binds K d_everywhere ["many"] []
  g_everywhere : mg "everywhere" = some (.ref f_everywhere)
  f_nought : Addr
  d_nought : FuncData
  F_nought : Fun K "nought" "nought" s_nought f_nought d_nought
  b_nought : Binds K d_nought ["many"] []
  g_nought : mg "nought" = some (.ref f_nought)
  f_within : Addr
  d_within : FuncData
  F_within : Fun K "within" "within" s_within f_within d_within
  b_within : Binds K d_within ["one", "other"] []
  g_within : mg "within" = some (.ref f_within)
  f_copied : Addr
  d_copied : FuncData
  F_copied : Fun K "copied" "copied" s_copied f_copied d_copied
  b_copied : Binds K d_copied ["zone"] []
  g_copied : mg "copied" = some (.ref f_copied)
  f_met : Addr
  d_met : FuncData
  F_met : Fun K "met" "met" s_met f_met d_met
  b_met : Binds K d_met ["zone", "guard"] []
  g_met : mg "met" = some (.ref f_met)
  f_waited : Addr
  d_waited : FuncData
  F_waited : Fun K "waited" "waited" s_waited f_waited d_waited
  b_waited : Binds K d_waited ["zone"] []
  g_waited : mg "waited" = some (.ref f_waited)
  f_put_back : Addr
  d_put_back : FuncData
  F_put_back : Fun K "put_back" "put_back" s_put_back f_put_back d_put_back
  b_put_back : Binds K d_put_back ["zone", "places"] []
  g_put_back : mg "put_back" = some (.ref f_put_back)
  f_freed : Addr
  d_freed : FuncData
  F_freed : Fun K "freed" "freed" s_freed f_freed d_freed
  b_freed : Binds K d_freed ["zone", "place"] []
  g_freed : mg "freed" = some (.ref f_freed)
  f_folded : Addr
  d_folded : FuncData
  F_folded : Fun K "folded" "folded" s_folded f_folded d_folded
  b_folded : Binds K d_folded ["zone", "mosts"] []
  g_folded : mg "folded" = some (.ref f_folded)
  f_checked_goal : Addr
  d_checked_goal : FuncData
  F_checked_goal : Fun K "checked_goal" "checked_goal" s_checked_goal f_checked_goal d_checked_goal
  b_checked_goal : Binds K d_checked_goal ["machine", "goal"] []
  g_checked_goal : mg "checked_goal" = some (.ref f_checked_goal)
  f_hit_by : Addr
  d_hit_by : FuncData
  F_hit_by : Fun K "hit_by" "hit_by" s_hit_by f_hit_by d_hit_by
  b_hit_by : Binds K d_hit_by ["machine", "goal", "room", "zone"] []
  g_hit_by : mg "hit_by" = some (.ref f_hit_by)
  f_guards_of : Addr
  d_guards_of : FuncData
  F_guards_of : Fun K "guards_of" "guards_of" s_guards_of f_guards_of d_guards_of
  b_guards_of : Binds K d_guards_of ["machine", "goal"] []
  g_guards_of : mg "guards_of" = some (.ref f_guards_of)
  f_greatest : Addr
  d_greatest : FuncData
  F_greatest : Fun K "greatest" "greatest" s_greatest f_greatest d_greatest
  b_greatest : Binds K d_greatest ["machine", "goal"] []
  g_greatest : mg "greatest" = some (.ref f_greatest)
  f_settled : Addr
  d_settled : FuncData
  F_settled : Fun K "settled" "settled" s_settled f_settled d_settled
  b_settled : Binds K d_settled ["machine", "room", "zone", "mosts", "free"] []
  g_settled : mg "settled" = some (.ref f_settled)
  f_through_search : Addr
  d_through_search : FuncData
  F_through_search : Fun K "through" "through" s_through_search f_through_search d_through_search
  b_through_search : Binds K d_through_search ["machine", "zone", "door"] []
  g_through_search : mg "through_search" = some (.ref f_through_search)
  f_next_node : Addr
  d_next_node : FuncData
  F_next_node : Fun K "next_node" "next_node" s_next_node f_next_node d_next_node
  b_next_node : Binds K d_next_node ["machine", "nodes", "at", "number", "mosts", "free"] []
  g_next_node : mg "next_node" = some (.ref f_next_node)
  f_is_new : Addr
  d_is_new : FuncData
  F_is_new : Fun K "is_new" "is_new" s_is_new f_is_new d_is_new
  b_is_new : Binds K d_is_new ["nodes", "node"] []
  g_is_new : mg "is_new" = some (.ref f_is_new)
  f_put : Addr
  d_put : FuncData
  F_put : Fun K "put" "put" s_put f_put d_put
  b_put : Binds K d_put ["nodes", "node", "most"] []
  g_put : mg "put" = some (.ref f_put)
  f_listed : Addr
  d_listed : FuncData
  F_listed : Fun K "listed" "listed" s_listed f_listed d_listed
  b_listed : Binds K d_listed ["machine", "goal", "most", "free", "stops"] []
  g_listed : mg "listed" = some (.ref f_listed)
  f_searched : Addr
  d_searched : FuncData
  F_searched : FunD K "searched" "searched" (defArgs s_searched) (defBody s_searched) (defScope s_searched) [.int 200, .non] [] f_searched d_searched
  b_searched : Binds K d_searched ["machine", "goal", "most", "free"] []
  g_searched : mg "searched" = some (.ref f_searched)
  dv_searched : List Value
  v_searched : Vals [.int 200, .non] dv_searched
  bd_searched : Binds K d_searched ["machine", "goal", "most", "free"] dv_searched
  dv1_searched : List Value
  v1_searched : Vals [.non] dv1_searched
  bd1_searched : Binds K d_searched ["machine", "goal", "most", "free"] dv1_searched
  f_narrow_zones : Addr
  d_narrow_zones : FuncData
  F_narrow_zones : Fun K "narrow_zones" "narrow_zones" s_narrow_zones f_narrow_zones d_narrow_zones
  b_narrow_zones : Binds K d_narrow_zones ["machine", "paper"] []
  g_narrow_zones : mg "narrow_zones" = some (.ref f_narrow_zones)
  f_covered : Addr
  d_covered : FuncData
  F_covered : Fun K "covered" "covered" s_covered f_covered d_covered
  b_covered : Binds K d_covered ["zones", "zone"] []
  g_covered : mg "covered" = some (.ref f_covered)
  f_in_stay : Addr
  d_in_stay : FuncData
  F_in_stay : Fun K "in_stay" "in_stay" s_in_stay f_in_stay d_in_stay
  b_in_stay : Binds K d_in_stay ["machine", "room", "zone"] []
  g_in_stay : mg "in_stay" = some (.ref f_in_stay)
  f_is_closed : Addr
  d_is_closed : FuncData
  F_is_closed : Fun K "is_closed" "is_closed" s_is_closed f_is_closed d_is_closed
  b_is_closed : Binds K d_is_closed ["machine", "zones", "room", "zone"] []
  g_is_closed : mg "is_closed" = some (.ref f_is_closed)
  f_lets_by : Addr
  d_lets_by : FuncData
  F_lets_by : Fun K "lets_by" "lets_by" s_lets_by f_lets_by d_lets_by
  b_lets_by : Binds K d_lets_by ["machine", "goal", "paper"] []
  g_lets_by : mg "lets_by" = some (.ref f_lets_by)
  f_l_cell_at : Addr
  d_l_cell_at : FuncData
  F_l_cell_at : Fun K "_law_cell_at" "_law_cell_at" s_l_cell_at f_l_cell_at d_l_cell_at
  b_l_cell_at : Binds K d_l_cell_at ["_law_script", "_law_k"] []
  g_l_cell_at : mg "_law_cell_at" = some (.ref f_l_cell_at)
  f_l_stream : Addr
  d_l_stream : FuncData
  F_l_stream : Fun K "_law_stream" "_law_stream" s_l_stream f_l_stream d_l_stream
  b_l_stream : Binds K d_l_stream ["_law_cell", "_law_many"] []
  g_l_stream : mg "_law_stream" = some (.ref f_l_stream)
  f_l_looks : Addr
  d_l_looks : FuncData
  F_l_looks : Fun K "_law_looks" "_law_looks" s_l_looks f_l_looks d_l_looks
  b_l_looks : Binds K d_l_looks ["_law_xs", "_law_many", "_law_watches", "_law_unit", "_law_words"] []
  g_l_looks : mg "_law_looks" = some (.ref f_l_looks)
  f_l_parts : Addr
  d_l_parts : FuncData
  F_l_parts : Fun K "_law_parts" "_law_parts" s_l_parts f_l_parts d_l_parts
  b_l_parts : Binds K d_l_parts ["_law_script", "_law_watches", "_law_unit"] []
  g_l_parts : mg "_law_parts" = some (.ref f_l_parts)
  f_l_meets : Addr
  d_l_meets : FuncData
  F_l_meets : Fun K "_law_meets" "_law_meets" s_l_meets f_l_meets d_l_meets
  b_l_meets : Binds K d_l_meets ["_law_looks_here", "_law_values"] []
  g_l_meets : mg "_law_meets" = some (.ref f_l_meets)
  f_l_lowest : Addr
  d_l_lowest : FuncData
  F_l_lowest : Fun K "_law_lowest" "_law_lowest" s_l_lowest f_l_lowest d_l_lowest
  b_l_lowest : Binds K d_l_lowest ["_law_top", "_law_bottom"] []
  g_l_lowest : mg "_law_lowest" = some (.ref f_l_lowest)
  f_l_later : Addr
  d_l_later : FuncData
  F_l_later : Fun K "_law_later" "_law_later" s_l_later f_l_later d_l_later
  b_l_later : Binds K d_l_later ["_law_values", "_law_wait"] []
  g_l_later : mg "_law_later" = some (.ref f_l_later)
  f_l_stay : Addr
  d_l_stay : FuncData
  F_l_stay : Fun K "_law_stay" "_law_stay" s_l_stay f_l_stay d_l_stay
  b_l_stay : Binds K d_l_stay ["_law_rooms", "_law_room"] []
  g_l_stay : mg "_law_stay" = some (.ref f_l_stay)
  f_l_wait_for : Addr
  d_l_wait_for : FuncData
  F_l_wait_for : Fun K "_law_wait_for" "_law_wait_for" s_l_wait_for f_l_wait_for d_l_wait_for
  b_l_wait_for : Binds K d_l_wait_for ["_law_guard", "_law_values", "_law_x", "_law_unit"] []
  g_l_wait_for : mg "_law_wait_for" = some (.ref f_l_wait_for)
  f_l_steps : Addr
  d_l_steps : FuncData
  F_l_steps : Fun K "_law_steps" "_law_steps" s_l_steps f_l_steps d_l_steps
  b_l_steps : Binds K d_l_steps ["_law_rooms", "_law_doors", "_law_goal", "_law_cells", "_law_watches", "_law_unit"] []
  g_l_steps : mg "_law_steps" = some (.ref f_l_steps)
  f_l_nodes : Addr
  d_l_nodes : FuncData
  F_l_nodes : Fun K "_law_nodes" "_law_nodes" s_l_nodes f_l_nodes d_l_nodes
  b_l_nodes : Binds K d_l_nodes ["_law_machine", "_law_goal"] []
  g_l_nodes : mg "_law_nodes" = some (.ref f_l_nodes)
  f_l_wide : Addr
  d_l_wide : FuncData
  F_l_wide : Fun K "_law_wide" "_law_wide" s_l_wide f_l_wide d_l_wide
  b_l_wide : Binds K d_l_wide ["_law_zone", "_law_cell"] []
  g_l_wide : mg "_law_wide" = some (.ref f_l_wide)
  f_l_papers : Addr
  d_l_papers : FuncData
  F_l_papers : Fun K "_law_papers" "_law_papers" s_l_papers f_l_papers d_l_papers
  b_l_papers : Binds K d_l_papers ["_law_machine", "_law_goal", "_law_cell", "_law_many"] []
  g_l_papers : mg "_law_papers" = some (.ref f_l_papers)
  f_law : Addr
  d_law : FuncData
  F_law : Fun K "law" "law" s_law f_law d_law
  b_law : Binds K d_law ["_law_script"] []
  g_law : mg "law" = some (.ref f_law)
  C_BadMachine : Addr
  g_BadMachine : mg "BadMachine" = some (.ref C_BadMachine)
  x_BadMachine : PySem.W.excIn K C_BadMachine [.type "ValueError", .type "Exception", .type "BaseException", .type "object"] "ValueError.__new__" = true
  k_BadMachine : PySem.W.keepIn K (.ref C_BadMachine) = true
  b_BadMachine : PySem.W.subIn K (.ref C_BadMachine) (.type "BaseException") = some true
  t_BadMachine : PySem.W.typeIn K (.ref C_BadMachine) = some (.type "type")
  i_BadMachine : PySem.W.isClsIn K C_BadMachine = true
  C_TooMany : Addr
  g_TooMany : mg "TooMany" = some (.ref C_TooMany)
  x_TooMany : PySem.W.excIn K C_TooMany [.type "ValueError", .type "Exception", .type "BaseException", .type "object"] "ValueError.__new__" = true
  k_TooMany : PySem.W.keepIn K (.ref C_TooMany) = true
  b_TooMany : PySem.W.subIn K (.ref C_TooMany) (.type "BaseException") = some true
  t_TooMany : PySem.W.typeIn K (.ref C_TooMany) = some (.type "type")
  i_TooMany : PySem.W.isClsIn K C_TooMany = true
  C_NoMark : Addr
  g_NoMark : mg "NoMark" = some (.ref C_NoMark)
  x_NoMark : PySem.W.excIn K C_NoMark [.type "ValueError", .type "Exception", .type "BaseException", .type "object"] "ValueError.__new__" = true
  k_NoMark : PySem.W.keepIn K (.ref C_NoMark) = true
  b_NoMark : PySem.W.subIn K (.ref C_NoMark) (.type "BaseException") = some true
  t_NoMark : PySem.W.typeIn K (.ref C_NoMark) = some (.type "type")
  i_NoMark : PySem.W.isClsIn K C_NoMark = true
  C_NoRoom : Addr
  g_NoRoom : mg "NoRoom" = some (.ref C_NoRoom)
  x_NoRoom : PySem.W.excIn K C_NoRoom [.type "ValueError", .type "Exception", .type "BaseException", .type "object"] "ValueError.__new__" = true
  k_NoRoom : PySem.W.keepIn K (.ref C_NoRoom) = true
  b_NoRoom : PySem.W.subIn K (.ref C_NoRoom) (.type "BaseException") = some true
  t_NoRoom : PySem.W.typeIn K (.ref C_NoRoom) = some (.type "type")
  i_NoRoom : PySem.W.isClsIn K C_NoRoom = true
  t_LETTERS : Tok
  g_LETTERS : mg "LETTERS" = some (.str "abcdefghijklmnopqrstuvwxyz" t_LETTERS)
  t_MOST_DOORS : Tok
  g_MOST_DOORS : mg "MOST_DOORS" = some (.int 200 t_MOST_DOORS)
  t_MOST_ROOMS : Tok
  g_MOST_ROOMS : mg "MOST_ROOMS" = some (.int 64 t_MOST_ROOMS)
  t_MOST_WATCHES : Tok
  g_MOST_WATCHES : mg "MOST_WATCHES" = some (.int 7 t_MOST_WATCHES)
  t_NOUGHT : Tok
  g_NOUGHT : mg "NOUGHT" = some (.int 1 t_NOUGHT)
  m_abs : mg "abs" = none
  m_all : mg "all" = none
  m_any : mg "any" = none
  m_bool : mg "bool" = none
  m_dict : mg "dict" = none
  m_enumerate : mg "enumerate" = none
  m_int : mg "int" = none
  m_isinstance : mg "isinstance" = none
  m_len : mg "len" = none
  m_list : mg "list" = none
  m_max : mg "max" = none
  m_min : mg "min" = none
  m_range : mg "range" = none
  m_set : mg "set" = none
  m_str : mg "str" = none
  m_tuple : mg "tuple" = none
  m_zip : mg "zip" = none
  e4_TooMany : PySem.W.hasDictIn K C_TooMany = true
  s_TooMany_TooMany : PySem.W.subIn K (.ref C_TooMany) (.ref C_TooMany) = some true
/-! ### len(set(xs)) of a list of texts -/
/-- the set at a holds the first i texts: it has i members just where no two of these are one -/
def SetUp (P : Program) (w : World) (h : Heap) (a : Addr) (xs : List Str) (i : Nat) : Prop :=
  ∃ c, c ≤ i ∧ (c = i ↔ (xs.take i).Nodup) ∧ h.SetOf (PySem.strKind P w) a (fun k => decide (k ∈ xs.take i)) c
section
variable {P : Program} {w : World} {A : Around} {h h' : Heap} {a it : Addr} {xs : List Str} {i n : Nat}
theorem SetUp.keep (U : SetUp P w h a xs i) (k : ∀ o, h.get? a = some o → h'.get? a = some o) : SetUp P w h' a xs i := by
  obtain ⟨c, hc, hd, o, es, ep, t, ho, r⟩ := U
  exact ⟨c, hc, hd, o, es, ep, t, k o ho, r⟩
theorem nodup_snoc {l : List Str} {x : Str} : (l ++ [x]).Nodup ↔ l.Nodup ∧ x ∉ l := by
  rw [List.nodup_append]
  constructor
  · rintro ⟨p, _, q⟩
    exact ⟨p, fun hx => q x hx x (List.mem_singleton.mpr rfl) rfl⟩
  · rintro ⟨p, q⟩
    exact ⟨p, by simp, fun y hy z hz e => q (by rw [← List.mem_singleton.mp hz, ← e]; exact hy)⟩
theorem setUp_add {c : Nat} {x : Str} (hx : xs[i]? = some x) (hc : c ≤ i) (hd : c = i ↔ (xs.take i).Nodup)
    (S : h.SetOf (PySem.strKind P w) a (fun k => decide (k ∈ xs.take i) || decide (k = x)) (if decide (x ∈ xs.take i) = true then c else c + 1)) : SetUp P w h a xs (i + 1) := by
  have e : xs.take (i + 1) = xs.take i ++ [x] := by rw [List.take_add_one, hx]; rfl
  refine ⟨_, ?_, ?_, PyProof.Rows.SetOf_congr S (fun k => by rw [e]; simp) rfl⟩
  · split <;> omega
  · rw [e, nodup_snoc, ← hd]
    by_cases m : x ∈ xs.take i
    · rw [if_pos (decide_eq_true m)]
      exact ⟨fun z => by omega, fun z => absurd m z.2⟩
    · rw [if_neg (by simpa using m)]
      exact ⟨fun z => ⟨by omega, m⟩, fun z => by omega⟩
theorem setUp_loop {R : Result → Shared → Prop} {fp wr : List Addr} {G : Array GenState → Array GenState → Prop} {Pv : Nat → Value → Prop} {St : Nat → Shared → Prop} (W : WalksS P w A.in1 it fp wr G n Pv St) (ha : a ∉ fp)
    (few : n + 1 < scanBound) (hv : ∀ i v, Pv i v → ∃ x t, xs[i]? = some x ∧ v = Value.str x t) (k : Nat) : ∀ (i : Nat) (s : Shared), i + k = n → St i s → SetUp P w s.heap a xs i →
    (∀ z, Moved (a :: wr) G s z → SetUp P w z.heap a xs n → R (.ok (.ret .none)) z) → codeAny (model P w) A (.builtin "set.update.loop" ⟨[.ref a, .ref it], []⟩) R s := by
  have aw : a ∉ wr := fun z => ha (W.sub _ z)
  have up : ∀ b ∈ wr, b ∈ a :: wr := fun b z => List.mem_cons_of_mem _ z
  induction k with
  | zero =>
    intro i s hk st U fin
    obtain rfl : i = n := by omega
    refine codeAny_builtin PyProof.Rows.F.entry_set_update_loop (by rw [Around.under_plainId PyProof.Rows.F.plain_set_update_loop _]; exact wpAny_bind (W.done s _ _ st fun z m => wpAny_pure (fin z (m.mono up) (U.keep fun o e => m.heap a o aw e))))
  | succ k ih =>
    intro i s hk st U fin
    refine codeAny_builtin PyProof.Rows.F.entry_set_update_loop ?_; rw [Around.under_plainId PyProof.Rows.F.plain_set_update_loop _]
    refine wpAny_bind (m := pyNext (.ref it)) (W.item i s _ _ (by omega) st fun v z pv sz m => ?_)
    obtain ⟨x, t, hx, rfl⟩ := hv i v pv
    obtain ⟨c, hc, hd, S⟩ := U.keep fun o e => m.heap a o aw e
    refine wpAny_bind (m := holding [Value.str x t] (setAdd a (.str x t))) (wpAny_holding ?_)
    unfold setAdd
    refine wpAny_holding (wpAny_bind ((PySem.strKind P w).pyHash (k := x) (strKind_is _ _ _ _) ?_))
    refine wpAny_setAddHashed_of (knd := PySem.strKind P w) (s := { z with toks := z.toks + 1 }) (strKind_is _ _ _ _) rfl S (by omega) fun g sb S2 => wpAny_pure ⟨plainId_quiet PyProof.Rows.F.plain_set_update_loop _, ?_⟩
    refine ih (i + 1) _ (by omega) (W.frame _ z _ _ sz (Nat.le_succ _) fun b hb o e => ?_) (setUp_add hx hc hd S2) fun y m2 U2 => fin y (Moved.trans W.gtrans ((m.mono up).then_heap (Nat.le_succ _) fun b o hb e => ?_) m2) U2
    · exact (sb.2 b fun q => ha (q ▸ hb)).trans e
    · exact (sb.2 b fun q => hb (q ▸ List.mem_cons_self)).trans e
end
/-- a set that was just made -/
abbrev rawSet (led : Bool) : Obj := { cls := .type "set", dict := none, data := .set #[] 0 (.fresh 0 0 led) }
section
variable {P : Program} {w : World} {A : Around} {E : Value → Shared → Prop}
theorem setUp_init {s : Shared} {l a : Addr} {items : Array Value} {xs : List Str} {led : Bool} {Q : Value → Shared → Prop} (hh : A.handled = none) (hl : s.heap.IsList l items) (hn : items.size = xs.length) (few : xs.length + 1 < scanBound)
    (hv : ∀ (i : Nat) (v : Value), items[i]? = some v → ∃ (x : Str) (t : Tok), xs[i]? = some x ∧ v = Value.str x t) (ho : s.heap.get? a = some (rawSet led)) (al : a ≠ l)
    (fin : ∀ g tk, SetUp P w g a xs xs.length → (∀ b o, b ≠ a → s.heap.get? b = some o → g.get? b = some o) → Q .none { s with heap := g, toks := tk }) :
    wpAny (model P w) A.in1 (Builtin.«set.__init__» ⟨[.ref a, .ref l], []⟩) (fun r z => ∃ v, r = .done (.ret v) ∧ Q v z) E s := by
  obtain ⟨⟨ocls, odict, odata, oslots⟩, eo, ec, nl, ed⟩ := hl
  simp only at ec ed
  subst ec; subst ed
  have lst : s.heap.IsList l items := ⟨_, eo, rfl, nl, rfl⟩
  have f1 := PySem.F.sub_list_set
  have f2 := PySem.F.sub_list_frozenset
  have f3 : (Value.type "list" == Value.type "dict") = false := by decide
  unfold Builtin.«set.__init__» noKeywords Builtin.Frozenset.updateFrom
  generalize hp : pyIter = PI
  wp_walk
  subst hp
  refine wpAny_pyIter_list lst (wpAny_bind (wpAny_runValue ?_))
  have la : a < s.heap.objs.size := Heap.lt_size ho
  have ll : l < s.heap.objs.size := Heap.lt_size eo
  refine setUp_loop ((Walks.list (by simp [hh]) _ l (Nat.ne_of_lt ll) items).toS) ?_ (n := items.size) (by omega) hv items.size 0 _ (by omega) ⟨⟨_, Heap.get?_push_size _ rfl, rfl, rfl⟩, lst.push _⟩ ?_ fun z m U => ?_
  · intro z
    rcases List.mem_cons.mp z with z | z
    · exact absurd z (Nat.ne_of_lt la)
    · exact al (List.mem_singleton.mp z)
  · exact ⟨0, Nat.le_refl 0, by simp, PyProof.Rows.SetOf_congr ((PyProof.Rows.setObjOf_fresh (knd := PySem.strKind P w) led).setOf (Heap.get?_push_of_some _ ho) (by decide)) (fun k => by simp) rfl⟩
  · obtain ⟨g, gs, dr, tk, os⟩ := z
    obtain rfl : gs = s.gens := m.gens
    obtain rfl : dr = s.drawn := m.drawn
    obtain rfl : os = s.os := m.os
    rw [hn] at U
    refine wpAny_pure (wpAny_pure ⟨.none, rfl, fin g tk U fun b o hb e => m.heap b o (fun z => ?_) (Heap.get?_push_of_some _ e)⟩)
    have := Heap.lt_size e
    rcases List.mem_cons.mp z with z | z
    · exact hb z
    · exact absurd (List.mem_singleton.mp z) (Nat.ne_of_lt this)
end
section
variable {P : Program} {w : World} {A : Around} {E : Value → Shared → Prop}
theorem set_texts {s : Shared} {l : Addr} {items : Array Value} {xs : List Str} {Q : Value → Shared → Prop} (hh : A.handled = none) (hl : s.heap.IsList l items) (hn : items.size = xs.length) (few : xs.length + 1 < scanBound)
    (hv : ∀ (i : Nat) (v : Value), items[i]? = some v → ∃ (x : Str) (t : Tok), xs[i]? = some x ∧ v = Value.str x t)
    (fin : ∀ g tk, SetUp P w g s.heap.objs.size xs xs.length → (∀ b o, s.heap.get? b = some o → g.get? b = some o) → Q (.ref s.heap.objs.size) { s with heap := g, toks := tk }) :
    wpAny (model P w) A (call (.type "set") [.ref l]) Q E s := by
  obtain ⟨cs, tl, f0⟩ := PySem.F.called_set.mro
  have f1 := PySem.F.called_set.made
  have f2 := PySem.F.called_set.sub
  have f3 := PySem.F.called_set.notType
  have f4 := PySem.F.called_set.canCreate
  have f5 := PySem.F.typeCall_set_1 (.ref l)
  refine wpAny_call (codeAny_of_tree (wpAny_pure ⟨Code.quiet_builtin _ (by decide +kernel), codeAny_builtin PySem.F.entry_type_call ?_⟩))
  rw [Around.under_plain (weight_type_call_type "set" [.ref l] []) rfl]
  repeat (any_goals (first | assumption | wp_step))
  refine codeAny_mono (code_set_new_1 (.ref l) (E := E) (Q₁ := fun v z => ∃ led : Bool, v = .ref s.heap.objs.size ∧ z = { s with heap := s.heap.push (rawSet led) }) fun led => ⟨led, rfl, rfl⟩) fun r z hr => ?_
  rcases r with e | f
  · exact hr
  cases f with
  | ret v =>
    obtain ⟨led, rfl, rfl⟩ := hr
    have ho : (s.heap.push (rawSet led)).get? s.heap.objs.size = some (rawSet led) := Heap.get?_push_size _ rfl
    have ty : Shared.TypeIs { s with heap := s.heap.push (rawSet led) } (.ref s.heap.objs.size) "set" := ⟨_, ho, rfl⟩
    have f6 := PySem.F.called_set.init.lookup
    have f7 := PySem.F.called_set.init.bind (.ref s.heap.objs.size)
    repeat (any_goals (first | assumption | wp_step))
    obtain ⟨ol, eo, _⟩ := id hl
    have ll : l < s.heap.objs.size := Heap.lt_size eo
    have body := setUp_init (P := P) (w := w) (A := A.in1) (E := E) (s := { s with heap := s.heap.push (rawSet led) }) (led := led) (Q := fun v z => v = .none ∧ ∃ g tk, z = { s with heap := g, toks := tk } ∧ SetUp P w g s.heap.objs.size xs xs.length ∧ ∀ b o, s.heap.get? b = some o → g.get? b = some o) (by simp [hh]) (hl.push _) hn few hv ho (Nat.ne_of_gt ll)
      fun g tk U k => ⟨rfl, g, tk, rfl, U, fun b o e => k b o (Nat.ne_of_lt (Heap.lt_size e)) (Heap.get?_push_of_some _ e)⟩
    refine codeAny_call_builtin PySem.F.called_set.init.plain PySem.F.entry_set_init (check_set_init_1 ty (wpAny_mono body (fun r z hr => ?_) (fun e z he => he)))
    obtain ⟨v, rfl, rfl, g, tk, rfl, U, k⟩ := hr
    repeat (any_goals (first | assumption | wp_step))
    exact fin g tk U k
  | _ => exact hr.elim
end
def tLenSetN (K : PySem.W.Frag) (ta : TE) : TE := fun σ H Q => ta σ H fun x H1 => ∃ l, ∃ xs : List Str, x = .ref l ∧ SqL K H1 l (xs.map V.str) ∧ xs.length + 1 < scanBound ∧ ∀ c : Nat, c ≤ xs.length → (c = xs.length ↔ xs.Nodup) → Q (.int c) H1
section
variable {X : Cx}
theorem pe_lenSetN {a : Expr} {ta : TE} {p p2 q pos : Pos} (hc : X.calm = true) (hg : Gl X "len") (hm : X.mg "len" = none) (hg2 : Gl X "set") (hm2 : X.mg "set" = none) (ha : PE X a ta)
    (na : starEach [a] X.env = (false, eval a X.env) :: starEach [] X.env := by rfl) : PE X (.Call (.Name "len" p) [.Call (.Name "set" p2) [a] [] q] [] pos) (tLenSetN X.K ta) := by
  refine ⟨fun pins s σ H Q I h => Call_ (ld_blt I hg hm boot_len (PyProof.Rows.callWith_builtin1 (PyProof.Rows.args_cons (Call_ (ld_blt I hg2 hm2 boot_set ?_)) rfl) rfl rfl))⟩
  refine PyProof.Rows.callWith_type1 (PyProof.Rows.args_cons (thn (ha.run pins s σ H _ I h) fun v z ⟨x, H1, J, r, t⟩ => PyProof.Rows.args_nil ?_) na) na rfl
  obtain ⟨l, xs, rfl, hq, few, t⟩ := t
  cases r
  obtain ⟨its, rv, pl, _⟩ := J.list hq
  have hl : its.toArray.size = xs.length := by rw [List.size_toArray, ← rv.length, List.length_map]
  refine set_texts (J.ok.hd hc) pl.isList hl few (fun i v hv => ?_) fun g tk U k => PyProof.Rows.args_nil ?_
  · have hi : i < xs.length := by rw [← hl]; exact (Array.getElem?_eq_some_iff.mp hv).1
    have hx := List.getElem?_eq_getElem hi
    obtain ⟨u, hu, t, rfl⟩ := rv.get (i := i) (x := .str xs[i]) (by rw [List.getElem?_map, hx]; rfl)
    rw [List.getElem?_toArray, hu] at hv
    exact ⟨xs[i], t, hx, (Option.some.inj hv).symm⟩
  · obtain ⟨c, hc, hd, o, es, ep, tb, ho, he, hd2, _, _, _, hf, hs⟩ := U
    rw [List.take_length] at hd
    have J2 : Inv X pins σ H1 { z with heap := g, toks := tk } := J.kept k
    refine call_len_set ho he hd2 hf (by rw [hs]; unfold scanBound at few; omega) ⟨.int c, H1, J2.tok _, ⟨_, by rw [hs]⟩, t c hc hd⟩
end
/-! ### zones: lists of lists of bounds -/
abbrev Mx := Nat → Nat → Option Int
def up2 (M : Mx) (i j : Nat) (v : Option Int) : Mx := fun a b => if a = i ∧ b = j then v else M a b
def zrow (n : Nat) (f : Nat → Option Int) : List V := (List.range n).map fun j => oV (f j)
theorem zrow_len (n : Nat) (f : Nat → Option Int) : (zrow n f).length = n := by simp [zrow]
theorem zrow_get {n j : Nat} (f : Nat → Option Int) (h : j < n) : (zrow n f)[j]? = some (oV (f j)) := by simp [zrow, h]
theorem zrow_set {n i j : Nat} (M : Mx) (v : Option Int) : (zrow n (M i)).set j (oV v) = zrow n (up2 M i j v i) := by
  apply List.ext_getElem?
  intro k
  by_cases hk : k < n
  · rw [zrow_get _ hk, List.getElem?_set]
    by_cases e : j = k
    · subst e; simp [zrow_len, hk, up2]
    · rw [if_neg e, zrow_get _ hk]
      have : ¬ k = j := fun z => e z.symm
      simp [up2, this]
  · rw [List.getElem?_eq_none (by simp [zrow]; omega), List.getElem?_eq_none (by simp [zrow]; omega)]
theorem zrow_other {n i a j : Nat} (M : Mx) (v : Option Int) (h : a ≠ i) : zrow n (up2 M i j v a) = zrow n (M a) := by
  unfold zrow up2
  apply List.map_congr_left
  intro b _
  rw [if_neg (fun z => h z.1)]
/-- the zone M of n places stands at p, its rows at as -/
structure ZAt (H : Hp) (p : Addr) (as : List Addr) (n : Nat) (M : Mx) : Prop where
  top : H p = some (.lst (as.map V.ref))
  len : as.length = n
  row : ∀ (i : Nat) (a : Addr), as[i]? = some a → H a = some (.lst (zrow n (M i)))
  nd : as.Nodup
theorem ZAt.np {H : Hp} {p : Addr} {as : List Addr} {n : Nat} {M : Mx} (z : ZAt H p as n M) : p ∉ as := by
  intro hp
  obtain ⟨i, hi, e⟩ := List.mem_iff_getElem.mp hp
  have r := z.row i p (by rw [List.getElem?_eq_getElem hi, e])
  have t := z.top
  rw [r] at t
  have e2 : zrow n (M i) = as.map V.ref := by
    have := Option.some.inj t
    injection this
  have h0 : (zrow n (M i))[i]? = (as.map V.ref)[i]? := by rw [e2]
  rw [zrow_get _ (by rw [← z.len]; exact hi), List.getElem?_map, List.getElem?_eq_getElem hi] at h0
  have h1 := Option.some.inj h0
  cases hM : M i i with
  | none => rw [hM] at h1; cases h1
  | some v => rw [hM] at h1; cases h1
theorem ZAt.get {H : Hp} {p : Addr} {as : List Addr} {n : Nat} {M : Mx} (z : ZAt H p as n M) {i : Nat} (h : i < n) : ∃ a, as[i]? = some a ∧ (as.map V.ref)[i]? = some (.ref a) ∧ H a = some (.lst (zrow n (M i))) := by
  have hl : i < as.length := by rw [z.len]; exact h
  refine ⟨as[i], List.getElem?_eq_getElem hl, ?_, z.row i _ (List.getElem?_eq_getElem hl)⟩
  rw [List.getElem?_map, List.getElem?_eq_getElem hl]; rfl
theorem ZAt.set {H : Hp} {p a : Addr} {as : List Addr} {n i j : Nat} {M : Mx} (z : ZAt H p as n M) (v : Option Int) (ha : as[i]? = some a) : ZAt (upd H a (.lst ((zrow n (M i)).set j (oV v)))) p as n (up2 M i j v) := by
  refine ⟨?_, z.len, fun i' a' h' => ?_, z.nd⟩
  · rw [upd_ne (fun e => z.np (by rw [e]; exact List.mem_of_getElem? ha))]; exact z.top
  · by_cases e : i' = i
    · subst e
      obtain rfl : a = a' := Option.some.inj (ha.symm.trans h')
      rw [upd_same, zrow_set]
    · have na : a' ≠ a := fun q => e (nd_ix z.nd h' (by rw [q]; exact ha))
      rw [upd_ne na, z.row i' a' h', zrow_other _ _ e]
theorem ZAt.keep {H H' : Hp} {p : Addr} {as : List Addr} {n : Nat} {M : Mx} (z : ZAt H p as n M) (s : Same H H') : ZAt H' p as n M := ⟨s _ _ z.top, z.len, fun i a h => s _ _ (z.row i a h), z.nd⟩
def iter (f : Nat → Mx → Mx) : Nat → Mx → Mx
  | 0, M => M
  | i + 1, M => f i (iter f i M)
def cell1 (k i j : Nat) (M : Mx) : Mx := up2 M i j (narO (M i j) (addO (M i k) (M k j)))
def rowst (n k i : Nat) (M : Mx) : Mx := if M i k = none then M else iter (cell1 k i) n M
def thr (n k : Nat) (M : Mx) : Mx := iter (rowst n k) n M
def diag1 (i : Nat) (M : Mx) : Mx := up2 (up2 M i i (narO (M i i) (some 1))) 0 i (narO (up2 M i i (narO (M i i) (some 1)) 0 i) (some 1))
def nrw (n : Nat) (M : Mx) : Mx := iter (thr n) n (iter diag1 n M)
/-- all bounds of at most s bits -/
def SzM (s : Nat) (M : Mx) : Prop := ∀ i j v, M i j = some v → Sz s v
theorem SzM.mono {s t : Nat} {M : Mx} (h : SzM s M) (l : s ≤ t) : SzM t M := fun i j v e => (h i j v e).mono l
theorem addO_sz {s : Nat} {x y : Option Int} (hx : ∀ v, x = some v → Sz s v) (hy : ∀ v, y = some v → Sz s v) {v : Int} (h : addO x y = some v) : Sz (s + 2) v := by
  cases x with
  | none => cases h
  | some a =>
    cases y with
    | none => cases h
    | some b =>
      have e := Option.some.inj h
      have h1 := hx a rfl
      have h2 := hy b rfl
      have p : (2 : Nat) ^ (s + 2) = 2 ^ s * 4 := by rw [Nat.pow_add]
      have p0 : 0 < (2 : Nat) ^ s := Nat.pow_pos (by decide)
      unfold Sz at *
      rw [p, ← e]
      split <;> omega
theorem narO_sz {s : Nat} {x y : Option Int} (hx : ∀ v, x = some v → Sz s v) (hy : ∀ v, y = some v → Sz s v) {v : Int} (h : narO x y = some v) : Sz s v := by
  cases x with
  | none => exact hy v h
  | some a =>
    cases y with
    | none => exact hx v h
    | some b =>
      have e := Option.some.inj h
      rw [← e]
      split
      · exact hy b rfl
      · exact hx a rfl
theorem up2_sz {s : Nat} {M : Mx} {i j : Nat} {w : Option Int} (h : SzM s M) (hw : ∀ v, w = some v → Sz s v) : SzM s (up2 M i j w) := fun a b v e => by
  unfold up2 at e
  split at e
  · exact hw v e
  · exact h a b v e
theorem cell1_sz {s : Nat} {M : Mx} {k i j : Nat} (h : SzM s M) : SzM (s + 2) (cell1 k i j M) :=
  up2_sz (h.mono (by omega)) fun v e => narO_sz (fun v e => (h i j v e).mono (by omega)) (fun v e => addO_sz (fun v e => h i k v e) (fun v e => h k j v e) e) e
theorem iter_sz {f : Nat → Mx → Mx} {c s : Nat} {M : Mx} (hf : ∀ i s M, SzM s M → SzM (s + c) (f i M)) (h : SzM s M) : ∀ m, SzM (s + c * m) (iter f m M)
  | 0 => h
  | m + 1 => (hf m _ _ (iter_sz hf h m)).mono (by rw [Nat.mul_succ]; omega)
theorem rowst_sz {n k i s : Nat} {M : Mx} (h : SzM s M) : SzM (s + 2 * n) (rowst n k i M) := by
  unfold rowst
  split
  · exact h.mono (by omega)
  · exact iter_sz (fun _ _ _ h => cell1_sz h) h n
theorem thr_sz {n k s : Nat} {M : Mx} (h : SzM s M) : SzM (s + 2 * n * n) (thr n k M) := iter_sz (fun _ _ _ h => rowst_sz h) h n
theorem diag1_sz {i s : Nat} {M : Mx} (hs : 1 ≤ s) (h : SzM s M) : SzM s (diag1 i M) := by
  have one : Sz s 1 := by
    have : (2 : Nat) ^ 1 ≤ 2 ^ s := Nat.pow_le_pow_right (by decide) hs
    unfold Sz; omega
  have a : SzM s (up2 M i i (narO (M i i) (some 1))) := up2_sz h fun v e => narO_sz (fun v e => h i i v e) (fun v e => by cases e; exact one) e
  exact up2_sz a fun v e => narO_sz (fun v e => a 0 i v e) (fun v e => by cases e; exact one) e
theorem diags_sz {s : Nat} {M : Mx} (hs : 1 ≤ s) (h : SzM s M) : ∀ m, SzM s (iter diag1 m M)
  | 0 => h
  | m + 1 => diag1_sz hs (diags_sz hs h m)
theorem half_sz {s : Nat} {a b : Int} (h1 : Sz s a) (h2 : Sz s b) (h : s ≤ 9990) : Sz 10000 (a / 2 + b / 2) := by
  have p : (2 : Nat) ^ (s + 2) = 2 ^ s * 4 := by rw [Nat.pow_add]
  have p0 : 0 < (2 : Nat) ^ s := Nat.pow_pos (by decide)
  have g : Sz (s + 2) (a / 2 + b / 2) := by
    unfold Sz at *
    rw [p]; omega
  exact g.mono (by omega)
theorem set_at {K : PySem.W.Frag} {H : Hp} {r : Addr} {n j : Nat} {f : Nat → Option Int} {x : Option Int} {Q : Hp → Prop} (h : H r = some (.lst (zrow n f))) (hj : j < n) (q : Q (upd H r (.lst ((zrow n f).set j (oV x))))) : rSetL (.ref r) (.int j) (oV x) H Q := by
  refine ⟨r, _, j, j, rfl, rfl, h, ?_, q⟩
  rw [zrow_len]
  unfold ixN
  rw [if_pos (by omega), if_pos (by omega), Int.toNat_natCast]
theorem ix_row {K : PySem.W.Frag} {H : Hp} {r : Addr} {n j : Nat} {f : Nat → Option Int} {Q : VK} (h : H r = some (.lst (zrow n f))) (hj : j < n) (q : Q (oV (f j)) H) : rIxL K (.ref r) (.int j) H Q :=
  ix_l (.of h) (by omega) (by rw [Int.toNat_natCast]; exact zrow_get _ hj) q
theorem ix_top {K : PySem.W.Frag} {H : Hp} {p : Addr} {as : List Addr} {n i : Nat} {M : Mx} {Q : VK} (z : ZAt H p as n M) (hi : i < n) (q : ∀ a, as[i]? = some a → H a = some (.lst (zrow n (M i))) → Q (.ref a) H) : rIxL K (.ref p) (.int i) H Q := by
  obtain ⟨a, h1, h2, h3⟩ := z.get hi
  exact ix_l (.of z.top) (by omega) (by rw [Int.toNat_natCast]; exact h2) (q a h1 h3)
/-- [list(row) for row in zone]: fresh rows -/
theorem lc_copy {K : PySem.W.Frag} {H : Hp} {p : Addr} {as : List Addr} {n : Nat} {M : Mx} {s c : Nat} {σ : L2.St} {Q : VK} (z : ZAt H p as n M) (hn : n ≤ 60) (hσ : σ[s]? = some (some (.ref p))) (hc : c < σ.length)
    (q : ∀ D as' H', Same H H' → ZAt H' D as' n M → H D = none → (∀ a ∈ as', H a = none) → Q (.ref D) H') :
    tLc (iList K (tVar s)) (gName c) tYes (tCB (rListN K) (tCons (tVar c) tNil)) [c] σ H Q := by
  refine ⟨.ref p, hσ, p, rfl, ⟨_, .of z.top⟩, fun D hD => ?_⟩
  refine lc_list (K := K) (a := p) (xs := as.map V.ref) (fun i H' => ∃ as' : List Addr, Same H H' ∧ H' D = some (.lst (as'.map V.ref)) ∧ as'.length = i ∧ as'.Nodup ∧ (∀ a ∈ as', H a = none ∧ a ≠ D) ∧ ∀ (j : Nat) (a : Addr), as'[j]? = some a → H' a = some (.lst (zrow n (M j))))
    ⟨[], upd_keep hD, upd_same, rfl, List.nodup_nil, (fun a h => by cases h), (fun j a h => by cases h)⟩ (fun i H' _ ⟨_, sm, _⟩ => .of (sm _ _ z.top)) ?_ ?_
  · rintro i x H' hi ⟨as', sm, eD, hl, nd, hf, hr⟩
    have hin : i < n := by
      have := (List.getElem?_eq_some_iff.mp hi).1
      rw [List.length_map, z.len] at this; exact this
    obtain ⟨r, er, er2, hr1⟩ := z.get hin
    obtain rfl : x = .ref r := Option.some.inj (hi.symm.trans er2)
    refine ⟨?_, .ref r, ?_, r, _, rfl, .inl (.of (sm _ _ hr1)), fun l H2 s2 fl e2 => ?_⟩
    · show ((σ.set c none).set c (some (.ref r))).set c none = σ.set c none
      rw [List.set_set, List.set_set]
    · show ((σ.set c none).set c (some (.ref r)))[c]? = some (some (.ref r))
      rw [List.getElem?_set_self (by rw [List.length_set]; exact hc)]
    have nD : l ≠ D := fun e => by rw [e, eD] at fl; cases fl
    have nl : l ∉ as' := fun hm => by
      obtain ⟨j, hj, e⟩ := List.mem_iff_getElem.mp hm
      have := hr j l (by rw [List.getElem?_eq_getElem hj, e])
      rw [fl] at this; cases this
    refine ⟨as'.map V.ref, s2 _ _ eD, by rw [List.length_map, hl]; exact small1000 (by omega), as' ++ [l], same_updN hD (sm.trans s2), ?_, by simp [hl], ?_, ?_, ?_⟩
    · rw [upd_same, List.map_append]; rfl
    · rw [List.nodup_append]
      refine ⟨nd, by simp, fun a ha b hb e => ?_⟩
      have : b = l := by simpa using hb
      exact nl (by rw [← this, ← e]; exact ha)
    · intro a ha
      rcases List.mem_append.mp ha with h | h
      · exact hf a h
      · have : a = l := by simpa using h
        subst this
        exact ⟨sm.free fl, nD⟩
    · intro j a hj
      by_cases c1 : j < as'.length
      · rw [List.getElem?_append_left c1] at hj
        rw [upd_ne (hf a (List.mem_of_getElem? hj)).2]
        exact s2 _ _ (hr j a hj)
      · have hlt := (List.getElem?_eq_some_iff.mp hj).1
        rw [List.length_append, List.length_singleton] at hlt
        obtain rfl : j = as'.length := by omega
        rw [List.getElem?_append_right (Nat.le_refl _), Nat.sub_self] at hj
        have : l = a := by simpa using hj
        subst this
        rw [upd_ne nD, hl]
        exact e2
  · rintro H' ⟨as', sm, eD, hl, nd, hf, hr⟩
    rw [List.length_map, z.len] at hl
    exact q D as' H' sm ⟨eD, hl, hr, nd⟩ hD fun a ha => (hf a ha).1
/-- a bound that is there stays -/
def Has (M : Mx) (i j : Nat) : Prop := ∃ d, M i j = some d
theorem has_up2 {M : Mx} {i j a b : Nat} {x : Option Int} (h : Has M a b) : Has (up2 M i j (narO (M i j) x)) a b := by
  unfold Has up2
  by_cases c : a = i ∧ b = j
  · obtain ⟨rfl, rfl⟩ := c
    obtain ⟨d, e⟩ := h
    rw [if_pos ⟨rfl, rfl⟩, e]
    cases x with
    | none => exact ⟨d, rfl⟩
    | some y => exact ⟨_, rfl⟩
  · rw [if_neg c]; exact h
theorem has_new {M : Mx} {i j : Nat} {y : Int} : Has (up2 M i j (narO (M i j) (some y))) i j := by
  unfold Has up2
  rw [if_pos ⟨rfl, rfl⟩]
  cases M i j with
  | none => exact ⟨y, rfl⟩
  | some v => exact ⟨_, rfl⟩
theorem has_iter {f : Nat → Mx → Mx} {a b : Nat} (hf : ∀ i M, Has M a b → Has (f i M) a b) {M : Mx} (h : Has M a b) : ∀ m, Has (iter f m M) a b
  | 0 => h
  | m + 1 => hf m _ (has_iter hf h m)
theorem has_rowst {n k i a b : Nat} {M : Mx} (h : Has M a b) : Has (rowst n k i M) a b := by
  unfold rowst
  split
  · exact h
  · exact has_iter (fun _ _ h => has_up2 h) h n
theorem has_thr {n k a b : Nat} {M : Mx} (h : Has M a b) : Has (thr n k M) a b := has_iter (fun _ _ h => has_rowst h) h n
theorem has_diag {i a b : Nat} {M : Mx} (h : Has M a b) : Has (diag1 i M) a b := has_up2 (has_up2 h)
theorem has_diags {M : Mx} : ∀ m i, i < m → Has (iter diag1 m M) i i
  | m + 1, i, h => by
    by_cases c : i = m
    · subst c; exact has_up2 has_new
    · exact has_diag (has_diags m i (by omega))
theorem has_nrw {n i : Nat} {M : Mx} (h : i < n) : Has (nrw n M) i i := has_iter (fun _ _ h => has_thr h) (has_diags n i h) n
theorem nrw_sz {n s m : Nat} {M : Mx} (hs : 1 ≤ s) (h : SzM s M) : SzM (s + 2 * n * n * m) (iter (thr n) m (iter diag1 n M)) := iter_sz (fun _ _ _ h => thr_sz h) (diags_sz hs h n) m
theorem ZAt.upd_fresh {H0 H : Hp} {a : Addr} {o : HO} {as : List Addr} (s : Same H0 H) (f : ∀ a ∈ as, H0 a = none) (ha : a ∈ as) : Same H0 (upd H a o) := same_updN (f a ha) s
theorem zrow_snoc (j : Nat) (f : Nat → Option Int) (x : Option Int) : zrow j f ++ [oV x] = zrow (j + 1) (fun b => if b = j then x else f b) := by
  unfold zrow
  rw [List.range_succ, List.map_append]
  congr 1
  · apply List.map_congr_left
    intro b hb
    show oV (f b) = oV (if b = j then x else f b)
    rw [if_neg (by have := List.mem_range.mp hb; omega)]
  · simp
theorem zrow_congr {n : Nat} {f g : Nat → Option Int} (h : ∀ j, j < n → f j = g j) : zrow n f = zrow n g := List.map_congr_left fun j hj => by rw [h j (List.mem_range.mp hj)]
/-- a row is put behind the rows so far -/
structure Grow (H0 H : Hp) (l : Addr) (as : List Addr) (i n : Nat) (M : Mx) : Prop where
  top : H l = some (.lst (as.map V.ref))
  len : as.length = i
  nd : as.Nodup
  fr : ∀ a ∈ as, H0 a = none ∧ a ≠ l
  row : ∀ (j : Nat) (a : Addr), as[j]? = some a → H a = some (.lst (zrow n (M j)))
theorem Grow.snoc {H0 H : Hp} {l r : Addr} {as : List Addr} {i n : Nat} {M : Mx} {f : Nat → Option Int} (g : Grow H0 H l as i n M) (hr : H r = some (.lst (zrow n f))) (fr : H0 r = none) (nr : r ∉ as) (nl : r ≠ l) :
    Grow H0 (upd H l (.lst (as.map V.ref ++ [.ref r]))) l (as ++ [r]) (i + 1) n (fun a b => if a = i then f b else M a b) := by
  refine ⟨by rw [upd_same, List.map_append]; rfl, by simp [g.len], ?_, ?_, ?_⟩
  · rw [List.nodup_append]
    refine ⟨g.nd, by simp, fun a ha b hb e => ?_⟩
    have : b = r := by simpa using hb
    exact nr (by rw [← this, ← e]; exact ha)
  · intro a ha
    rcases List.mem_append.mp ha with h | h
    · exact g.fr a h
    · have : a = r := by simpa using h
      rw [this]; exact ⟨fr, nl⟩
  · intro j a hj
    have len := g.len
    by_cases c1 : j < as.length
    · rw [List.getElem?_append_left c1] at hj
      rw [upd_ne (g.fr a (List.mem_of_getElem? hj)).2, g.row j a hj]
      have : ¬ j = i := by omega
      simp [this]
    · have hlt := (List.getElem?_eq_some_iff.mp hj).1
      rw [List.length_append, List.length_singleton] at hlt
      obtain rfl : j = as.length := by omega
      rw [List.getElem?_append_right (Nat.le_refl _), Nat.sub_self] at hj
      have : r = a := by simpa using hj
      subst this
      rw [upd_ne nl, hr, len]
      simp
theorem Grow.keep {H0 H H' : Hp} {l : Addr} {as : List Addr} {i n : Nat} {M : Mx} (g : Grow H0 H l as i n M) (s : ∀ b o, H b = some o → (b = l ∨ b ∈ as) → H' b = some o) : Grow H0 H' l as i n M :=
  ⟨s _ _ g.top (.inl rfl), g.len, g.nd, g.fr, fun j a h => s _ _ (g.row j a h) (.inr (List.mem_of_getElem? h))⟩
theorem Grow.done {H0 H : Hp} {l : Addr} {as : List Addr} {n : Nat} {M : Mx} (g : Grow H0 H l as n n M) : ZAt H l as n M := ⟨g.top, g.len, g.row, g.nd⟩
def natV (xs : List Nat) : List V := xs.map fun x : Nat => V.int (x : Int)
theorem natV_len (xs : List Nat) : (natV xs).length = xs.length := by simp [natV]
theorem natV_get {xs : List Nat} {i : Nat} (h : i < xs.length) : (natV xs)[i]? = some (.int (xs[i] : Nat)) := by simp [natV, h]
theorem perm_erase {α : Type} : ∀ {l : List α} {k : Nat} (h : k < l.length), List.Perm (l[k] :: l.eraseIdx k) l
  | x :: l, 0, _ => .refl _
  | x :: l, k + 1, h => (List.Perm.swap x _ _).trans (.cons x (perm_erase (l := l) (k := k) (by simpa using h)))
theorem erase_map {α β : Type} (f : α → β) : ∀ (l : List α) (k : Nat), (l.map f).eraseIdx k = (l.eraseIdx k).map f
  | [], _ => rfl
  | _ :: _, 0 => rfl
  | x :: l, k + 1 => by show f x :: (l.map f).eraseIdx k = f x :: (l.eraseIdx k).map f; rw [erase_map f l k]
def oD : Option Int → PyData
  | none => .none
  | some i => .int i
theorem dp_oV {K : PySem.W.Frag} {H : Hp} : ∀ x : Option Int, Dp K H (oV x) (oD x)
  | none => .non
  | some i => .int i
def rdata (n : Nat) (f : Nat → Option Int) : PyData := .list ((List.range n).map fun j => oD (f j))
def zdata (n : Nat) (M : Mx) : PyData := .list ((List.range n).map fun i => rdata n (M i))
theorem dp_row {K : PySem.W.Frag} {H : Hp} {r : Addr} {n : Nat} {f : Nat → Option Int} (h : H r = some (.lst (zrow n f))) : Dp K H (.ref r) (rdata n f) := by
  refine .lst (.of h) (dpall_of (by simp [zrow]) fun k v d h1 h2 => ?_)
  have hk : k < n := by
    have := (List.getElem?_eq_some_iff.mp h1).1
    rwa [zrow_len] at this
  rw [zrow_get _ hk] at h1
  rw [List.getElem?_map, List.getElem?_range hk] at h2
  cases h1; cases h2
  exact dp_oV _
theorem ZAt.dp {K : PySem.W.Frag} {H : Hp} {p : Addr} {as : List Addr} {n : Nat} {M : Mx} (z : ZAt H p as n M) : Dp K H (.ref p) (zdata n M) := by
  refine .lst (.of z.top) (dpall_of (by simp [z.len]) fun k v d h1 h2 => ?_)
  have hk : k < n := by
    have := (List.getElem?_eq_some_iff.mp h1).1
    rwa [List.length_map, z.len] at this
  obtain ⟨a, _, e2, e3⟩ := z.get hk
  rw [e2] at h1
  rw [List.getElem?_map, List.getElem?_range hk] at h2
  cases h1; cases h2
  exact dp_row e3
theorem lay_list {ds : List PyData} {k : Nat} (h : ∀ d ∈ ds, d.canLay0 = true ∧ d.depth ≤ k) : (PyData.list ds).canLay0 = true ∧ (PyData.list ds).depth ≤ k + 1 := by
  have key : ∀ ds : List PyData, (∀ d ∈ ds, d.canLay0 = true ∧ d.depth ≤ k) → PyData.canLayAll0 ds = true ∧ PyData.depthAll ds ≤ k := by
    intro ds
    induction ds with
    | nil => intro _; exact ⟨rfl, Nat.zero_le _⟩
    | cons d ds ih =>
      intro h
      have h1 := h d (List.mem_cons_self ..)
      have h2 := ih fun x hx => h x (List.mem_cons_of_mem _ hx)
      refine ⟨by show (d.canLay0 && PyData.canLayAll0 ds) = true; rw [h1.1, h2.1]; rfl, ?_⟩
      show max d.depth (PyData.depthAll ds) ≤ k
      omega
  have z := key ds h
  exact ⟨z.1, by show PyData.depthAll ds + 1 ≤ k + 1; omega⟩
theorem lay_oD (x : Option Int) : (oD x).canLay0 = true ∧ (oD x).depth ≤ 0 := by cases x <;> exact ⟨rfl, Nat.le_refl _⟩
theorem lay_row (n : Nat) (f : Nat → Option Int) : (rdata n f).canLay0 = true ∧ (rdata n f).depth ≤ 1 := lay_list fun d h => by
  obtain ⟨j, _, rfl⟩ := List.mem_map.mp h
  exact lay_oD _
theorem lay_zone (n : Nat) (M : Mx) : (zdata n M).canLay0 = true ∧ (zdata n M).depth ≤ 2 := lay_list fun d h => by
  obtain ⟨j, _, rfl⟩ := List.mem_map.mp h
  exact lay_row _ _
theorem shaped_zone (n : Nat) (M : Mx) : SeqAt.shaped (zdata n M) = true := Bool.and_eq_true_iff.mpr ⟨(lay_zone n M).1, decide_eq_true (by have := (lay_zone n M).2; omega)⟩
theorem cube_le {n : Nat} (h : n ≤ 8) : 2 * n * n * n ≤ 1024 := Nat.mul_le_mul (Nat.mul_le_mul (Nat.mul_le_mul_left 2 h) h) h
/-! ### the narrowest form, as mathematics -/
/-- the first bound is no wider than the second -/
def leO : Option Int → Option Int → Prop
  | _, none => True
  | none, some _ => False
  | some a, some b => a ≤ b
theorem leO_refl : ∀ x, leO x x
  | none => trivial
  | some a => Int.le_refl a
theorem leO_trans : ∀ {x y z}, leO x y → leO y z → leO x z
  | _, _, none, _, _ => by cases ‹Option Int› <;> trivial
  | some a, some b, some c, h, k => Int.le_trans h k
  | none, some b, some c, h, _ => h.elim
  | _, none, some c, _, k => k.elim
theorem narO_le1 : ∀ x y, leO (narO x y) x
  | none, _ => by cases ‹Option Int› <;> trivial
  | some a, none => Int.le_refl a
  | some a, some b => by show (if b < a then b else a) ≤ a; split <;> omega
theorem narO_le2 : ∀ x y, leO (narO x y) y
  | none, y => leO_refl y
  | some a, none => trivial
  | some a, some b => by show (if b < a then b else a) ≤ b; split <;> omega
theorem le_narO : ∀ {x y z}, leO z x → leO z y → leO z (narO x y)
  | none, _, _, _, k => k
  | some a, none, _, h, _ => h
  | some a, some b, none, h, _ => h.elim
  | some a, some b, some c, h, k => by show c ≤ (if b < a then b else a); split <;> assumption
theorem leO_anti : ∀ {x y}, leO x y → leO y x → x = y
  | none, none, _, _ => rfl
  | some a, none, _, k => k.elim
  | none, some b, h, _ => h.elim
  | some a, some b, h, k => by rw [Int.le_antisymm h k]
theorem narO_of_le {x y : Option Int} (h : leO x y) : narO x y = x := leO_anti (narO_le1 x y) (le_narO (leO_refl x) h)
theorem addO_none (x : Option Int) : addO x none = none := by cases x <;> rfl
theorem none_addO (x : Option Int) : addO none x = none := rfl
theorem addO_comm : ∀ x y, addO x y = addO y x
  | none, y => by rw [addO_none]; rfl
  | some a, none => rfl
  | some a, some b => by show some _ = some _; rw [Int.add_comm (a / 2)]; congr 2; simp only [and_comm]
theorem addO_mono : ∀ {x x' y y'}, leO x x' → leO y y' → leO (addO x y) (addO x' y')
  | x, none, y, y', _, _ => by rw [none_addO]; cases addO x y <;> trivial
  | x, some b, y, none, _, _ => by cases addO x y <;> trivial
  | none, some b, _, some d, h, _ => h.elim
  | some a, some b, none, some d, _, k => k.elim
  | some a, some b, some c, some d, h, k => by
    have h : a ≤ b := h
    have k : c ≤ d := k
    show 2 * (a / 2 + c / 2) + (if a % 2 = 1 ∧ c % 2 = 1 then 1 else 0) ≤ 2 * (b / 2 + d / 2) + (if b % 2 = 1 ∧ d % 2 = 1 then 1 else 0)
    split <;> split <;> omega
theorem addO_assoc : ∀ x y z, addO (addO x y) z = addO x (addO y z)
  | none, y, z => rfl
  | some a, none, z => rfl
  | some a, some b, none => by rw [addO_none, addO_none]; rfl
  | some a, some b, some c => by
    show some _ = some _
    congr 1
    generalize hx : (2 * (a / 2 + b / 2) + if a % 2 = 1 ∧ b % 2 = 1 then 1 else 0) = x
    generalize hy : (2 * (b / 2 + c / 2) + if b % 2 = 1 ∧ c % 2 = 1 then 1 else 0) = y
    have x1 : x / 2 = a / 2 + b / 2 := by rw [← hx]; split <;> omega
    have x2 : x % 2 = 1 ↔ (a % 2 = 1 ∧ b % 2 = 1) := by rw [← hx]; split <;> (constructor <;> intro h) <;> omega
    have y1 : y / 2 = b / 2 + c / 2 := by rw [← hy]; split <;> omega
    have y2 : y % 2 = 1 ↔ (b % 2 = 1 ∧ c % 2 = 1) := by rw [← hy]; split <;> (constructor <;> intro h) <;> omega
    simp only [x2, y2, x1, y1, and_assoc]
    omega
theorem addO_one (x : Option Int) : addO x (some 1) = x := by
  cases x with
  | none => rfl
  | some a =>
    show some _ = some _
    congr 1
    split <;> omega
theorem one_addO (x : Option Int) : addO (some 1) x = x := by rw [addO_comm, addO_one]
/-- the diagonal's place is not below at most 0 -/
def Pos (M : Mx) (k : Nat) : Prop := leO (some 1) (M k k)
theorem pos_add {M : Mx} {k : Nat} (h : Pos M k) (x : Option Int) : leO x (addO x (M k k)) := by
  have := addO_mono (leO_refl x) h
  rwa [addO_one] at this
theorem pos_add' {M : Mx} {k : Nat} (h : Pos M k) (x : Option Int) : leO x (addO (M k k) x) := by rw [addO_comm]; exact pos_add h x
def fw (k : Nat) (M : Mx) : Mx := fun a b => narO (M a b) (addO (M a k) (M k b))
theorem fw_col {M : Mx} {k : Nat} (h : Pos M k) (a : Nat) : fw k M a k = M a k := narO_of_le (pos_add h _)
theorem fw_row {M : Mx} {k : Nat} (h : Pos M k) (b : Nat) : fw k M k b = M k b := narO_of_le (pos_add' h _)
theorem inner_eq {M : Mx} {n k m : Nat} (h : Pos M k) {M' : Mx} (e : ∀ a b, M' a b = if a < m ∧ b < n then fw k M a b else M a b) : ∀ l, l ≤ n → ∀ a b, iter (cell1 k m) l M' a b = if a = m ∧ b < l then fw k M m b else M' a b
  | 0, _, a, b => by rw [if_neg (by omega)]; rfl
  | l + 1, hl, a, b => by
    have ih := inner_eq h e l (by omega)
    have hk : ∀ b, M' k b = M k b := fun b => by
      rw [e]; split
      · exact fw_row h b
      · rfl
    have ik : M' m k = M m k := by rw [e, if_neg (by omega)]
    have c1 : iter (cell1 k m) l M' m l = M m l := by rw [ih, if_neg (by omega), e, if_neg (by omega)]
    have c2 : iter (cell1 k m) l M' m k = M m k := by
      rw [ih]; split
      · exact fw_col h m
      · exact ik
    have c3 : iter (cell1 k m) l M' k l = M k l := by
      rw [ih]; split
      · omega
      · exact hk l
    show up2 (iter (cell1 k m) l M') m l (narO (iter (cell1 k m) l M' m l) (addO (iter (cell1 k m) l M' m k) (iter (cell1 k m) l M' k l))) a b = _
    rw [c1, c2, c3]
    unfold up2
    by_cases c : a = m ∧ b = l
    · obtain ⟨rfl, rfl⟩ := c
      rw [if_pos ⟨rfl, rfl⟩, if_pos ⟨rfl, by omega⟩]; rfl
    · rw [if_neg c, ih]
      by_cases d : a = m ∧ b < l
      · rw [if_pos d, if_pos ⟨d.1, by omega⟩]
      · rw [if_neg d, if_neg (by omega)]
theorem rows_eq {M : Mx} {n k : Nat} (h : Pos M k) : ∀ m, ∀ a b, iter (rowst n k) m M a b = if a < m ∧ b < n then fw k M a b else M a b
  | 0, a, b => by rw [if_neg (by omega)]; rfl
  | m + 1, a, b => by
    have ih := rows_eq (n := n) h m
    have ik : iter (rowst n k) m M m k = M m k := by rw [ih, if_neg (by omega)]
    show (if iter (rowst n k) m M m k = none then iter (rowst n k) m M else iter (cell1 k m) n (iter (rowst n k) m M)) a b = _
    rw [ik]
    split
    · rename_i hz
      rw [ih]
      by_cases c : a = m
      · subst c
        rw [if_neg (by omega)]
        split
        · unfold fw; rw [hz, none_addO]; cases M a b <;> rfl
        · rfl
      · by_cases d : a < m ∧ b < n
        · rw [if_pos d, if_pos ⟨by omega, d.2⟩]
        · rw [if_neg d, if_neg (by omega)]
    · rw [inner_eq h ih n (Nat.le_refl _), ih]
      by_cases c : a = m ∧ b < n
      · obtain ⟨rfl, hb⟩ := c
        rw [if_pos ⟨rfl, hb⟩, if_pos ⟨by omega, hb⟩]
      · rw [if_neg c]
        by_cases d : a < m ∧ b < n
        · rw [if_pos d, if_pos ⟨by omega, d.2⟩]
        · rw [if_neg d, if_neg (by omega)]
theorem thr_eq {M : Mx} {n k : Nat} (h : Pos M k) {a b : Nat} (ha : a < n) (hb : b < n) : thr n k M a b = fw k M a b := by
  unfold thr; rw [rows_eq h n, if_pos ⟨ha, hb⟩]
/-- each place's bound only becomes narrower -/
def LeM (N M : Mx) : Prop := ∀ a b, leO (N a b) (M a b)
theorem LeM.refl (M : Mx) : LeM M M := fun _ _ => leO_refl _
theorem LeM.trans {A B C : Mx} (h : LeM A B) (k : LeM B C) : LeM A C := fun a b => leO_trans (h a b) (k a b)
theorem up2_le (M : Mx) (i j : Nat) (x : Option Int) : LeM (up2 M i j (narO (M i j) x)) M := fun a b => by
  unfold up2
  split
  · rename_i h; obtain ⟨rfl, rfl⟩ := h; exact narO_le1 _ _
  · exact leO_refl _
theorem iter_le {f : Nat → Mx → Mx} (hf : ∀ i M, LeM (f i M) M) (M : Mx) : ∀ m, LeM (iter f m M) M
  | 0 => .refl M
  | m + 1 => (hf m _).trans (iter_le hf M m)
theorem rowst_le (n k i : Nat) (M : Mx) : LeM (rowst n k i M) M := by
  unfold rowst
  split
  · exact .refl M
  · exact iter_le (fun j M => up2_le M i j _) M n
theorem thr_le (n k : Nat) (M : Mx) : LeM (thr n k M) M := iter_le (rowst_le n k) M n
theorem diag1_le (i : Nat) (M : Mx) : LeM (diag1 i M) M := (up2_le _ _ _ _).trans (up2_le _ _ _ _)
theorem nrw_le0 (n : Nat) (M : Mx) : LeM (nrw n M) (iter diag1 n M) := iter_le (thr_le n) _ n
theorem nrw_le (n : Nat) (M : Mx) : LeM (nrw n M) M := (nrw_le0 n M).trans (iter_le diag1_le M n)
theorem iter_le2 {f : Nat → Mx → Mx} (hf : ∀ i M, LeM (f i M) M) (M : Mx) {m : Nat} : ∀ d, LeM (iter f (m + d) M) (iter f m M)
  | 0 => .refl _
  | d + 1 => (hf _ _).trans (iter_le2 hf M d)
/-- through the first K places each bound is as narrow as the way makes it -/
def Tri (n K : Nat) (M : Mx) : Prop := ∀ k, k < K → ∀ i j, i < n → j < n → leO (M i j) (addO (M i k) (M k j))
theorem tri_step {n K : Nat} {M : Mx} (hK : K < n) (t : Tri n K M) (h : Pos M K) : Tri n (K + 1) (thr n K M) := by
  intro k hk i j hi hj
  have hkn : k < n := by omega
  rw [thr_eq h hi hj, thr_eq h hi hkn, thr_eq h hkn hj]
  by_cases c : k = K
  · subst c
    rw [fw_col h, fw_row h]
    exact narO_le2 _ _
  have t := t k (by omega)
  have key : ∀ x y, (leO (M i k) x ∨ leO (addO (M i K) (M K k)) x) → (leO (M k j) y ∨ leO (addO (M k K) (M K j)) y) → leO (fw K M i j) (addO x y) := by
    intro x y hx hy
    rcases hx with hx | hx <;> rcases hy with hy | hy
    · exact leO_trans (narO_le1 _ _) (leO_trans (t i j hi hj) (addO_mono hx hy))
    · refine leO_trans (narO_le2 _ _) (leO_trans ?_ (addO_mono hx hy))
      rw [← addO_assoc]
      exact addO_mono (t i K hi hK) (leO_refl _)
    · refine leO_trans (narO_le2 _ _) (leO_trans ?_ (addO_mono hx hy))
      rw [addO_assoc]
      exact addO_mono (leO_refl _) (t K j hK hj)
    · refine leO_trans (narO_le2 _ _) (leO_trans ?_ (addO_mono hx hy))
      rw [addO_assoc, ← addO_assoc (M K k)]
      have g : leO (some 1) (addO (M K k) (M k K)) := leO_trans h (t K K hK hK)
      have := addO_mono (leO_refl (M i K)) (addO_mono g (leO_refl (M K j)))
      rwa [one_addO] at this
  have nar_or : ∀ x y, leO x (narO x y) ∨ leO y (narO x y) := by
    intro x y
    cases x with
    | none => exact .inr (leO_refl _)
    | some a =>
      cases y with
      | none => exact .inl (leO_refl _)
      | some b =>
        show a ≤ (if b < a then b else a) ∨ b ≤ (if b < a then b else a)
        split
        · exact .inr (Int.le_refl _)
        · exact .inl (Int.le_refl _)
  exact key _ _ (nar_or _ _) (nar_or _ _)
theorem nrw_tri {n : Nat} {M : Mx} (h : ∀ i, i < n → Pos (nrw n M) i) : Tri n n (nrw n M) := by
  have key : ∀ K, K ≤ n → Tri n K (iter (thr n) K (iter diag1 n M)) := by
    intro K
    induction K with
    | zero => intro _ k hk; omega
    | succ K ih =>
      intro hK
      refine tri_step (by omega) (ih (by omega)) ?_
      have l : LeM (nrw n M) (iter (thr n) K (iter diag1 n M)) := by
        have := iter_le2 (thr_le n) (iter diag1 n M) (m := K) (n - K)
        rw [show K + (n - K) = n by omega] at this
        exact this
      exact leO_trans (h K (by omega)) (l K K)
  exact key n (Nat.le_refl _)
/-- a way's bound -/
def pathO (M : Mx) : Nat → List Nat → Option Int
  | _, [] => some 1
  | a, b :: l => addO (M a b) (pathO M b l)
def lastOf : Nat → List Nat → Nat
  | a, [] => a
  | _, b :: l => lastOf b l
theorem path_le {n : Nat} {N : Mx} (t : Tri n n N) : ∀ (l : List Nat) (a c : Nat), a < n → c < n → (∀ x ∈ l, x < n) → leO (N c (lastOf a l)) (addO (N c a) (pathO N a l))
  | [], a, c, ha, hc, _ => by show leO (N c a) (addO (N c a) (some 1)); rw [addO_one]; exact leO_refl _
  | b :: l, a, c, ha, hc, h => by
    have hb : b < n := h b (List.mem_cons_self ..)
    have ih := path_le t l b c hb hc fun x hx => h x (List.mem_cons_of_mem _ hx)
    show leO (N c (lastOf b l)) (addO (N c a) (addO (N a b) (pathO N b l)))
    rw [← addO_assoc]
    exact leO_trans ih (addO_mono (t a ha c b hc hb) (leO_refl _))
theorem path_mono {N M : Mx} (h : LeM N M) : ∀ (l : List Nat) (a : Nat), leO (pathO N a l) (pathO M a l)
  | [], _ => leO_refl _
  | b :: l, a => addO_mono (h a b) (path_mono h l b)
/-- a ring that comes to below at most 0 leaves no zone -/
theorem ring_empty {n a : Nat} {M : Mx} {l : List Nat} (ha : a < n) (hl : ∀ x ∈ l, x < n) {s : Int} (hs : addO (M (lastOf a l) a) (pathO M a l) = some s) (h1 : s < 1) : ¬ ∀ i, i < n → Pos (nrw n M) i := by
  intro h
  have t := nrw_tri h
  have hz : lastOf a l < n := by
    have : ∀ (l : List Nat) (a : Nat), a < n → (∀ x ∈ l, x < n) → lastOf a l < n := by
      intro l
      induction l with
      | nil => intro a ha _; exact ha
      | cons b l ih => intro a _ h; exact ih b (h b (List.mem_cons_self ..)) fun x hx => h x (List.mem_cons_of_mem _ hx)
    exact this l a ha hl
  have p := path_le t l a (lastOf a l) ha hz hl
  have q := addO_mono (nrw_le n M (lastOf a l) a) (path_mono (nrw_le n M) l a)
  rw [hs] at q
  have r := leO_trans (h _ hz) (leO_trans p q)
  have r : (1 : Int) ≤ s := r
  omega
theorem diags_row0 {M : Mx} : ∀ m i, i < m → leO (iter diag1 m M 0 i) (some 1)
  | m + 1, i, h => by
    by_cases c : i = m
    · subst c
      show leO (up2 _ 0 i (narO _ (some 1)) 0 i) (some 1)
      unfold up2
      rw [if_pos ⟨rfl, rfl⟩]
      exact narO_le2 _ _
    · exact leO_trans (diag1_le m _ 0 i) (diags_row0 m i (by omega))
/-- a watch below 0 leaves no zone -/
theorem below_empty {n i : Nat} {M : Mx} (hi : i < n) {s : Int} (hs : M i 0 = some s) (h1 : s < 1) : ¬ ∀ i, i < n → Pos (nrw n M) i := by
  intro h
  have t := nrw_tri h 0 (by omega) i i hi hi
  have a : leO (nrw n M i 0) (some s) := by have := nrw_le n M i 0; rwa [hs] at this
  have b : leO (nrw n M 0 i) (some 1) := leO_trans (nrw_le0 n M 0 i) (diags_row0 n i hi)
  have c := addO_mono a b
  rw [addO_one] at c
  have r := leO_trans (h _ hi) (leO_trans t c)
  have r : (1 : Int) ≤ s := r
  omega
theorem lastOf_snoc : ∀ (l : List Nat) (a c : Nat), lastOf a (l ++ [c]) = c
  | [], _, _ => rfl
  | b :: l, _, c => lastOf_snoc l b c
theorem path_snoc (M : Mx) : ∀ (l : List Nat) (a c : Nat), pathO M a (l ++ [c]) = addO (pathO M a l) (M (lastOf a l) c)
  | [], a, c => by show addO (M a c) (some 1) = addO (some 1) (M a c); rw [addO_one, one_addO]
  | b :: l, a, c => by
    show addO (M a b) (pathO M b (l ++ [c])) = addO (addO (M a b) (pathO M b l)) (M (lastOf b l) c)
    rw [path_snoc M l b c, addO_assoc]
theorem path_up2 {M : Mx} {y c : Nat} {v : Option Int} : ∀ (l : List Nat) (a : Nat), y ∉ (a :: l).dropLast → pathO (up2 M y c v) a l = pathO M a l
  | [], _, _ => rfl
  | b :: l, a, h => by
    have h : y ∉ a :: (b :: l).dropLast := h
    have h1 : a ≠ y := fun e => h (by rw [e]; exact List.mem_cons_self ..)
    show addO (up2 M y c v a b) (pathO (up2 M y c v) b l) = _
    rw [path_up2 l b (fun z => h (List.mem_cons_of_mem _ z))]
    unfold up2
    rw [if_neg (fun z => h1 z.1)]
    rfl
theorem lastOf_mem : ∀ (l : List Nat) (a : Nat), lastOf a l ∈ a :: l
  | [], a => List.mem_cons_self ..
  | b :: l, a => List.mem_cons_of_mem _ (lastOf_mem l b)
theorem lastOf_get : ∀ (l : List Nat) (a k x : Nat), (a :: l)[k]? = some x → lastOf a (l.take k) = x
  | l, a, 0, x, h => by rw [List.take_zero]; exact Option.some.inj h
  | [], a, k + 1, x, h => by cases h
  | b :: l, a, k + 1, x, h => lastOf_get l b k x h
theorem nodup_last {l : List Nat} {a : Nat} (nd : (a :: l).Nodup) : lastOf a l ∉ (a :: l).dropLast := by
  induction l generalizing a with
  | nil => simp [lastOf]
  | cons b l ih =>
    have nd2 := (List.nodup_cons.mp nd)
    show lastOf b l ∉ a :: (b :: l).dropLast
    intro h
    rcases List.mem_cons.mp h with e | h
    · exact nd2.1 (by rw [← e]; exact lastOf_mem l b)
    · exact ih nd2.2 h
theorem get_last : ∀ (l : List Nat) (a : Nat), (a :: l)[l.length]? = some (lastOf a l)
  | [], _ => rfl
  | b :: l, _ => get_last l b
theorem natV_last (l : List Nat) (a : Nat) : atI (natV (a :: l)) (-1) = some (.int (lastOf a l : Nat)) := by
  unfold atI
  have e : ixN (natV (a :: l)).length (-1) = some l.length := by
    rw [natV_len]
    unfold ixN
    rw [if_neg (by omega), if_pos (by rw [List.length_cons]; omega)]
    congr 1
    rw [List.length_cons]; omega
  rw [e]
  show (natV (a :: l))[l.length]? = _
  unfold natV
  rw [List.getElem?_map, get_last]; rfl
theorem not_pos {n : Nat} {M : Mx} (h : ¬ ∀ i, i < n → Pos (nrw n M) i) : ∃ i d, i < n ∧ nrw n M i i = some d ∧ d < 1 := by
  apply Classical.byContradiction
  intro c
  apply h
  intro i hi
  obtain ⟨d, e⟩ := has_nrw (M := M) hi
  show leO (some 1) (nrw n M i i)
  rw [e]
  apply Classical.byContradiction
  intro c2
  have c2 : ¬ (1 : Int) ≤ d := c2
  exact c ⟨i, d, hi, e, by omega⟩
theorem diags_diag {M : Mx} : ∀ m i, i < m → leO (iter diag1 m M i i) (some 1)
  | m + 1, i, h => by
    by_cases c : i = m
    · subst c
      have h1 : leO (up2 (iter diag1 i M) i i (narO (iter diag1 i M i i) (some 1)) i i) (some 1) := by
        unfold up2
        rw [if_pos ⟨rfl, rfl⟩]
        exact narO_le2 _ _
      exact leO_trans (up2_le _ _ _ _ i i) h1
    · exact leO_trans (diag1_le m _ i i) (diags_diag m i (by omega))
theorem nrw_diag {n i : Nat} {M : Mx} (hi : i < n) (h : Pos (nrw n M) i) : nrw n M i i = some 1 := leO_anti (leO_trans (nrw_le0 n M i i) (diags_diag n i hi)) h
theorem nrw_row0 {n i : Nat} {M : Mx} (hi : i < n) : leO (nrw n M 0 i) (some 1) := leO_trans (nrw_le0 n M 0 i) (diags_row0 n i hi)
theorem up2_id (M : Mx) (i j : Nat) : up2 M i j (M i j) = M := by
  funext a b
  unfold up2
  split
  · rename_i h; rw [h.1, h.2]
  · rfl
theorem iter_id {f : Nat → Mx → Mx} {M : Mx} : ∀ m, (∀ i, i < m → f i M = M) → iter f m M = M
  | 0, _ => rfl
  | m + 1, h => by
    show f m (iter f m M) = M
    rw [iter_id m fun i hi => h i (by omega)]
    exact h m (by omega)
/-- a narrow zone is its own narrowest form -/
theorem nrw_idem {n : Nat} {N : Mx} (h1 : ∀ i, i < n → N i i = some 1) (h0 : ∀ i, i < n → leO (N 0 i) (some 1)) (t : Tri n n N) : nrw n N = N := by
  have d : iter diag1 n N = N := iter_id n fun i hi => by
    unfold diag1
    have e : narO (N i i) (some 1) = N i i := by rw [h1 i hi]; rfl
    rw [e, up2_id, narO_of_le (h0 i hi), up2_id]
  unfold nrw
  rw [d]
  refine iter_id n fun k hk => ?_
  funext a b
  have p : Pos N k := by show leO (some 1) (N k k); rw [h1 k hk]; exact leO_refl _
  unfold thr
  rw [rows_eq p n]
  split
  · rename_i c
    exact narO_of_le (t k hk a b c.1 c.2)
  · rfl
/-! ### values: lists of fractions -/
/-- the values xs stand at p -/
def VAt (H : Hp) (p : Addr) (xs : List (Int × Int)) : Prop := ∃ qs : List Addr, H p = some (.lst (qs.map V.ref)) ∧ qs.length = xs.length ∧ ∀ (i : Nat) (q : Addr) (x : Int × Int), qs[i]? = some q → xs[i]? = some x → H q = some (.tup [.int x.1, .int x.2])
theorem VAt.keep {H H' : Hp} {p : Addr} {xs : List (Int × Int)} (v : VAt H p xs) (s : Same H H') : VAt H' p xs := by
  obtain ⟨qs, a, b, c⟩ := v
  exact ⟨qs, s _ _ a, b, fun i q x h1 h2 => s _ _ (c i q x h1 h2)⟩
theorem VAt.get {H : Hp} {p : Addr} {xs : List (Int × Int)} {K : PySem.W.Frag} {Q : VK} (v : VAt H p xs) {i : Nat} {x : Int × Int} (h : xs[i]? = some x) (q : ∀ a, H a = some (.tup [.int x.1, .int x.2]) → Q (.ref a) H) : rIxL K (.ref p) (.int i) H Q := by
  obtain ⟨qs, e1, e2, e3⟩ := v
  have hi : i < qs.length := by rw [e2]; exact (List.getElem?_eq_some_iff.mp h).1
  have hq := List.getElem?_eq_getElem hi
  exact ix_l (v := .ref qs[i]) (.of e1) (by omega) (by rw [Int.toNat_natCast, List.getElem?_map, hq]; rfl) (q _ (e3 i _ x hq h))
/-- good values: from 0 on, bottoms from 1 on, small -/
def GoodV (s : Nat) (xs : List (Int × Int)) : Prop := ∀ x ∈ xs, 0 ≤ x.1 ∧ 0 < x.2 ∧ Sz s x.1 ∧ Sz s x.2
def dif (a b : Int × Int) : Int × Int := (a.1 * b.2 - b.1 * a.2, a.2 * b.2)
/-- whether a fraction is let by hangs on what it stands for alone -/
theorem letsO_ratio {b : Option Int} {t u t' u' : Int} (hu : 0 < u) (hu' : 0 < u') (e : t * u' = t' * u) : letsO b t u = letsO b t' u' := by
  cases b with
  | none => rfl
  | some b =>
    show decide _ = decide _
    refine decide_eq_decide.mpr ?_
    have key : ∀ t u t' u' : Int, 0 < u → 0 < u' → t * u' = t' * u → (t < b / 2 * u → t' < b / 2 * u') ∧ (t = b / 2 * u → t' = b / 2 * u') := by
      intro t u t' u' hu hu' e
      refine ⟨fun h => ?_, fun h => ?_⟩
      · have h1 := Int.mul_lt_mul_of_pos_right h hu'
        rw [e, Int.mul_right_comm] at h1
        exact Int.lt_of_mul_lt_mul_right h1 (by omega)
      · rw [h] at e
        rw [Int.mul_right_comm] at e
        exact (Int.eq_of_mul_eq_mul_right (by omega) e).symm
    have k1 := key t u t' u' hu hu' e
    have k2 := key t' u' t u hu' hu e.symm
    constructor
    · rintro (h | h)
      · exact .inl (k1.1 h)
      · exact .inr ⟨k1.2 h.1, h.2⟩
    · rintro (h | h)
      · exact .inl (k2.1 h)
      · exact .inr ⟨k2.2 h.1, h.2⟩
theorem lets_iff {b t u : Int} : letsO (some b) t u = true ↔ (t < b / 2 * u ∨ (t = b / 2 * u ∧ b % 2 = 1)) := decide_eq_true_iff
/-- a narrower bound lets less by -/
theorem lets_mono {x y : Option Int} {t u : Int} (hu : 0 < u) (h : leO x y) (k : letsO x t u = true) : letsO y t u = true := by
  cases y with
  | none => rfl
  | some b =>
    cases x with
    | none => exact h.elim
    | some a =>
      have h : a ≤ b := h
      rw [lets_iff] at k ⊢
      by_cases c : a / 2 = b / 2
      · rw [← c]
        rcases k with k | k
        · exact .inl k
        · exact .inr ⟨k.1, by omega⟩
      · have l : a / 2 + 1 ≤ b / 2 := by omega
        have m := Int.mul_le_mul_of_nonneg_right l (Int.le_of_lt hu)
        rw [Int.add_mul, Int.one_mul] at m
        rcases k with k | k <;> (left; omega)
/-- sums are let by the sum -/
theorem lets_add {x y : Option Int} {t u t' u' : Int} (hu : 0 < u) (hu' : 0 < u') (h : letsO x t u = true) (k : letsO y t' u' = true) : letsO (addO x y) (t * u' + t' * u) (u * u') = true := by
  cases x with
  | none => rfl
  | some a =>
    cases y with
    | none => rfl
    | some b =>
      rw [lets_iff] at h k
      show letsO (some _) _ _ = true
      rw [lets_iff]
      obtain ⟨c, hc⟩ : ∃ c, (2 * (a / 2 + b / 2) + if a % 2 = 1 ∧ b % 2 = 1 then 1 else 0) = c := ⟨_, rfl⟩
      rw [hc]
      have c1 : c / 2 = a / 2 + b / 2 := by rw [← hc]; split <;> omega
      have c2 : a % 2 = 1 → b % 2 = 1 → c % 2 = 1 := by intro h1 h2; rw [← hc, if_pos ⟨h1, h2⟩]; omega
      rw [c1]
      have e : (a / 2 + b / 2) * (u * u') = a / 2 * u * u' + b / 2 * u' * u := by rw [Int.add_mul]; congr 1 <;> ac_rfl
      rw [e]
      rcases h with h | h <;> rcases k with k | k
      · have h1 := Int.mul_lt_mul_of_pos_right h hu'
        have k1 := Int.mul_lt_mul_of_pos_right k hu
        left; omega
      · have h1 := Int.mul_lt_mul_of_pos_right h hu'
        rw [k.1]
        left; omega
      · have k1 := Int.mul_lt_mul_of_pos_right k hu
        rw [h.1]
        left; omega
      · right
        exact ⟨by rw [h.1, k.1], c2 h.2 k.2⟩
/-- the values v (a fraction for each place) lie in M -/
def Lies (n : Nat) (M : Mx) (v : Nat → Int × Int) : Prop := ∀ i j, i < n → j < n → letsO (M i j) (dif (v i) (v j)).1 (dif (v i) (v j)).2 = true
structure Vals0 (n : Nat) (v : Nat → Int × Int) : Prop where
  zero : v 0 = (0, 1)
  pos : ∀ i, i < n → 0 < (v i).2
  nn : ∀ i, i < n → 0 ≤ (v i).1
theorem dif_pos {a b : Int × Int} (ha : 0 < a.2) (hb : 0 < b.2) : 0 < (dif a b).2 := Int.mul_pos ha hb
theorem lies_cell {n k i j : Nat} {M : Mx} {v : Nat → Int × Int} (h0 : Vals0 n v) (hk : k < n) (hi : i < n) (hj : j < n) (h : Lies n M v) : Lies n (cell1 k i j M) v := by
  intro a b ha hb
  unfold cell1 up2
  split
  · rename_i c
    obtain ⟨rfl, rfl⟩ := c
    have p1 := h0.pos a ha
    have p2 := h0.pos b hb
    have p3 := h0.pos k hk
    have s : letsO (addO (M a k) (M k b)) (dif (v a) (v b)).1 (dif (v a) (v b)).2 = true := by
      have := lets_add (dif_pos p1 p3) (dif_pos p3 p2) (h a k ha hk) (h k b hk hb)
      rw [letsO_ratio (dif_pos p1 p2) (Int.mul_pos (dif_pos p1 p3) (dif_pos p3 p2)) (t' := (dif (v a) (v k)).1 * (dif (v k) (v b)).2 + (dif (v k) (v b)).1 * (dif (v a) (v k)).2)]
      · exact this
      · generalize v a = x at *
        generalize v b = y at *
        generalize v k = z at *
        obtain ⟨x1, x2⟩ := x
        obtain ⟨y1, y2⟩ := y
        obtain ⟨z1, z2⟩ := z
        simp only [dif]
        grind
    have h1 := h a b ha hb
    cases hM : M a b with
    | none => exact s
    | some d =>
      cases hA : addO (M a k) (M k b) with
      | none => rw [hM] at h1; exact h1
      | some e =>
        rw [hM] at h1
        rw [hA] at s
        show letsO (some (if e < d then e else d)) _ _ = true
        split
        · exact s
        · exact h1
  · exact h a b ha hb
theorem lies_iter {n : Nat} {v : Nat → Int × Int} {f : Nat → Mx → Mx} {M : Mx} : ∀ m, (∀ i M, i < m → Lies n M v → Lies n (f i M) v) → Lies n M v → Lies n (iter f m M) v
  | 0, _, h => h
  | m + 1, hf, h => hf m _ (by omega) (lies_iter m (fun i M hi => hf i M (by omega)) h)
theorem lies_thr {n k : Nat} {M : Mx} {v : Nat → Int × Int} (h0 : Vals0 n v) (hk : k < n) (h : Lies n M v) : Lies n (thr n k M) v :=
  lies_iter n (fun i M hi h => by
    unfold rowst
    split
    · exact h
    · exact lies_iter n (fun j M hj h => lies_cell h0 hk hi hj h) h) h
theorem lies_up {n i j : Nat} {M : Mx} {v : Nat → Int × Int} (h : Lies n M v) (h1 : i < n → j < n → letsO (some 1) (dif (v i) (v j)).1 (dif (v i) (v j)).2 = true) : Lies n (up2 M i j (narO (M i j) (some 1))) v := by
  intro a b ha hb
  unfold up2
  split
  · rename_i c
    obtain ⟨rfl, rfl⟩ := c
    have h2 := h a b ha hb
    cases hM : M a b with
    | none => exact h1 ha hb
    | some d =>
      rw [hM] at h2
      show letsO (some (if 1 < d then 1 else d)) _ _ = true
      split
      · exact h1 ha hb
      · exact h2
  · exact h a b ha hb
theorem lies_diag {n i : Nat} {M : Mx} {v : Nat → Int × Int} (h0 : Vals0 n v) (hi : i < n) (h : Lies n M v) : Lies n (diag1 i M) v := by
  refine lies_up (lies_up h fun _ _ => ?_) fun hz _ => ?_
  · rw [lets_iff]
    right
    simp only [dif]
    exact ⟨by rw [show (1 : Int) / 2 = 0 from rfl]; omega, by decide⟩
  · rw [lets_iff]
    simp only [dif, h0.zero]
    have p := h0.nn i hi
    have : (1 : Int) / 2 = 0 := rfl
    rw [this]
    omega
theorem lies_nrw {n : Nat} {M : Mx} {v : Nat → Int × Int} (h0 : Vals0 n v) (h : Lies n M v) : Lies n (nrw n M) v :=
  lies_iter n (fun k M hk h => lies_thr h0 hk h) (lies_iter n (fun i M hi h => lies_diag h0 hi h) h)
theorem lies_of_le {n : Nat} {N M : Mx} {v : Nat → Int × Int} (h0 : Vals0 n v) (l : LeM N M) (h : Lies n N v) : Lies n M v := fun i j hi hj => lets_mono (dif_pos (h0.pos i hi) (h0.pos j hj)) (l i j) (h i j hi hj)
theorem nrw_lies {n : Nat} {M : Mx} {v : Nat → Int × Int} (h0 : Vals0 n v) : Lies n (nrw n M) v ↔ Lies n M v := ⟨lies_of_le h0 (nrw_le n M), lies_nrw h0⟩
/-- where values lie, the diagonal isn't below at most 0 -/
theorem lies_pos {n i : Nat} {M : Mx} {v : Nat → Int × Int} (h0 : Vals0 n v) (hi : i < n) (h : Lies n M v) : Pos M i := by
  have h1 := h i i hi hi
  cases hM : M i i with
  | none => show leO (some 1) (M i i); rw [hM]; trivial
  | some d =>
    show leO (some 1) (M i i)
    rw [hM] at h1 ⊢
    rw [lets_iff] at h1
    show 1 ≤ d
    have e : (dif (v i) (v i)).1 = 0 := by simp only [dif]; omega
    have p := dif_pos (h0.pos i hi) (h0.pos i hi)
    rw [e] at h1
    generalize (dif (v i) (v i)).2 = D at *
    rcases Int.lt_or_le (d / 2) 0 with c | c
    · have := Int.mul_neg_of_neg_of_pos c p
      rcases h1 with h1 | h1 <;> omega
    · rcases Int.lt_or_le 0 (d / 2) with c2 | c2
      · omega
      · have z : d / 2 = 0 := by omega
        rw [z, Int.zero_mul] at h1
        rcases h1 with h1 | h1 <;> omega
/-- the places: nought, then the values -/
def plc (xs : List (Int × Int)) : Nat → Int × Int := fun i => ((0, 1) :: xs).getD i (0, 1)
theorem plc_get {xs : List (Int × Int)} {i : Nat} (h : i < xs.length + 1) : ((0, 1) :: xs)[i]? = some (plc xs i) := by
  have h2 : i < ((0, 1) :: xs).length := h
  show _ = some (((0, 1) :: xs).getD i (0, 1))
  rw [List.getD_eq_getElem?_getD, List.getElem?_eq_getElem h2]; rfl
theorem plc_good {s : Nat} {xs : List (Int × Int)} (g : GoodV s xs) (hs : 1 ≤ s) (i : Nat) : 0 ≤ (plc xs i).1 ∧ 0 < (plc xs i).2 ∧ Sz s (plc xs i).1 ∧ Sz s (plc xs i).2 := by
  have one : Sz s 1 := by
    have : (2 : Nat) ^ 1 ≤ 2 ^ s := Nat.pow_le_pow_right (by decide) hs
    unfold Sz; omega
  have base : (0 : Int) ≤ ((0, 1) : Int × Int).1 ∧ 0 < ((0, 1) : Int × Int).2 ∧ Sz s ((0, 1) : Int × Int).1 ∧ Sz s ((0, 1) : Int × Int).2 := ⟨by decide, by decide, by unfold Sz; exact Nat.pow_pos (by decide), one⟩
  unfold plc
  cases h : ((0, 1) :: xs)[i]? with
  | none => rw [List.getD_eq_getElem?_getD, h]; exact base
  | some x =>
    rw [List.getD_eq_getElem?_getD, h]
    rcases List.mem_cons.mp (List.mem_of_getElem? h) with e | m
    · rw [e]; exact base
    · exact g x m
theorem plc_vals {s : Nat} {xs : List (Int × Int)} (g : GoodV s xs) (hs : 1 ≤ s) (n : Nat) : Vals0 n (plc xs) := ⟨rfl, fun i _ => (plc_good g hs i).2.1, fun i _ => (plc_good g hs i).1⟩
/-- at most the number from above, and more -/
theorem ceil_ok {t u k : Int} (hu : 0 < u) (hk : 0 ≤ k) : letsO (some (2 * (0 - (0 - t).fdiv u + k) + 1)) t u = true := by
  rw [lets_iff]
  rw [Int.fdiv_eq_ediv_of_nonneg _ (by omega)]
  have e : (2 * (0 - (0 - t) / u + k) + 1) / 2 = 0 - (0 - t) / u + k := by omega
  have e2 : (2 * (0 - (0 - t) / u + k) + 1) % 2 = 1 := by omega
  rw [e, e2]
  have h1 := Int.ediv_mul_le (0 - t) (b := u) (by omega)
  have h2 : 0 ≤ k * u := Int.mul_nonneg hk (by omega)
  rw [Int.add_mul, Int.sub_mul, Int.zero_mul]
  generalize (0 - t) / u * u = A at *
  omega
/-- below the number above, and more -/
theorem floor_ok {t u k : Int} (hu : 0 < u) (hk : 0 ≤ k) : letsO (some (2 * (t.fdiv u + 1 + k))) t u = true := by
  rw [lets_iff]
  rw [Int.fdiv_eq_ediv_of_nonneg _ (by omega)]
  have e : (2 * (t / u + 1 + k)) / 2 = t / u + 1 + k := by omega
  rw [e]
  have h1 := Int.lt_ediv_add_one_mul_self t hu
  have h2 : 0 ≤ k * u := Int.mul_nonneg hk (by omega)
  rw [Int.add_mul]
  generalize (t / u + 1) * u = A at *
  omega
theorem fdiv_sz {s : Nat} {t u : Int} (hu : 0 < u) (h : Sz s t) : Sz (s + 1) (t.fdiv u) := by
  rw [Int.fdiv_eq_ediv_of_nonneg _ (by omega)]
  have p : (2 : Nat) ^ (s + 1) = 2 ^ s * 2 := Nat.pow_succ ..
  unfold Sz at *
  rw [p]
  rcases Int.lt_or_le t 0 with c | c
  · have h1 : t ≤ t / u := by
      have := Int.ediv_le_ediv (c := u) (by omega) (Int.le_refl t)
      rcases Int.lt_or_le (t / u) t with z | z
      · have z1 : t / u + 1 ≤ t := by omega
        have z2 := Int.mul_le_mul_of_nonneg_right z1 (Int.le_of_lt hu)
        have z3 := Int.lt_ediv_add_one_mul_self t hu
        have z4 : t * u ≤ t * 1 := Int.mul_le_mul_of_nonpos_left (by omega) (by omega)
        omega
      · exact z
    have h2 : t / u < 0 := Int.ediv_neg_of_neg_of_pos c hu
    omega
  · have h1 := Int.ediv_nonneg c (Int.le_of_lt hu)
    have h2 := Int.ediv_le_self (a := t) u c
    omega
theorem half1 {b : Int} (h : Sz 9000 b) : Sz 10000 (b / 2) := Sz.le (j := b) (by omega) (h.mono (by omega))
theorem VAt.upd_ne {H : Hp} {o l : Addr} {xs : List (Int × Int)} {items items' : List V} (v : VAt H o xs) (hl : H l = some (.lst items)) (n : o ≠ l) : VAt (upd H l (.lst items')) o xs := by
  obtain ⟨qs, a, b, c⟩ := v
  refine ⟨qs, by rw [L2.upd_ne n]; exact a, b, fun i q x h1 h2 => ?_⟩
  have h3 := c i q x h1 h2
  rw [L2.upd_ne (ne_of h3 hl (by intro z; cases z))]
  exact h3
theorem VAt.set {H : Hp} {o q : Addr} {xs : List (Int × Int)} {i : Nat} {x : Int × Int} (v : VAt H o xs) (hq : H q = some (.tup [.int x.1, .int x.2])) : ∃ items, H o = some (.lst items) ∧ items.length = xs.length ∧ VAt (upd H o (.lst (items.set i (.ref q)))) o (xs.set i x) := by
  obtain ⟨qs, a, b, c⟩ := v
  refine ⟨_, a, by rw [List.length_map]; exact b, qs.set i q, by rw [upd_same, List.map_set], by simp [b], fun k q' x' h1 h2 => ?_⟩
  have nq : ∀ r y, H r = some (.tup y) → (upd H o (.lst ((qs.map V.ref).set i (.ref q)))) r = some (.tup y) := fun r y h => by
    rw [L2.upd_ne (ne_of h a (by intro z; cases z))]; exact h
  rw [List.getElem?_set] at h1 h2
  by_cases e : i = k
  · rw [if_pos e] at h1 h2
    split at h1
    · split at h2
      · cases h1; cases h2; exact nq _ _ hq
      · cases h2
    · cases h1
  · rw [if_neg e] at h1 h2
    exact nq _ _ (c k q' x' h1 h2)
theorem GoodV.set {s : Nat} {xs : List (Int × Int)} {i : Nat} {x : Int × Int} (g : GoodV s xs) (h : 0 ≤ x.1 ∧ 0 < x.2 ∧ Sz s x.1 ∧ Sz s x.2) : GoodV s (xs.set i x) := fun y hy => by
  rcases List.mem_or_eq_of_mem_set hy with h1 | h1
  · exact g y h1
  · rw [h1]; exact h
/-- all are in lowest terms -/
def RedV (xs : List (Int × Int)) : Prop := ∀ x ∈ xs, Int.gcd x.1 x.2 = 1
theorem RedV.set {xs : List (Int × Int)} {i : Nat} {x : Int × Int} (g : RedV xs) (h : Int.gcd x.1 x.2 = 1) : RedV (xs.set i x) := fun y hy => by
  rcases List.mem_or_eq_of_mem_set hy with h1 | h1
  · exact g y h1
  · rw [h1]; exact h
theorem GoodV.mono {s t : Nat} {xs : List (Int × Int)} (g : GoodV s xs) (h : s ≤ t) : GoodV t xs := fun x hx => ⟨(g x hx).1, (g x hx).2.1, (g x hx).2.2.1.mono h, (g x hx).2.2.2.mono h⟩
/-- list(values) -/
theorem list_vals {K : PySem.W.Frag} {H : Hp} {o : Addr} {xs : List (Int × Int)} {Q : VK} (v : VAt H o xs) (q : ∀ l H2, Same H H2 → H l = none → VAt H2 l xs → Q (.ref l) H2) : rListN K [.ref o] H Q := by
  obtain ⟨qs, a, b, c⟩ := v
  exact ⟨o, _, rfl, .inl (.of a), fun l H2 s f e => q l H2 s f ⟨qs, e, b, fun i q x h1 h2 => s _ _ (c i q x h1 h2)⟩⟩
/-! ### rows made anew -/
theorem zrow_rep (k : Nat) (x : Option Int) : (List.replicate k [oV x]).flatten = zrow k (fun _ => x) := by
  rw [List.flatten_replicate_singleton]
  unfold zrow
  rw [List.map_const', List.length_range]
theorem zrow_app (a b : Nat) (f : Nat → Option Int) : zrow a f ++ zrow b (fun j => f (a + j)) = zrow (a + b) f := by
  unfold zrow
  rw [List.range_add, List.map_append, List.map_map]
  rfl
theorem Grow.to {H0 H : Hp} {l : Addr} {as : List Addr} {i n : Nat} {M N : Mx} (g : Grow H0 H l as i n M) (h : ∀ a b, a < i → b < n → M a b = N a b) : Grow H0 H l as i n N :=
  ⟨g.top, g.len, g.nd, g.fr, fun j a hj => by
    have hl := (List.getElem?_eq_some_iff.mp hj).1
    have := g.len
    rw [g.row j a hj, zrow_congr fun b hb => h j b (by omega) hb]⟩
/-- [row for k in range(n)]: fresh rows -/
theorem lc_rowsR {H : Hp} {n c : Nat} {σ : L2.St} {M : Mx} {ta : TA} {te : TE} {Q : VK} (hn : n ≤ 60) (hc : c < σ.length)
    (ha : ∀ Q1 : List V → Hp → Prop, Q1 [.int n] H → ta σ H Q1)
    (ht : ∀ i H1 (Q1 : VK), i < n → (∀ r H2, Same H1 H2 → H1 r = none → H2 r = some (.lst (zrow n (M i))) → Q1 (.ref r) H2) → te ((σ.set c none).set c (some (.int (0 + (i : Int))))) H1 Q1)
    (q : ∀ D as' H', Same H H' → ZAt H' D as' n M → H D = none → (∀ a ∈ as', H a = none) → Q (.ref D) H') :
    tLc (iRng1 ta) (gName c) tYes te [c] σ H Q := by
  refine ha _ ⟨(n : Int), rfl, (rg_ok (by omega)).1, (rg_ok (by omega)).2, fun D hD => ?_⟩
  refine lc_range (lo := 0) (n := n) (fun i H' => ∃ as' : List Addr, Same H H' ∧ H' D = some (.lst (as'.map V.ref)) ∧ as'.length = i ∧ as'.Nodup ∧ (∀ a ∈ as', H a = none ∧ a ≠ D) ∧ ∀ (j : Nat) (a : Addr), as'[j]? = some a → H' a = some (.lst (zrow n (M j))))
    ⟨[], upd_keep hD, upd_same, rfl, List.nodup_nil, (fun a h => by cases h), (fun j a h => by cases h)⟩ ?_ ?_
  · rintro i H' hi ⟨as', sm, eD, hl, nd, hf, hr⟩
    refine ⟨?_, ?_⟩
    · show ((σ.set c none).set c (some (.int (0 + (i : Int))))).set c none = σ.set c none
      rw [List.set_set, List.set_set]
    refine ht i H' _ hi fun l H2 s2 fl e2 => ?_
    have nD : l ≠ D := fun e => by rw [e, eD] at fl; cases fl
    have nl : l ∉ as' := fun hm => by
      obtain ⟨j, hj, e⟩ := List.mem_iff_getElem.mp hm
      have := hr j l (by rw [List.getElem?_eq_getElem hj, e])
      rw [fl] at this; cases this
    refine ⟨as'.map V.ref, s2 _ _ eD, by rw [List.length_map, hl]; exact small1000 (by omega), as' ++ [l], same_updN hD (sm.trans s2), ?_, by simp [hl], ?_, ?_, ?_⟩
    · rw [upd_same, List.map_append]; rfl
    · rw [List.nodup_append]
      refine ⟨nd, by simp, fun a ha b hb e => ?_⟩
      have : b = l := by simpa using hb
      exact nl (by rw [← this, ← e]; exact ha)
    · intro a ha
      rcases List.mem_append.mp ha with h | h
      · exact hf a h
      · have : a = l := by simpa using h
        subst this
        exact ⟨sm.free fl, nD⟩
    · intro j a hj
      by_cases c1 : j < as'.length
      · rw [List.getElem?_append_left c1] at hj
        rw [upd_ne (hf a (List.mem_of_getElem? hj)).2]
        exact s2 _ _ (hr j a hj)
      · have hlt := (List.getElem?_eq_some_iff.mp hj).1
        rw [List.length_append, List.length_singleton] at hlt
        obtain rfl : j = as'.length := by omega
        rw [List.getElem?_append_right (Nat.le_refl _), Nat.sub_self] at hj
        have : l = a := by simpa using hj
        subst this
        rw [upd_ne nD, hl]
        exact e2
  · rintro H' ⟨as', sm, eD, hl, nd, hf, hr⟩
    exact q D as' H' sm ⟨eD, hl, hr, nd⟩ hD fun a ha => (hf a ha).1
/-- a for over a range from a place on -/
def ForR2 (lo : Int) (n : Nat) (g : TG) (tb : TS) (D : Ends) (σ : L2.St) (H : Hp) : Prop := ∃ W : Nat → Nat → L2.St → Hp → Prop, (∃ m, W 0 m σ H) ∧ ∀ i m σ H, W i m σ H →
  ((Itr lo n).stop i H ∧ D.nx σ H) ∨ ((Itr lo n).go i H ∧ ∃ N : L2.St → Hp → Prop, (∀ σ' H', N σ' H' → ∃ m', m' < m ∧ W (i + 1) m' σ' H') ∧ ∀ x H', (Itr lo n).yld i H x H' → g x σ H' fun σ2 H2 => tb { D with nx := N, ct := N, bk := D.nx } σ2 H2)
theorem for_rg2 {ta : TA} {g : TG} {tb : TS} {D : Ends} {σ : L2.St} {H : Hp} (h : ta σ H fun vs H1 => ∃ i j : Int, vs = [.int i, .int j] ∧ (-(2 ^ 62) ≤ i ∧ i < 2 ^ 62 ∧ -(2 ^ 62) ≤ j ∧ j < 2 ^ 62) ∧ ForR2 i (j - i).toNat g tb D σ H1) : tFor (iRng2 ta) g tb D σ H := h
theorem forR2_by {lo : Int} {n : Nat} {g : TG} {tb : TS} {D : Ends} {σ : L2.St} {H : Hp} (Pv : Nat → L2.St → Hp → Prop) (h0 : Pv 0 σ H)
    (hs : ∀ i σ H, i < n → Pv i σ H → g (.int (lo + i)) σ H fun σ2 H2 => tb { D with nx := Pv (i + 1), ct := Pv (i + 1), bk := D.nx } σ2 H2) (hd : ∀ σ H, Pv n σ H → D.nx σ H) : ForR2 lo n g tb D σ H := for_range (lo := lo) (n := n) Pv h0 hs hd
/-- the zone of all stands -/
def evM : Mx := fun i j => if i = 0 ∨ i = j then some 1 else none
def oneM : Mx := fun _ _ => some 1
/-! ### values as data, and the zones of all and of the noughts alone -/
def vdata (xs : List (Int × Int)) : PyData := .list (xs.map fun x => .tuple [.int x.1, .int x.2])
theorem VAt.dp {K : PySem.W.Frag} {H : Hp} {p : Addr} {xs : List (Int × Int)} (v : VAt H p xs) : Dp K H (.ref p) (vdata xs) := by
  obtain ⟨qs, a, b, c⟩ := v
  refine .lst (.of a) (dpall_of (by simp [b]) fun k v d h1 h2 => ?_)
  rw [List.getElem?_map] at h1 h2
  obtain ⟨q, hq, rfl⟩ := Option.map_eq_some_iff.mp h1
  obtain ⟨x, hx, rfl⟩ := Option.map_eq_some_iff.mp h2
  exact .tup (.of (c k q x hq hx)) (.cons (.int _) (.cons (.int _) .nil))
theorem lay_vals (xs : List (Int × Int)) : (vdata xs).canLay0 = true ∧ (vdata xs).depth ≤ 2 := lay_list fun d h => by
  obtain ⟨x, _, rfl⟩ := List.mem_map.mp h
  exact ⟨rfl, Nat.le_refl _⟩
theorem shaped_vals (xs : List (Int × Int)) : SeqAt.shaped (vdata xs) = true := Bool.and_eq_true_iff.mpr ⟨(lay_vals xs).1, decide_eq_true (by have := (lay_vals xs).2; omega)⟩
theorem eqv_vals {xs ys : List (Int × Int)} (h : xs.length = ys.length) : PyData.eqv (vdata xs) (vdata ys) = decide (xs = ys) := by
  have key : ∀ xs ys : List (Int × Int), xs.length = ys.length → PyData.eqvAll (xs.map fun x => .tuple [.int x.1, .int x.2]) (ys.map fun x => .tuple [.int x.1, .int x.2]) = decide (xs = ys) := by
    intro xs
    induction xs with
    | nil =>
      intro ys h
      cases ys with
      | nil => rfl
      | cons y ys => cases h
    | cons x xs ih =>
      intro ys h
      cases ys with
      | nil => cases h
      | cons y ys =>
        obtain ⟨a, b⟩ := x
        obtain ⟨c, d⟩ := y
        have := ih ys (by simpa using h)
        simp only [List.map_cons]
        rw [PyData.eqvAll, this]
        simp [PyData.eqv, PyData.eqvAll, and_assoc]
        rw [Bool.eq_iff_iff]
        simp [and_assoc]
  rw [show PyData.eqv (vdata xs) (vdata ys) = PyData.eqvAll (xs.map fun x => .tuple [.int x.1, .int x.2]) (ys.map fun x => .tuple [.int x.1, .int x.2]) by unfold vdata; rw [PyData.eqv]]
  exact key xs ys h
theorem lies_ev {n : Nat} {v : Nat → Int × Int} (h0 : Vals0 n v) : Lies n evM v := fun i j hi hj => by
  unfold evM
  split
  · rename_i c
    rw [lets_iff]
    rcases c with rfl | rfl
    · simp only [dif, h0.zero]
      have p := h0.nn j hj
      have : (1 : Int) / 2 = 0 := rfl
      rw [this]
      omega
    · right
      simp only [dif]
      exact ⟨by rw [show (1 : Int) / 2 = 0 from rfl]; omega, by decide⟩
  · rfl
theorem lies_one {n : Nat} {v : Nat → Int × Int} (h0 : Vals0 n v) : Lies n oneM v ↔ ∀ i, i < n → (v i).1 = 0 := by
  constructor
  · intro h i hi
    have h1 := h i 0 hi (by omega)
    have h1 : letsO (some 1) _ _ = true := h1
    rw [lets_iff] at h1
    simp only [dif, h0.zero] at h1
    have p := h0.nn i hi
    have : (1 : Int) / 2 = 0 := rfl
    rw [this] at h1
    omega
  · intro h i j hi hj
    show letsO (some 1) _ _ = true
    rw [lets_iff]
    right
    simp only [dif, h i hi, h j hj]
    exact ⟨by rw [show (1 : Int) / 2 = 0 from rfl]; omega, by decide⟩
theorem noughts {s : Nat} {xs : List (Int × Int)} (g : GoodV s xs) (r : RedV xs) : (∀ i, i < xs.length + 1 → (plc xs i).1 = 0) ↔ xs = List.replicate xs.length (0, 1) := by
  constructor
  · intro h
    rw [List.eq_replicate_iff]
    refine ⟨rfl, fun b hb => ?_⟩
    obtain ⟨i, hi, e⟩ := List.mem_iff_getElem.mp hb
    have h1 := h (i + 1) (by omega)
    have h2 := plc_get (xs := xs) (i := i + 1) (by omega)
    rw [List.getElem?_cons_succ, List.getElem?_eq_getElem hi, e] at h2
    have h2 := Option.some.inj h2
    rw [← h2] at h1
    have h3 := r b hb
    have h4 := (g b hb).2.1
    obtain ⟨t, u⟩ := b
    have h1 : t = 0 := h1
    subst h1
    have h3 : Int.gcd 0 u = 1 := h3
    rw [Int.gcd_zero_left] at h3
    have h4 : 0 < u := h4
    rw [show u = 1 by omega]
  · intro h i hi
    have h2 := List.mem_of_getElem? (plc_get (xs := xs) hi)
    rcases List.mem_cons.mp h2 with e | e
    · rw [e]
    · rw [List.eq_of_mem_replicate (h.subst (motive := fun l => plc xs i ∈ l) e)]
theorem lies_noughts {s n : Nat} {xs : List (Int × Int)} (g : GoodV s xs) (hs : 1 ≤ s) (r : RedV xs) (hn : xs.length + 1 = n) : Lies n oneM (plc xs) ↔ xs = List.replicate xs.length (0, 1) := by
  subst hn
  exact (lies_one (plc_vals g hs _)).trans (noughts g r)
/-- a zone and values, in one list -/
def pdata (n : Nat) (M : Mx) (xs : List (Int × Int)) : PyData := .list [zdata n M, vdata xs]
theorem dp_pair {K : PySem.W.Frag} {H : Hp} {p a b : Addr} {n : Nat} {M : Mx} {xs : List (Int × Int)} {as : List Addr} (h : H p = some (.lst [.ref a, .ref b])) (z : ZAt H a as n M) (v : VAt H b xs) : Dp K H (.ref p) (pdata n M xs) := .lst (.of h) (.cons z.dp (.cons v.dp .nil))
theorem lay_pair (n : Nat) (M : Mx) (xs : List (Int × Int)) : (pdata n M xs).canLay0 = true ∧ (pdata n M xs).depth ≤ 3 := lay_list fun d h => by
  rcases List.mem_cons.mp h with h | h
  · rw [h]; exact lay_zone _ _
  · rw [List.mem_singleton.mp h]; exact lay_vals _
theorem shaped_pair (n : Nat) (M : Mx) (xs : List (Int × Int)) : SeqAt.shaped (pdata n M xs) = true := Bool.and_eq_true_iff.mpr ⟨(lay_pair n M xs).1, decide_eq_true (by have := (lay_pair n M xs).2; omega)⟩
/-! ### dicts of values -/
section
variable {X : Cx} {pins : List (Addr × Obj)} {σ : L2.St} {H : Hp} {s : Shared} {a b : Addr} {kvs more : List (Key × V)} {A : Around} {E : Value → Shared → Prop}
theorem d_update {Q : Value → Shared → Prop} (I : Inv X pins σ H s) (e : H a = some (.dK kvs)) (e2 : H b = some (.dK more)) (hab : a ≠ b) (hl : kvs.length + more.length ≤ sizeLine) (h : ∀ s', Inv X pins σ (upd H a (.dK (mergeK kvs more))) s' → Q .none s') :
    wpAny (model X.prog X.w) A (call (.builtin "dict.update") [.ref a, .ref b]) Q E s := by
  obtain ⟨z, hd, vs, rel, dd⟩ := dk_of I.hok e
  obtain ⟨z2, hd2, vs2, rel2, dd2⟩ := dk_of I.hok e2
  refine call_meetsIn PySem.F.slot_dict_update dd.typeIs PySem.F.entry_dict_update (PySem.F.args_dict_update_2 _ _) (meets_dict_update (mixKind X.prog X.w) a b hab hd2) ⟨vs, vs2, dd, dd2, by rw [← rel.length, ← rel2.length]; exact hl, fun h' dd' _ hs => h _ ?_⟩
  have he : ∃ q, h'.get? a = some q := let ⟨q, _, _, hq, _⟩ := dd'; ⟨q, hq⟩
  exact d_write (t' := s.toks) I (by rw [e]; exact True.intro) hs he (dk_new (Nat.le_trans (length_mergeK more kvs) hl) hd (rel2.merge rel) dd')
end
def tDUpd (td ty : TE) : TE := fun σ H Q => td σ H fun x H1 => ∃ a, x = .ref a ∧ IsD H1 a ∧ ty σ H1 fun y H2 => ∃ b kvs more, y = .ref b ∧ a ≠ b ∧ H2 a = some (.dK kvs) ∧ H2 b = some (.dK more) ∧ kvs.length + more.length ≤ sizeLine ∧ Q .non (upd H2 a (.dK (mergeK kvs more)))
theorem pe_dupd {X : Cx} {o e : Expr} {apos cpos : PySem.Pos} {td ty : TE} (ho : PE X o td) (he : PE X e ty) (m : M1 X o "update" apos e cpos) : PE X (.Call (.Attribute o "update" apos) [e] [] cpos) (tDUpd td ty) := by
  refine ⟨fun pins s σ H Q I h => ?_⟩
  refine wpAny_Call_method m.base m.few m.line PySem.F.plainAttrs_dict PySem.F.slot_dict_update PySem.F.type_dict_update (thn (ho.run pins s σ H _ I h) fun u s1 ⟨x, H1, I1, rx, a, ex, d, q1⟩ => ?_)
  subst ex
  obtain rfl : u = Value.ref a := rx
  obtain ⟨t1, t2, _⟩ := isD_at I1 d
  refine ⟨t1, t2, ?_⟩
  rw [m.trees]
  refine Calls.callWith_builtin rfl (Calls.evalArgs_plain (Calls.spliced_cons (thn (he.run pins s1 σ H1 _ I1 q1) fun iv s2 ⟨y, H2, I2, ry, b, kvs, more, ey, hab, ea, eb, hl, q2⟩ => Calls.spliced_nil ?_)))
  subst ey
  obtain rfl : iv = Value.ref b := ry
  exact d_update I2 ea eb hab hl fun s3 I3 => ⟨.non, _, I3, rfl, q2⟩
/-- a for over the pairs of a dict, behind its iterable's reading -/
def ForD (d : Addr) (od : Obj) (kvs : List (Key × V)) (g : TG) (tb : TS) (D : Ends) (σ : L2.St) (H : Hp) : Prop := ∃ W : Nat → Nat → L2.St → Hp → Prop, (∃ m, W 0 m σ H) ∧ ∀ i m σ H, W i m σ H →
  ((Iti d od kvs).stop i H ∧ D.nx σ H) ∨ ((Iti d od kvs).go i H ∧ ∃ N : L2.St → Hp → Prop, (∀ σ' H', N σ' H' → ∃ m', m' < m ∧ W (i + 1) m' σ' H') ∧ ∀ v H', (Iti d od kvs).yld i H v H' → g v σ H' fun σ2 H2 => tb { D with nx := N, ct := N, bk := D.nx } σ2 H2)
theorem forD_by {d : Addr} {od : Obj} {kvs : List (Key × V)} {g : TG} {tb : TS} {D : Ends} {σ : L2.St} {H : Hp} (Pv : Nat → L2.St → Hp → Prop) (h0 : Pv 0 σ H) (hq : ∀ i σ H, Pv i σ H → H d = some (.frz od (.dK kvs)))
    (hs : ∀ (i : Nat) (k : Key) (v : V) (T : Addr) (σ : L2.St) (H : Hp) (H2 : Hp), kvs[i]? = some (k, v) → Pv i σ H → Same H H2 → H2 T = some (.tup [kV k, v]) → g (.ref T) σ H2 fun σ2 H2 => tb { D with nx := Pv (i + 1), ct := Pv (i + 1), bk := D.nx } σ2 H2) (hd : ∀ σ H, Pv kvs.length σ H → D.nx σ H) : ForD d od kvs g tb D σ H := by
  refine ⟨fun i m σ H => m = kvs.length - i ∧ i ≤ kvs.length ∧ Pv i σ H, ⟨kvs.length, rfl, Nat.zero_le _, h0⟩, ?_⟩
  rintro i m σ H ⟨rfl, hi, p⟩
  have q := hq i σ H p
  by_cases hlt : i < kvs.length
  · refine .inr ⟨⟨q, hlt⟩, Pv (i + 1), fun σ' H' p' => ⟨kvs.length - (i + 1), by omega, rfl, hlt, p'⟩, fun v H' y => ?_⟩
    obtain ⟨T, k, v', ek, rfl, hT, rfl⟩ := y
    exact hs i k v' T σ H _ ek p (upd_keep hT) upd_same
  · have e : i = kvs.length := by omega
    subst e
    exact .inl ⟨⟨q, Nat.le_refl _⟩, hd σ H p⟩
/-- for k, v in d.items(), d a variable that holds a dict; the loop only makes new things -/
theorem for_items {i : Nat} {d : Addr} {kvs : List (Key × V)} {g : TG} {tb : TS} {D : Ends} {σ : L2.St} {H : Hp} (hv : σ[i]? = some (some (.ref d))) (hd : H d = some (.dK kvs))
    (h : ∀ od, ForD d od kvs g tb ⟨fun σ' H' => H' d = some (.frz od (.dK kvs)) ∧ D.nx σ' (upd H' d (.dK kvs)), fun v H' => H' d = some (.frz od (.dK kvs)) ∧ D.rt v (upd H' d (.dK kvs)), fun σ' H' => H' d = some (.frz od (.dK kvs)) ∧ D.bk σ' (upd H' d (.dK kvs)), fun σ' H' => H' d = some (.frz od (.dK kvs)) ∧ D.ct σ' (upd H' d (.dK kvs))⟩ σ (upd H d (.frz od (.dK kvs)))) :
    tLock (tFor (iItems (tVar i)) g tb) D σ H :=
  ⟨d, _, hd, True.intro, fun od => ⟨.ref d, hv, d, od, kvs, rfl, upd_same, h od⟩⟩
theorem unlock_same {H H' : Hp} {d : Addr} {od : Obj} {u : HO} (hd : H d = some u) (s : Same (upd H d (.frz od u)) H') : Same H (upd H' d u) := fun b o e => by
  by_cases c : b = d
  · subst c
    rw [hd] at e
    rw [upd_same]; exact e
  · rw [upd_ne c]
    exact s b o (by rw [upd_ne c]; exact e)
/-- values of some places, in a dict -/
structure DAt (H : Hp) (d : Addr) (n : Nat) (F : Nat → Option (Int × Int)) (kvs : List (Key × V)) : Prop where
  here : H d = some (.dK kvs)
  mem : ∀ k v, (k, v) ∈ kvs → ∃ (j : Nat) (x : Int × Int) (q : Addr), j < n ∧ k = .inl (j : Int) ∧ v = .ref q ∧ F j = some x ∧ H q = some (.tup [.int x.1, .int x.2])
  cov : ∀ (j : Nat) x, F j = some x → ∃ v, ((.inl (j : Int) : Key), v) ∈ kvs
theorem valV_mem {kvs : List (Key × V)} {k : Key} {v : V} (h : valV kvs k = some v) : (k, v) ∈ kvs := by
  unfold valV at h
  obtain ⟨p, hp, rfl⟩ := Option.map_eq_some_iff.mp h
  have h1 := List.mem_of_find?_eq_some hp
  have h2 := List.find?_some hp
  have h2 : p.1 = k := of_decide_eq_true h2
  rw [← h2]; exact h1
theorem valV_ex {kvs : List (Key × V)} {k : Key} {v : V} (h : (k, v) ∈ kvs) : ∃ w, valV kvs k = some w := by
  unfold valV
  cases hf : kvs.find? fun kv => decide (kv.1 = k) with
  | none =>
    have := List.find?_eq_none.mp hf (k, v) h
    simp at this
  | some p => exact ⟨p.2, rfl⟩
theorem DAt.val {H : Hp} {d : Addr} {n : Nat} {F : Nat → Option (Int × Int)} {kvs : List (Key × V)} (D : DAt H d n F kvs) {j : Nat} {x : Int × Int} (h : F j = some x) : ∃ q, valV kvs (.inl (j : Int)) = some (.ref q) ∧ H q = some (.tup [.int x.1, .int x.2]) := by
  obtain ⟨v, hv⟩ := D.cov j x h
  obtain ⟨w, hw⟩ := valV_ex hv
  obtain ⟨j', x', q, _, ek, ev, ef, eq⟩ := D.mem _ _ (valV_mem hw)
  have ek : (j : Int) = (j' : Int) := Sum.inl.inj ek
  have ej : j = j' := by omega
  subst ej
  rw [h] at ef; cases ef
  exact ⟨q, by rw [hw, ev], eq⟩
theorem DAt.no {H : Hp} {d : Addr} {n : Nat} {F : Nat → Option (Int × Int)} {kvs : List (Key × V)} (D : DAt H d n F kvs) {j : Nat} (h : F j = none) : valV kvs (.inl (j : Int)) = none := by
  cases hw : valV kvs (.inl (j : Int)) with
  | none => rfl
  | some w =>
    obtain ⟨j', x', q, _, ek, ev, ef, eq⟩ := D.mem _ _ (valV_mem hw)
    have ek : (j : Int) = (j' : Int) := Sum.inl.inj ek
    have ej : j = j' := by omega
    subst ej
    rw [h] at ef; cases ef
theorem DAt.keep {H H' : Hp} {d : Addr} {n : Nat} {F : Nat → Option (Int × Int)} {kvs : List (Key × V)} (D : DAt H d n F kvs) (s : Same H H') : DAt H' d n F kvs :=
  ⟨s _ _ D.here, fun k v h => by
    obtain ⟨j, x, q, a, b, c, e, f⟩ := D.mem k v h
    exact ⟨j, x, q, a, b, c, e, s _ _ f⟩, D.cov⟩
def setF (F : Nat → Option (Int × Int)) (k : Nat) (x : Int × Int) : Nat → Option (Int × Int) := fun j => if j = k then some x else F j
theorem DAt.put {H : Hp} {d q : Addr} {n k : Nat} {F : Nat → Option (Int × Int)} {kvs : List (Key × V)} {x : Int × Int} (D : DAt H d n F kvs) (hk : k < n) (hF : F k = none) (hq : H q = some (.tup [.int x.1, .int x.2])) :
    DAt (upd H d (.dK (putK kvs (.inl (k : Int)) (.ref q)))) d n (setF F k x) (putK kvs (.inl (k : Int)) (.ref q)) := by
  have e := putK_new (.ref q) (D.no hF)
  have nq : ∀ r y, H r = some (.tup y) → (upd H d (.dK (putK kvs (.inl (k : Int)) (.ref q)))) r = some (.tup y) := fun r y h => by
    rw [L2.upd_ne (ne_of h D.here (by intro z; cases z))]; exact h
  refine ⟨upd_same, fun k' v h => ?_, fun j y h => ?_⟩
  · rw [e] at h
    rcases List.mem_append.mp h with h | h
    · obtain ⟨j, y, r, a, b, c, f, g⟩ := D.mem k' v h
      refine ⟨j, y, r, a, b, c, ?_, nq _ _ g⟩
      unfold setF
      have : j ≠ k := fun z => by rw [z, hF] at f; cases f
      rw [if_neg this]; exact f
    · have h := List.mem_singleton.mp h
      cases h
      exact ⟨k, x, q, hk, rfl, rfl, if_pos rfl, nq _ _ hq⟩
  · rw [e]
    unfold setF at h
    by_cases c : j = k
    · subst c
      exact ⟨.ref q, List.mem_append.mpr (.inr (List.mem_singleton.mpr rfl))⟩
    · rw [if_neg c] at h
      obtain ⟨v, hv⟩ := D.cov j y h
      exact ⟨v, List.mem_append.mpr (.inl hv)⟩
theorem mem_putK {kvs : List (Key × V)} {k k' : Key} {v v' : V} (h : (k', v') ∈ putK kvs k v) : (k' = k ∧ v' = v) ∨ ((k', v') ∈ kvs ∧ k' ≠ k) := by
  unfold putK at h
  split at h
  · obtain ⟨p, hp, e⟩ := List.mem_map.mp h
    split at e
    · rename_i c
      cases e
      exact .inl ⟨c, rfl⟩
    · rename_i c
      cases e
      exact .inr ⟨hp, c⟩
  · rename_i ha
    rcases List.mem_append.mp h with h | h
    · refine .inr ⟨h, fun z => ha (List.any_eq_true.mpr ⟨_, h, decide_eq_true z⟩)⟩
    · cases List.mem_singleton.mp h
      exact .inl ⟨rfl, rfl⟩
theorem key_putK {kvs : List (Key × V)} {k j : Key} {v : V} (h : (∃ w, (j, w) ∈ kvs) ∨ j = k) : ∃ w, (j, w) ∈ putK kvs k v := by
  have key : ∃ w, valV (putK kvs k v) j = some w := by
    rw [valV_put]
    split
    · exact ⟨_, rfl⟩
    · rename_i c
      rcases h with ⟨w, h⟩ | h
      · exact valV_ex h
      · exact absurd h c
  obtain ⟨w, hw⟩ := key
  exact ⟨w, valV_mem hw⟩
theorem mem_mergeK : ∀ {more kvs : List (Key × V)} {k' : Key} {v' : V}, (k', v') ∈ mergeK kvs more → (k', v') ∈ more ∨ ((k', v') ∈ kvs ∧ ∀ v, (k', v) ∉ more)
  | [], kvs, k', v', h => .inr ⟨h, fun v z => by cases z⟩
  | p :: more, kvs, k', v', h => by
    obtain ⟨k, v⟩ := p
    have h : (k', v') ∈ mergeK (putK kvs k v) more := h
    rcases mem_mergeK h with h1 | ⟨h1, h2⟩
    · exact .inl (List.mem_cons_of_mem _ h1)
    · rcases mem_putK h1 with ⟨rfl, rfl⟩ | ⟨h3, h4⟩
      · exact .inl (List.mem_cons_self ..)
      · refine .inr ⟨h3, fun w z => ?_⟩
        rcases List.mem_cons.mp z with z | z
        · cases z; exact h4 rfl
        · exact h2 w z
theorem key_mergeK : ∀ {more kvs : List (Key × V)} {j : Key}, ((∃ w, (j, w) ∈ kvs) ∨ ∃ w, (j, w) ∈ more) → ∃ w, (j, w) ∈ mergeK kvs more
  | [], kvs, j, h => by
    rcases h with h | ⟨w, h⟩
    · exact h
    · cases h
  | p :: more, kvs, j, h => by
    obtain ⟨k, v⟩ := p
    refine key_mergeK (more := more) (kvs := putK kvs k v) ?_
    rcases h with h | ⟨w, h⟩
    · exact .inl (key_putK (.inl h))
    · rcases List.mem_cons.mp h with h | h
      · cases h; exact .inl (key_putK (.inr rfl))
      · exact .inr ⟨w, h⟩
/-- [value for j in range(lo, hi)] -/
theorem lc_vals2 {H : Hp} {n c : Nat} {lo : Int} {σ : L2.St} {f : Nat → V} {ta : TA} {te : TE} {Q : VK} (hn : n ≤ 60) (hlo : 0 ≤ lo) (hlo2 : lo ≤ 100) (hc : c < σ.length)
    (ha : ∀ Q1 : List V → Hp → Prop, Q1 [.int lo, .int (lo + n)] H → ta σ H Q1)
    (ht : ∀ j H1 (Q1 : VK), j < n → Same H H1 → Q1 (f j) H1 → te ((σ.set c none).set c (some (.int (lo + (j : Int))))) H1 Q1)
    (q : ∀ D H', Same H H' → H' D = some (.lst ((List.range n).map f)) → H D = none → Q (.ref D) H') :
    tLc (iRng2 ta) (gName c) tYes te [c] σ H Q := by
  refine ha _ ⟨lo, lo + (n : Int), rfl, ⟨by omega, by omega, by omega, by omega⟩, fun D hD => ?_⟩
  rw [show (lo + (n : Int) - lo).toNat = n by omega]
  refine lc_range (lo := lo) (n := n) (fun i H' => Same H H' ∧ H' D = some (.lst ((List.range i).map f))) ⟨upd_keep hD, upd_same⟩ ?_ ?_
  · rintro i H' hi ⟨sm, eD⟩
    refine ⟨?_, ?_⟩
    · show ((σ.set c none).set c (some (.int (lo + (i : Int))))).set c none = σ.set c none
      rw [List.set_set, List.set_set]
    refine ht i H' _ hi sm ?_
    refine ⟨(List.range i).map f, eD, by rw [List.length_map, List.length_range]; exact small1000 (by omega), same_updN hD sm, ?_⟩
    rw [upd_same, List.range_succ, List.map_append]
    rfl
  · rintro H' ⟨sm, eD⟩
    exact q D H' sm eD hD
def adr : V → Addr
  | .ref q => q
  | _ => 0
/-! ### zip of two lists -/
theorem pi_zipK {X : Cx} {K : PySem.W.Frag} {e e2 : Expr} {ta : TA} {p pos tpos : PySem.Pos} {elts : List Expr} {kk : Nat} (h : X.K = K) (hg : Gl X "zip") (hm : X.mg "zip" = none) (ha : PA X [e, e2] ta)
    (hs : starEach [e, e2] X.env = (false, eval e X.env) :: starEach [e2] X.env := by rfl) (hpl : (backTo pos (starEach [e2] X.env)).any (·.1) = false := by rfl) :
    PI X (.Tuple elts kk tpos) (.Call (.Name "zip" p) [e, e2] [] pos) (iZip K ta) := by subst h; exact pi_zip hg hm ha hs hpl
def ForZ (K : PySem.W.Frag) (a b : Addr) (g : TG) (tb : TS) (D : Ends) (σ : L2.St) (H : Hp) : Prop := ∃ W : Nat → Nat → L2.St → Hp → Prop, (∃ m, W 0 m σ H) ∧ ∀ i m σ H, W i m σ H →
  ((Itz K a b).stop i H ∧ D.nx σ H) ∨ ((Itz K a b).go i H ∧ ∃ N : L2.St → Hp → Prop, (∀ σ' H', N σ' H' → ∃ m', m' < m ∧ W (i + 1) m' σ' H') ∧ ∀ v H', (Itz K a b).yld i H v H' → g v σ H' fun σ2 H2 => tb { D with nx := N, ct := N, bk := D.nx } σ2 H2)
theorem for_zp {K : PySem.W.Frag} {ta : TA} {g : TG} {tb : TS} {D : Ends} {σ : L2.St} {H : Hp} (h : ta σ H fun vs H1 => ∃ a b, vs = [.ref a, .ref b] ∧ ∃ xs, SqL K H1 a xs ∧ ∃ ys, SqL K H1 b ys ∧ ForZ K a b g tb D σ H1) : tFor (iZip K (tWk ta)) g tb D σ H :=
  ⟨_, h, fun _ _ ⟨a, b, e, xs, h1, ys, h2, h3⟩ => ⟨a, b, xs, ys, e, h1, h2, h3⟩⟩
theorem forZ_by {K : PySem.W.Frag} {a b : Addr} {xs ys : List V} {g : TG} {tb : TS} {D : Ends} {σ : L2.St} {H : Hp} (h1 : SqL K H a xs) (h2 : SqL K H b ys) (hl : xs.length = ys.length) (Pv : Nat → L2.St → Hp → Prop) (h0 : Pv 0 σ H) (hq : ∀ i σ H, Pv i σ H → SqL K H a xs ∧ SqL K H b ys)
    (hs : ∀ (i : Nat) (x y : V) (T : Addr) (σ : L2.St) (H : Hp) (H2 : Hp), xs[i]? = some x → ys[i]? = some y → Pv i σ H → Same H H2 → H2 T = some (.tup [x, y]) → g (.ref T) σ H2 fun σ2 H2 => tb { D with nx := Pv (i + 1), ct := Pv (i + 1), bk := D.nx } σ2 H2) (hd : ∀ σ H, Pv xs.length σ H → D.nx σ H) : ∃ xs, SqL K H a xs ∧ ∃ ys, SqL K H b ys ∧ ForZ K a b g tb D σ H :=
  ⟨xs, h1, ys, h2, RZ.for_zipL hl Pv h0 hq (fun i x y T σ H hx hy p hT => hs i x y T σ H _ hx hy p (upd_keep hT) upd_same) hd⟩
/-! ### comprehensions over a zip of two lists -/
def LcZ (K : PySem.W.Frag) (a b : Addr) (g : TG) (tt : TT) (te : TE) (vs : List Nat) (σ : L2.St) (H1 : Hp) (Q : VK) : Prop := ∀ D, H1 D = none → ∃ W : Nat → Nat → Hp → Prop, (∃ m, W 0 m (upd H1 D (.lst []))) ∧ ∀ i m H, W i m H →
  ((Itz K a b).stop i H ∧ Q (.ref D) H) ∨ ((Itz K a b).go i H ∧ ∃ Nx : Hp → Prop, (∀ H', Nx H' → ∃ m', m' < m ∧ W (i + 1) m' H') ∧ ∀ x H', (Itz K a b).yld i H x H' → g x (wipe σ vs) H' fun σ2 H2 => wipe σ2 vs = wipe σ vs ∧ tt σ2 H2 fun b H3 =>
    if b = true then te σ2 H3 fun y H4 => ∃ acc, H4 D = some (.lst acc) ∧ acc.length < sizeLine ∧ Nx (upd H4 D (.lst (acc ++ [y]))) else Nx H3)
theorem lcz_src {K : PySem.W.Frag} {ta : TA} {g : TG} {tt : TT} {te : TE} {vs : List Nat} {σ : L2.St} {H : Hp} {Q : VK} (h : ta σ H fun us H1 => ∃ a b, us = [.ref a, .ref b] ∧ ∃ xs, SqL K H1 a xs ∧ ∃ ys, SqL K H1 b ys ∧ LcZ K a b g tt te vs σ H1 Q) : tLc (iZip K (tWk ta)) g tt te vs σ H Q :=
  ⟨_, h, fun _ _ ⟨a, b, e, xs, h1, ys, h2, h3⟩ => ⟨a, b, xs, ys, e, h1, h2, h3⟩⟩
theorem lcZ_vals {K : PySem.W.Frag} {a b : Addr} {xs ys : List V} {F : Nat → V} {g : TG} {te : TE} {vs : List Nat} {σ : L2.St} {H : Hp} {Q : VK} (hx : H a = some (.lst xs)) (hy : H b = some (.lst ys)) (hl : xs.length = ys.length) (hn : xs.length ≤ 900)
    (ht : ∀ (i : Nat) (x y : V) (T : Addr) (H2 : Hp) (Yes : VK), xs[i]? = some x → ys[i]? = some y → Same H H2 → H2 T = some (.tup [x, y]) → (∀ H3, Same H2 H3 → Yes (F i) H3) → g (.ref T) (wipe σ vs) H2 fun σ2 H3 => wipe σ2 vs = wipe σ vs ∧ te σ2 H3 Yes)
    (q : ∀ D H', Same H H' → H D = none → H' D = some (.lst ((List.range xs.length).map F)) → Q (.ref D) H') : LcZ K a b g tYes te vs σ H Q := fun D hD => by
  refine ⟨fun i m H' => m = xs.length - i ∧ i ≤ xs.length ∧ Same H H' ∧ H' D = some (.lst ((List.range i).map F)), ⟨xs.length, rfl, Nat.zero_le _, upd_keep hD, upd_same⟩, ?_⟩
  rintro i m H' ⟨rfl, hi, sm, eD⟩
  by_cases c : i < xs.length
  · have h1 := List.getElem?_eq_getElem c
    have h2 := List.getElem?_eq_getElem (l := ys) (i := i) (by omega)
    refine .inr ⟨⟨xs, ys, _, _, .of (sm _ _ hx), .of (sm _ _ hy), h1, h2⟩, fun H2 => i + 1 ≤ xs.length ∧ Same H H2 ∧ H2 D = some (.lst ((List.range (i + 1)).map F)), fun H2 ⟨p1, p2, p3⟩ => ⟨_, by omega, rfl, p1, p2, p3⟩, ?_⟩
    rintro v H2 ⟨T, x, y, rfl, fT, rfl, hx', hy'⟩
    have ex := hx' xs (.of (sm _ _ hx))
    have ey := hy' ys (.of (sm _ _ hy))
    have s2 : Same H' (upd H' T (.tup [x, y])) := upd_keep fT
    have := ht i x y T (upd H' T (.tup [x, y])) (fun v H5 => ∃ acc, H5 D = some (.lst acc) ∧ acc.length < sizeLine ∧ (i + 1 ≤ xs.length ∧ Same H (upd H5 D (.lst (acc ++ [v]))) ∧ upd H5 D (.lst (acc ++ [v])) D = some (.lst ((List.range (i + 1)).map F)))) ex ey (sm.trans s2) upd_same (fun H3 s3 => by
      refine ⟨_, s3 _ _ (s2 _ _ eD), by rw [List.length_map, List.length_range]; exact small1000 (by omega), by omega, same_updN hD (sm.trans (s2.trans s3)), ?_⟩
      rw [upd_same, List.range_succ, List.map_append]; rfl)
    simpa only [tYes, if_true] using this
  · have e : i = xs.length := by omega
    subst e
    exact .inl ⟨⟨xs, ys, .of (sm _ _ hx), .of (sm _ _ hy), .inl (Nat.le_refl _)⟩, q D H' sm hD eD⟩
/-! ### comprehensions over a list -/
/-- what stands behind the source of a comprehension -/
def LcL (K : PySem.W.Frag) (a : Addr) (c : Nat) (te : TE) (σ : L2.St) (H1 : Hp) (Q : VK) : Prop := ∀ D, H1 D = none → ∃ W : Nat → Nat → Hp → Prop, (∃ m, W 0 m (upd H1 D (.lst []))) ∧ ∀ i m H, W i m H →
  ((Itl K a).stop i H ∧ Q (.ref D) H) ∨ ((Itl K a).go i H ∧ ∃ Nx : Hp → Prop, (∀ H', Nx H' → ∃ m', m' < m ∧ W (i + 1) m' H') ∧ ∀ x H', (Itl K a).yld i H x H' → gName c x (wipe σ [c]) H' fun σ2 H2 => wipe σ2 [c] = wipe σ [c] ∧ tYes σ2 H2 fun b H3 =>
    if b = true then te σ2 H3 fun y H4 => ∃ acc, H4 D = some (.lst acc) ∧ acc.length < sizeLine ∧ Nx (upd H4 D (.lst (acc ++ [y]))) else Nx H3)
theorem lc_src {K : PySem.W.Frag} {ts te : TE} {c : Nat} {σ : L2.St} {H : Hp} {Q : VK} (h : ts σ H fun x H1 => ∃ a, x = .ref a ∧ (∃ xs, SqL K H1 a xs) ∧ LcL K a c te σ H1 Q) : tLc (iList K ts) (gName c) tYes te [c] σ H Q := h
/-- each value turned into a value -/
theorem lcL_vals {K : PySem.W.Frag} {a : Addr} {c : Nat} {te : TE} {σ : L2.St} {H : Hp} {Q : VK} {xs : List V} {f : Nat → V} (hx : H a = some (.lst xs)) (hn : xs.length ≤ 900) (hc : c < σ.length)
    (ht : ∀ i x H2 (Q1 : VK), xs[i]? = some x → Same H H2 → (∀ H3, Same H2 H3 → Q1 (f i) H3) → te ((σ.set c none).set c (some x)) H2 Q1)
    (q : ∀ D H', Same H H' → H D = none → H' D = some (.lst ((List.range xs.length).map f)) → Q (.ref D) H') : LcL K a c te σ H Q := fun D hD => by
  refine lc_list (K := K) (a := a) (xs := xs) (fun i H' => Same H H' ∧ H' D = some (.lst ((List.range i).map f))) ⟨upd_keep hD, upd_same⟩ (fun i H' _ ⟨s, _⟩ => .of (s _ _ hx)) ?_ ?_
  · rintro i x H' hi ⟨sm, eD⟩
    have hin := (List.getElem?_eq_some_iff.mp hi).1
    refine ⟨?_, ?_⟩
    · show ((σ.set c none).set c (some x)).set c none = σ.set c none
      rw [List.set_set, List.set_set]
    refine ht i x H' _ hi sm fun H3 s3 => ?_
    refine ⟨(List.range i).map f, s3 _ _ eD, by rw [List.length_map, List.length_range]; exact small1000 (by omega), same_updN hD (sm.trans s3), ?_⟩
    rw [upd_same, List.range_succ, List.map_append]
    rfl
  · rintro H' ⟨sm, eD⟩
    exact q D H' sm hD eD
/-- each value turned into a new object -/
theorem lcL_objs {K : PySem.W.Frag} {a : Addr} {c : Nat} {te : TE} {σ : L2.St} {H : Hp} {Q : VK} {xs : List V} {Pr : Nat → HO → Prop} (hx : H a = some (.lst xs)) (hn : xs.length ≤ 900) (hc : c < σ.length)
    (ht : ∀ i x H2 (Q1 : VK), xs[i]? = some x → Same H H2 → (∀ r o H3, Same H2 H3 → H2 r = none → H3 r = some o → Pr i o → Q1 (.ref r) H3) → te ((σ.set c none).set c (some x)) H2 Q1)
    (q : ∀ D (as : List Addr) H', Same H H' → H D = none → H' D = some (.lst (as.map V.ref)) → as.length = xs.length → as.Nodup → (∀ a ∈ as, H a = none) → (∀ (i : Nat) (a : Addr), as[i]? = some a → ∃ o, H' a = some o ∧ Pr i o) → Q (.ref D) H') : LcL K a c te σ H Q := fun D hD => by
  refine lc_list (K := K) (a := a) (xs := xs) (fun i H' => ∃ as' : List Addr, Same H H' ∧ H' D = some (.lst (as'.map V.ref)) ∧ as'.length = i ∧ as'.Nodup ∧ (∀ a ∈ as', H a = none ∧ a ≠ D) ∧ ∀ (j : Nat) (a : Addr), as'[j]? = some a → ∃ o, H' a = some o ∧ Pr j o)
    ⟨[], upd_keep hD, upd_same, rfl, List.nodup_nil, (fun a h => by cases h), (fun j a h => by cases h)⟩ (fun i H' _ ⟨_, s, _⟩ => .of (s _ _ hx)) ?_ ?_
  · rintro i x H' hi ⟨as', sm, eD, hl, nd, hf, hr⟩
    have hin := (List.getElem?_eq_some_iff.mp hi).1
    refine ⟨?_, ?_⟩
    · show ((σ.set c none).set c (some x)).set c none = σ.set c none
      rw [List.set_set, List.set_set]
    refine ht i x H' _ hi sm fun l o H2 s2 fl e2 po => ?_
    have nD : l ≠ D := fun e => by rw [e, eD] at fl; cases fl
    have nl : l ∉ as' := fun hm => by
      obtain ⟨j, hj, e⟩ := List.mem_iff_getElem.mp hm
      obtain ⟨o', h', _⟩ := hr j l (by rw [List.getElem?_eq_getElem hj, e])
      rw [fl] at h'; cases h'
    refine ⟨as'.map V.ref, s2 _ _ eD, by rw [List.length_map, hl]; exact small1000 (by omega), as' ++ [l], same_updN hD (sm.trans s2), ?_, by simp [hl], ?_, ?_, ?_⟩
    · rw [upd_same, List.map_append]; rfl
    · rw [List.nodup_append]
      refine ⟨nd, by simp, fun a ha b hb e => ?_⟩
      have : b = l := by simpa using hb
      exact nl (by rw [← this, ← e]; exact ha)
    · intro a ha
      rcases List.mem_append.mp ha with h | h
      · exact hf a h
      · have : a = l := by simpa using h
        subst this
        exact ⟨sm.free fl, nD⟩
    · intro j a hj
      by_cases c1 : j < as'.length
      · rw [List.getElem?_append_left c1] at hj
        rw [upd_ne (hf a (List.mem_of_getElem? hj)).2]
        obtain ⟨o', h', p'⟩ := hr j a hj
        exact ⟨o', s2 _ _ h', p'⟩
      · have hlt := (List.getElem?_eq_some_iff.mp hj).1
        rw [List.length_append, List.length_singleton] at hlt
        obtain rfl : j = as'.length := by omega
        rw [List.getElem?_append_right (Nat.le_refl _), Nat.sub_self] at hj
        have : l = a := by simpa using hj
        subst this
        rw [upd_ne nD, hl]
        exact ⟨o, e2, po⟩
  · rintro H' ⟨as', sm, eD, hl, nd, hf, hr⟩
    exact q D as' H' sm hD eD hl nd (fun a ha => (hf a ha).1) hr
/-- each value turned into a tuple -/
theorem lcL_tups {K : PySem.W.Frag} {a : Addr} {c : Nat} {te : TE} {σ : L2.St} {H : Hp} {Q : VK} {xs : List V} {Pr : Nat → List V → Prop} (hx : H a = some (.lst xs)) (hn : xs.length ≤ 900) (hc : c < σ.length)
    (ht : ∀ i x H2 (Q1 : VK), xs[i]? = some x → Same H H2 → (∀ r o H3, Same H2 H3 → H3 r = some (.tup o) → Pr i o → Q1 (.ref r) H3) → te ((σ.set c none).set c (some x)) H2 Q1)
    (q : ∀ D (as : List Addr) H', Same H H' → H D = none → H' D = some (.lst (as.map V.ref)) → as.length = xs.length → (∀ (i : Nat) (a : Addr), as[i]? = some a → ∃ o, H' a = some (.tup o) ∧ Pr i o) → Q (.ref D) H') : LcL K a c te σ H Q := fun D hD => by
  refine lc_list (K := K) (a := a) (xs := xs) (fun i H' => ∃ as' : List Addr, Same H H' ∧ H' D = some (.lst (as'.map V.ref)) ∧ as'.length = i ∧ ∀ (j : Nat) (a : Addr), as'[j]? = some a → ∃ o, H' a = some (.tup o) ∧ Pr j o)
    ⟨[], upd_keep hD, upd_same, rfl, (fun j a h => by cases h)⟩ (fun i H' _ ⟨_, s, _⟩ => .of (s _ _ hx)) ?_ ?_
  · rintro i x H' hi ⟨as', sm, eD, hl, hr⟩
    have hin := (List.getElem?_eq_some_iff.mp hi).1
    refine ⟨?_, ?_⟩
    · show ((σ.set c none).set c (some x)).set c none = σ.set c none
      rw [List.set_set, List.set_set]
    refine ht i x H' _ hi sm fun l o H2 s2 e2 po => ?_
    have eD2 := s2 _ _ eD
    refine ⟨as'.map V.ref, eD2, by rw [List.length_map, hl]; exact small1000 (by omega), as' ++ [l], same_updN hD (sm.trans s2), ?_, by simp [hl], ?_⟩
    · rw [upd_same, List.map_append]; rfl
    · intro j a hj
      by_cases c1 : j < as'.length
      · rw [List.getElem?_append_left c1] at hj
        obtain ⟨o', h', p'⟩ := hr j a hj
        refine ⟨o', ?_, p'⟩
        have h2 := s2 _ _ h'
        rw [upd_ne (ne_of h2 eD2 (by intro z; cases z))]; exact h2
      · have hlt := (List.getElem?_eq_some_iff.mp hj).1
        rw [List.length_append, List.length_singleton] at hlt
        obtain rfl : j = as'.length := by omega
        rw [List.getElem?_append_right (Nat.le_refl _), Nat.sub_self] at hj
        have : l = a := by simpa using hj
        subst this
        rw [upd_ne (ne_of e2 eD2 (by intro z; cases z)), hl]
        exact ⟨o, e2, po⟩
  · rintro H' ⟨as', sm, eD, hl, hr⟩
    exact q D as' H' sm hD eD hl hr
/-! ### looks -/
inductive Wd where
  | lt | le | gt | ge | eq
def Wd.s : Wd → Str
  | .lt => "<"
  | .le => "<="
  | .gt => ">"
  | .ge => ">="
  | .eq => "="
/-- a look: the place behind the first, the word, the number -/
abbrev Look := Nat × Wd × Int
/-- the looks ls stand at p -/
def LkAt (H : Hp) (p : Addr) (ls : List Look) : Prop := ∃ qs : List Addr, H p = some (.lst (qs.map V.ref)) ∧ qs.length = ls.length ∧ ∀ (i : Nat) (q : Addr) (l : Look), qs[i]? = some q → ls[i]? = some l → H q = some (.tup [.int ((l.1 + 1 : Nat) : Int), .str l.2.1.s, .int l.2.2])
theorem LkAt.keep {H H' : Hp} {p : Addr} {ls : List Look} (v : LkAt H p ls) (s : Same H H') : LkAt H' p ls := by
  obtain ⟨qs, a, b, c⟩ := v
  exact ⟨qs, s _ _ a, b, fun i q x h1 h2 => s _ _ (c i q x h1 h2)⟩
def ldata (ls : List Look) : PyData := .list (ls.map fun l => .tuple [.int ((l.1 + 1 : Nat) : Int), .str l.2.1.s, .int l.2.2])
theorem LkAt.dp {K : PySem.W.Frag} {H : Hp} {p : Addr} {ls : List Look} (v : LkAt H p ls) : Dp K H (.ref p) (ldata ls) := by
  obtain ⟨qs, a, b, c⟩ := v
  refine .lst (.of a) (dpall_of (by simp [b]) fun k v d h1 h2 => ?_)
  rw [List.getElem?_map] at h1 h2
  obtain ⟨q, hq, rfl⟩ := Option.map_eq_some_iff.mp h1
  obtain ⟨x, hx, rfl⟩ := Option.map_eq_some_iff.mp h2
  exact .tup (.of (c k q x hq hx)) (.cons (.int _) (.cons (.str _) (.cons (.int _) .nil)))
theorem lay_looks (ls : List Look) : (ldata ls).canLay0 = true ∧ (ldata ls).depth ≤ 2 := lay_list fun d h => by
  obtain ⟨⟨p, w, k⟩, _, rfl⟩ := List.mem_map.mp h
  have h : PyData.canLay0 (.str w.s) = true := by cases w <;> decide +kernel
  exact ⟨by show (true && (PyData.canLay0 (.str w.s) && (true && true))) = true; rw [h]; rfl, Nat.le_refl _⟩
/-- whether a value meets a look -/
def meetsL (l : Look) (x : Int × Int) : Bool := match l.2.1 with
  | .lt => decide (x.1 < l.2.2 * x.2)
  | .le => decide (x.1 ≤ l.2.2 * x.2)
  | .gt => decide (l.2.2 * x.2 < x.1)
  | .ge => decide (l.2.2 * x.2 ≤ x.1)
  | .eq => decide (x.1 = l.2.2 * x.2)
def lookStep (M : Mx) (l : Look) : Mx := match l.2.1 with
  | .lt => up2 M (l.1 + 1) 0 (narO (M (l.1 + 1) 0) (some (2 * l.2.2)))
  | .le => up2 M (l.1 + 1) 0 (narO (M (l.1 + 1) 0) (some (2 * l.2.2 + 1)))
  | .gt => up2 M 0 (l.1 + 1) (narO (M 0 (l.1 + 1)) (some (2 * (0 - l.2.2))))
  | .ge => up2 M 0 (l.1 + 1) (narO (M 0 (l.1 + 1)) (some (2 * (0 - l.2.2) + 1)))
  | .eq => up2 (up2 M (l.1 + 1) 0 (narO (M (l.1 + 1) 0) (some (2 * l.2.2 + 1)))) 0 (l.1 + 1) (narO (up2 M (l.1 + 1) 0 (narO (M (l.1 + 1) 0) (some (2 * l.2.2 + 1))) 0 (l.1 + 1)) (some (2 * (0 - l.2.2) + 1)))
def lookM (M : Mx) (ls : List Look) : Mx := ls.foldl lookStep M
theorem lookM_snoc (M : Mx) {ls : List Look} {i : Nat} {l : Look} (h : ls[i]? = some l) : lookM M (ls.take (i + 1)) = lookStep (lookM M (ls.take i)) l := by
  unfold lookM
  rw [List.take_add_one, h]
  simp [List.foldl_append]
/-! ### zones made wider beyond the greatest numbers asked -/
theorem cell1_mono {k i j : Nat} {M T : Mx} (h : LeM M T) : LeM (cell1 k i j M) (cell1 k i j T) := fun a b => by
  unfold cell1 up2
  split
  · exact le_narO (leO_trans (narO_le1 _ _) (h i j)) (leO_trans (narO_le2 _ _) (addO_mono (h i k) (h k j)))
  · exact h a b
theorem iter_mono {f : Nat → Mx → Mx} (hf : ∀ i M T, LeM M T → LeM (f i M) (f i T)) {M T : Mx} (h : LeM M T) : ∀ m, LeM (iter f m M) (iter f m T)
  | 0 => h
  | m + 1 => hf m _ _ (iter_mono hf h m)
theorem rowst_mono {n k i : Nat} {M T : Mx} (h : LeM M T) : LeM (rowst n k i M) (rowst n k i T) := by
  by_cases c : T i k = none
  · rw [show rowst n k i T = T by unfold rowst; rw [if_pos c]]
    exact (rowst_le n k i M).trans h
  · have c2 : M i k ≠ none := fun e => by
      have := h i k
      rw [e] at this
      cases hT : T i k with
      | none => exact c hT
      | some v => rw [hT] at this; exact this.elim
    unfold rowst
    rw [if_neg c, if_neg c2]
    exact iter_mono (f := cell1 k i) (fun _ _ _ h => cell1_mono h) h n
theorem diag1_mono {i : Nat} {M T : Mx} (h : LeM M T) : LeM (diag1 i M) (diag1 i T) := by
  have one : ∀ (x y : Nat) {M T : Mx}, LeM M T → LeM (up2 M x y (narO (M x y) (some 1))) (up2 T x y (narO (T x y) (some 1))) := fun x y M T h a b => by
    unfold up2
    split
    · exact le_narO (leO_trans (narO_le1 _ _) (h x y)) (narO_le2 _ _)
    · exact h a b
  exact one 0 i (one i i h)
theorem nrw_mono {n : Nat} {M T : Mx} (h : LeM M T) : LeM (nrw n M) (nrw n T) :=
  iter_mono (f := thr n) (fun k _ _ h => iter_mono (f := rowst n k) (fun _ _ _ h => rowst_mono h) h n) (iter_mono (f := diag1) (fun _ _ _ h => diag1_mono h) h n) n
/-! ### values as rational numbers -/
def rq (x : Int × Int) : Rat := (x.1 : Rat) / (x.2 : Rat)
/-- whether a number is let by a bound -/
def letsR : Option Int → Rat → Prop
  | none, _ => True
  | some b, q => q < ((b / 2 : Int) : Rat) ∨ (q = ((b / 2 : Int) : Rat) ∧ b % 2 = 1)
theorem castpos {u : Int} (h : 0 < u) : (0 : Rat) < (u : Rat) := Rat.intCast_pos.mpr h
theorem rq_lt {t u : Int} (m : Int) (h : 0 < u) : rq (t, u) < (m : Rat) ↔ t < m * u := by
  unfold rq
  rw [Rat.div_lt_iff (castpos h), ← Rat.intCast_mul, Rat.intCast_lt_intCast]
theorem rq_eq {t u : Int} (m : Int) (h : 0 < u) : rq (t, u) = (m : Rat) ↔ t = m * u := by
  unfold rq
  have h := castpos h
  rw [← Rat.intCast_inj (a := t), Rat.intCast_mul]
  show (t : Rat) / (u : Rat) = _ ↔ _
  generalize (t : Rat) = x at *
  generalize (u : Rat) = y at *
  constructor <;> intro k <;> grind
theorem lets_rat {b : Option Int} {t u : Int} (h : 0 < u) : letsO b t u = true ↔ letsR b (rq (t, u)) := by
  cases b with
  | none => exact ⟨fun _ => trivial, fun _ => rfl⟩
  | some b =>
    show decide _ = true ↔ _
    rw [decide_eq_true_iff]
    show _ ↔ (rq (t, u) < _ ∨ (rq (t, u) = _ ∧ _))
    rw [rq_lt _ h, rq_eq _ h]
theorem rq_dif {x y : Int × Int} (hx : 0 < x.2) (hy : 0 < y.2) : rq (dif x y) = rq x - rq y := by
  unfold rq dif
  have h1 := castpos hx
  have h2 := castpos hy
  simp only [Rat.intCast_sub, Rat.intCast_mul]
  generalize (x.1 : Rat) = a at *
  generalize (x.2 : Rat) = b at *
  generalize (y.1 : Rat) = c at *
  generalize (y.2 : Rat) = d at *
  grind
theorem rq_sum {x y : Int × Int} (hx : 0 < x.2) (hy : 0 < y.2) : rq (x.1 * y.2 + y.1 * x.2, x.2 * y.2) = rq x + rq y := by
  unfold rq
  have h1 := castpos hx
  have h2 := castpos hy
  simp only [Rat.intCast_add, Rat.intCast_mul]
  generalize (x.1 : Rat) = a at *
  generalize (x.2 : Rat) = b at *
  generalize (y.1 : Rat) = c at *
  generalize (y.2 : Rat) = d at *
  grind
theorem rq_half {a b : Int} (hb : 0 < b) : rq (a, 2 * b) = rq (a, b) / 2 := by
  unfold rq
  have h1 := castpos hb
  simp only [Rat.intCast_mul]
  rw [show ((2 : Int) : Rat) = 2 from rfl]
  generalize (a : Rat) = a at *
  generalize (b : Rat) = b at *
  grind
theorem rq_red {a b t u : Int} (hb : 0 < b) (h : Red a b t u) : rq (t, u) = rq (a, b) := by
  unfold rq
  have h1 := castpos hb
  have h2 := castpos h.pos
  have e : (t : Rat) * (b : Rat) = (a : Rat) * (u : Rat) := by rw [← Rat.intCast_mul, ← Rat.intCast_mul, h.eq]
  show (t : Rat) / (u : Rat) = (a : Rat) / (b : Rat)
  generalize (t : Rat) = t at *
  generalize (u : Rat) = u at *
  generalize (a : Rat) = a at *
  generalize (b : Rat) = b at *
  grind
theorem rq_cross {x y : Int × Int} (hx : 0 < x.2) (hy : 0 < y.2) : rq x < rq y ↔ x.1 * y.2 < y.1 * x.2 := by
  unfold rq
  have h1 := castpos hx
  have h2 := castpos hy
  rw [← Rat.intCast_lt_intCast, Rat.intCast_mul, Rat.intCast_mul, Rat.div_lt_iff h1, show (y.1 : Rat) / (y.2 : Rat) * (x.2 : Rat) = (y.1 : Rat) * (x.2 : Rat) / (y.2 : Rat) by grind, Rat.lt_div_iff h2]
theorem rq_nn {x : Int × Int} (hx : 0 < x.2) : 0 ≤ rq x ↔ 0 ≤ x.1 := by
  have h := rq_lt (t := x.1) (u := x.2) 0 hx
  rw [Int.zero_mul] at h
  have h : rq x < 0 ↔ x.1 < 0 := h
  constructor
  · intro k
    rcases Int.lt_or_le x.1 0 with c | c
    · have := h.mpr c; grind
    · exact c
  · intro k
    refine Classical.byContradiction fun c => ?_
    have := h.mp (by grind)
    omega
theorem letsR_mono {x y : Option Int} {q : Rat} (h : leO x y) (k : letsR x q) : letsR y q := by
  cases y with
  | none => trivial
  | some b =>
    cases x with
    | none => exact h.elim
    | some a =>
      have h : a ≤ b := h
      by_cases c : a / 2 = b / 2
      · rcases k with k | ⟨k, o⟩
        · exact .inl (c ▸ k)
        · exact .inr ⟨c ▸ k, by omega⟩
      · have l : ((a / 2 : Int) : Rat) < ((b / 2 : Int) : Rat) := Rat.intCast_lt_intCast.mpr (by omega)
        rcases k with k | ⟨k, o⟩
        · exact .inl (by grind)
        · exact .inl (by grind)
/-- a sum let by a sum of bounds -/
theorem letsR_add {a b : Int} {q : Rat} (k : letsR (addO (some a) (some b)) q) : q < ((a / 2 : Int) : Rat) + ((b / 2 : Int) : Rat) ∨ (q = ((a / 2 : Int) : Rat) + ((b / 2 : Int) : Rat) ∧ a % 2 = 1 ∧ b % 2 = 1) := by
  have k : letsR (some (2 * (a / 2 + b / 2) + (if a % 2 = 1 ∧ b % 2 = 1 then 1 else 0))) q := k
  rw [← Rat.intCast_add]
  by_cases c : a % 2 = 1 ∧ b % 2 = 1
  · rw [if_pos c] at k
    rcases k with k | ⟨k, _⟩
    · rw [show (2 * (a / 2 + b / 2) + 1) / 2 = a / 2 + b / 2 by omega] at k
      exact .inl k
    · rw [show (2 * (a / 2 + b / 2) + 1) / 2 = a / 2 + b / 2 by omega] at k
      exact .inr ⟨k, c⟩
  · rw [if_neg c] at k
    rcases k with k | ⟨_, o⟩
    · rw [show (2 * (a / 2 + b / 2) + 0) / 2 = a / 2 + b / 2 by omega] at k
      exact .inl k
    · omega
/-- values of some places, that keep all bounds between these -/
def Part (n : Nat) (N : Mx) (f : Nat → Option Rat) : Prop := ∀ i j x y, i < n → j < n → f i = some x → f j = some y → letsR (N i j) (x - y)
structure Nar (n : Nat) (N : Mx) : Prop where
  tri : Tri n n N
  one : ∀ i, i < n → N i i = some 1
  row : ∀ i, i < n → leO (N 0 i) (some 1)
/-- the lowest that place k may be -/
structure IsLow (n : Nat) (N : Mx) (f : Nat → Option Rat) (k : Nat) (low : Rat) : Prop where
  nn : 0 ≤ low
  all : ∀ j x b, j < n → f j = some x → N j k = some b → x - ((b / 2 : Int) : Rat) ≤ low
  one : low = 0 ∨ ∃ j x b, j < n ∧ f j = some x ∧ N j k = some b ∧ low = x - ((b / 2 : Int) : Rat)
def IsHigh (n : Nat) (N : Mx) (f : Nat → Option Rat) (k : Nat) : Option Rat → Prop
  | none => ∀ j x, j < n → f j = some x → N k j = none
  | some high => (∀ j x b, j < n → f j = some x → N k j = some b → high ≤ x + ((b / 2 : Int) : Rat)) ∧ ∃ j x b, j < n ∧ f j = some x ∧ N k j = some b ∧ high = x + ((b / 2 : Int) : Rat)
def midR (low : Rat) : Option Rat → Rat
  | none => low + 1
  | some high => (low + high) / 2
def setR (f : Nat → Option Rat) (k : Nat) (z : Rat) : Nat → Option Rat := fun j => if j = k then some z else f j
section
variable {n k : Nat} {N : Mx} {f : Nat → Option Rat}
theorem pair_lo_hi (R : Nar n N) (hk : k < n) (p : Part n N f) {j l : Nat} {x y : Rat} {b c : Int} (hj : j < n) (hl : l < n) (fx : f j = some x) (fy : f l = some y) (hb : N j k = some b) (hc : N k l = some c) :
    x - ((b / 2 : Int) : Rat) < y + ((c / 2 : Int) : Rat) ∨ (x - ((b / 2 : Int) : Rat) = y + ((c / 2 : Int) : Rat) ∧ b % 2 = 1 ∧ c % 2 = 1) := by
  have t := R.tri k hk j l hj hl
  rw [hb, hc] at t
  rcases letsR_add (letsR_mono t (p j l x y hj hl fx fy)) with h | ⟨h, o⟩
  · left; grind
  · right; exact ⟨by grind, o⟩
theorem low_att (R : Nar n N) (hk : k < n) (f0 : f 0 = some 0) {low : Rat} (L : IsLow n N f k low) : ∃ j x b, j < n ∧ f j = some x ∧ N j k = some b ∧ low = x - ((b / 2 : Int) : Rat) := by
  rcases L.one with h | h
  · have r := R.row k hk
    cases hN : N 0 k with
    | none => rw [hN] at r; exact r.elim
    | some b =>
      rw [hN] at r
      have r : b ≤ 1 := r
      have h1 := L.all 0 0 b (by omega) f0 hN
      have h2 : ((b / 2 : Int) : Rat) ≤ ((0 : Int) : Rat) := Rat.intCast_le_intCast.mpr (by omega)
      have h2 : ((b / 2 : Int) : Rat) ≤ 0 := h2
      exact ⟨0, 0, b, by omega, f0, hN, by grind⟩
  · exact h
theorem fill_step (R : Nar n N) (hk : k < n) (f0 : f 0 = some 0) (p : Part n N f) {low : Rat} {high : Option Rat} (L : IsLow n N f k low) (G : IsHigh n N f k high) :
    0 ≤ midR low high ∧ ∀ j x, j < n → f j = some x → letsR (N j k) (x - midR low high) ∧ letsR (N k j) (midR low high - x) := by
  have l0 := L.nn
  obtain ⟨j0, x0, b0, hj0, fx0, e0, el⟩ := low_att R hk f0 L
  cases high with
  | none =>
    refine ⟨by show 0 ≤ low + 1; grind, fun j x hj fx => ⟨?_, by rw [G j x hj fx]; trivial⟩⟩
    cases hN : N j k with
    | none => trivial
    | some b =>
      have := L.all j x b hj fx hN
      left
      show x - (low + 1) < _
      grind
  | some high =>
    obtain ⟨ga, j1, x1, b1, hj1, fx1, e1, eh⟩ := G
    have key := pair_lo_hi R hk p hj0 hj1 fx0 fx1 e0 e1
    rw [← el, ← eh] at key
    have le : low ≤ high := by rcases key with h | h <;> grind
    refine ⟨by show 0 ≤ (low + high) / 2; grind, fun j x hj fx => ⟨?_, ?_⟩⟩
    · cases hN : N j k with
      | none => trivial
      | some b =>
        have h1 := L.all j x b hj fx hN
        have h2 := pair_lo_hi R hk p hj hj1 fx fx1 hN e1
        rw [← eh] at h2
        show x - (low + high) / 2 < _ ∨ (x - (low + high) / 2 = _ ∧ _)
        rcases h2 with h2 | ⟨h2, o, _⟩
        · left; grind
        · right; exact ⟨by grind, o⟩
    · cases hN : N k j with
      | none => trivial
      | some b =>
        have h1 := ga j x b hj fx hN
        have h2 := pair_lo_hi R hk p hj0 hj fx0 fx e0 hN
        rw [← el] at h2
        show (low + high) / 2 - x < _ ∨ ((low + high) / 2 - x = _ ∧ _)
        rcases h2 with h2 | ⟨h2, _, o⟩
        · left; grind
        · right; exact ⟨by grind, o⟩
theorem part_set (R : Nar n N) (hk : k < n) (p : Part n N f) {z : Rat} (h : ∀ j x, j < n → f j = some x → letsR (N j k) (x - z) ∧ letsR (N k j) (z - x)) : Part n N (setR f k z) := by
  intro i j x y hi hj hx hy
  unfold setR at hx hy
  by_cases ci : i = k
  · rw [if_pos ci] at hx
    cases hx
    by_cases cj : j = k
    · rw [if_pos cj] at hy
      cases hy
      rw [ci, cj, R.one k hk]
      right
      exact ⟨by show z - z = ((0 : Int) : Rat); grind, rfl⟩
    · rw [if_neg cj] at hy
      rw [ci]
      exact (h j y hj hy).2
  · rw [if_neg ci] at hx
    by_cases cj : j = k
    · rw [if_pos cj] at hy
      cases hy
      rw [cj]
      exact (h i x hi hx).1
    · rw [if_neg cj] at hy
      exact p i j x y hi hj hx hy
end
theorem rq0 : rq (0, 1) = 0 := by
  unfold rq
  show ((0 : Int) : Rat) / ((1 : Int) : Rat) = 0
  rw [Rat.intCast_zero, Rat.intCast_one]
  grind
theorem rq1 : rq (1, 1) = 1 := by
  unfold rq
  show ((1 : Int) : Rat) / ((1 : Int) : Rat) = 1
  rw [Rat.intCast_one]
  grind
theorem rqn (n : Int) : rq (n, 1) = (n : Rat) := by
  unfold rq
  show (n : Rat) / ((1 : Int) : Rat) = n
  rw [Rat.intCast_one]
  grind
/-! ### narrow zones made narrower in one place, and scaled -/
theorem Nar.of_nrw {n : Nat} {M : Mx} (h : ∀ i, i < n → Pos (nrw n M) i) : Nar n (nrw n M) := ⟨nrw_tri h, fun i hi => nrw_diag hi (h i hi), fun i hi => nrw_row0 hi⟩
theorem Nar.idem {n : Nat} {N : Mx} (R : Nar n N) : nrw n N = N := nrw_idem R.one R.row R.tri
theorem ZAt.to {H : Hp} {p : Addr} {as : List Addr} {n : Nat} {M N : Mx} (z : ZAt H p as n M) (h : ∀ a b, a < n → b < n → M a b = N a b) : ZAt H p as n N :=
  ⟨z.top, z.len, fun i a e => by
    have hi := (List.getElem?_eq_some_iff.mp e).1
    rw [z.len] at hi
    rw [z.row i a e, zrow_congr fun b hb => h i b hi hb], z.nd⟩
/-- the bounds of the first n places alone -/
def cutM (n : Nat) (N : Mx) : Mx := fun i j => if i < n ∧ j < n then N i j else none
theorem cut_at {n i j : Nat} {N : Mx} (hi : i < n) (hj : j < n) : cutM n N i j = N i j := if_pos ⟨hi, hj⟩
theorem Nar.cut {n : Nat} {N : Mx} (R : Nar n N) : Nar n (cutM n N) :=
  ⟨fun k hk i j hi hj => by rw [cut_at hi hj, cut_at hi hk, cut_at hk hj]; exact R.tri k hk i j hi hj, fun i hi => by rw [cut_at hi hi]; exact R.one i hi, fun i hi => by rw [cut_at (by omega) hi]; exact R.row i hi⟩
theorem ZAt.cut {H : Hp} {p : Addr} {as : List Addr} {n : Nat} {N : Mx} (z : ZAt H p as n N) : ZAt H p as n (cutM n N) := z.to fun _ _ ha hb => (cut_at ha hb).symm
theorem lies_cut {n : Nat} {N : Mx} {v : Nat → Int × Int} : Lies n (cutM n N) v ↔ Lies n N v :=
  ⟨fun h i j hi hj => by have := h i j hi hj; rwa [cut_at hi hj] at this, fun h i j hi hj => by rw [cut_at hi hj]; exact h i j hi hj⟩
theorem cut_cut (n : Nat) (N : Mx) : cutM n (cutM n N) = cutM n N := by
  funext i j
  unfold cutM
  split <;> rfl
/-- the bounds grow by little -/
theorem nrw_sz2 {n s : Nat} {M : Mx} (h : ∀ i, i < n → Pos (nrw n M) i) (hs : 1 ≤ s) (sM : SzM s M) : SzM (s + 2 * n) (cutM n (nrw n M)) := by
  have key : ∀ K, K ≤ n → ∀ a b v, a < n → b < n → iter (thr n) K (iter diag1 n M) a b = some v → Sz (s + 2 * K) v := by
    intro K
    induction K with
    | zero => intro _ a b v _ _ e; exact diags_sz hs sM n a b v e
    | succ K ih =>
      intro hK a b v ha hb e
      have l : LeM (nrw n M) (iter (thr n) K (iter diag1 n M)) := by
        have := iter_le2 (thr_le n) (iter diag1 n M) (m := K) (n - K)
        rw [show K + (n - K) = n by omega] at this
        exact this
      have p : Pos (iter (thr n) K (iter diag1 n M)) K := leO_trans (h K (by omega)) (l K K)
      have ih := ih (by omega)
      have e : thr n K (iter (thr n) K (iter diag1 n M)) a b = some v := e
      rw [thr_eq p ha hb] at e
      refine narO_sz (s := s + 2 * (K + 1)) (fun w ew => (ih a b w ha hb ew).mono (by omega)) (fun w ew => ?_) e
      exact addO_sz (s := s + 2 * K) (fun x ex => ih a K x ha (by omega) ex) (fun x ex => ih K b x (by omega) hb ex) ew
  intro i j v e
  unfold cutM at e
  split at e
  · rename_i c
    exact key n (Nat.le_refl _) i j v c.1 c.2 e
  · cases e
/-- the closure of a narrow zone with a bound made narrower -/
def tightM (N : Mx) (j i : Nat) (c : Int) : Mx := fun a b => narO (N a b) (addO (addO (N a j) (some c)) (N i b))
theorem nar_le {x y z : Option Int} (h : leO x z ∨ leO y z) : leO (narO x y) z := by
  rcases h with h | h
  · exact leO_trans (narO_le1 x y) h
  · exact leO_trans (narO_le2 x y) h
theorem narO_cases (x y : Option Int) : narO x y = x ∨ narO x y = y := by
  cases x with
  | none => exact .inr rfl
  | some a =>
    cases y with
    | none => exact .inl rfl
    | some b =>
      show some (if b < a then b else a) = _ ∨ some (if b < a then b else a) = _
      split
      · exact .inr rfl
      · exact .inl rfl
section
variable {n i j : Nat} {N : Mx} {c : Int}
theorem tight_nar (R : Nar n N) (hi : i < n) (hj : j < n) (h : leO (some 1) (addO (N i j) (some c))) : Nar n (tightM N j i c) := by
  refine ⟨fun k hk a b ha hb => ?_, fun a ha => ?_, fun b hb => leO_trans (narO_le1 _ _) (R.row b hb)⟩
  · show leO (narO (N a b) (addO (addO (N a j) (some c)) (N i b))) (addO (narO (N a k) (addO (addO (N a j) (some c)) (N i k))) (narO (N k b) (addO (addO (N k j) (some c)) (N i b))))
    rcases narO_cases (N a k) (addO (addO (N a j) (some c)) (N i k)) with e1 | e1 <;> rcases narO_cases (N k b) (addO (addO (N k j) (some c)) (N i b)) with e2 | e2 <;> rw [e1, e2] <;> refine nar_le ?_
    · exact .inl (R.tri k hk a b ha hb)
    · right
      have h1 := addO_mono (addO_mono (R.tri k hk a j ha hj) (leO_refl (some c))) (leO_refl (N i b))
      simp only [addO_assoc] at h1 ⊢
      exact h1
    · right
      have h1 := addO_mono (leO_refl (addO (N a j) (some c))) (R.tri k hk i b hi hb)
      simp only [addO_assoc] at h1 ⊢
      exact h1
    · right
      have h1 := leO_trans h (addO_mono (R.tri k hk i j hi hj) (leO_refl (some c)))
      have h2 := addO_mono (leO_refl (addO (N a j) (some c))) (addO_mono h1 (leO_refl (N i b)))
      rw [one_addO] at h2
      simp only [addO_assoc] at h2 ⊢
      exact h2
  · show narO (N a a) _ = some 1
    rw [R.one a ha]
    refine narO_of_le ?_
    have h1 := leO_trans h (addO_mono (R.tri a ha i j hi hj) (leO_refl (some c)))
    rw [addO_comm (addO (N a j) (some c)), ← addO_assoc]
    exact h1
theorem tight_le (R : Nar n N) (hi : i < n) (hj : j < n) : LeM (tightM N j i c) (up2 N j i (narO (N j i) (some c))) := fun a b => by
  unfold up2
  split
  · rename_i e
    obtain ⟨rfl, rfl⟩ := e
    show leO (narO (N a b) (addO (addO (N a a) (some c)) (N b b))) _
    rw [R.one a hj, R.one b hi, one_addO, addO_one]
    exact leO_refl _
  · exact narO_le1 _ _
theorem tight_pos (R : Nar n N) (hi : i < n) (hj : j < n) (h : leO (some 1) (addO (N i j) (some c))) : ∀ k, k < n → Pos (nrw n (up2 N j i (narO (N j i) (some c)))) k := fun k hk => by
  have T := tight_nar R hi hj h
  have l := nrw_mono (n := n) (tight_le (c := c) R hi hj) k k
  rw [T.idem, T.one k hk] at l
  exact l
end
/-- a bound of so many times a number -/
def scB (t b : Int) : Int := 2 * (t * (b / 2)) + b % 2
def scO (t : Int) : Option Int → Option Int
  | none => none
  | some b => some (scB t b)
theorem scO_add (t : Int) : ∀ x y, addO (scO t x) (scO t y) = scO t (addO x y)
  | none, _ => rfl
  | some a, none => rfl
  | some a, some b => by
    show some _ = some _
    congr 1
    have d : ∀ x : Int, scB t x / 2 = t * (x / 2) := fun x => by unfold scB; omega
    have m : ∀ x : Int, scB t x % 2 = x % 2 := fun x => by unfold scB; omega
    rw [d, d, m, m]
    generalize hz : (if a % 2 = 1 ∧ b % 2 = 1 then (1 : Int) else 0) = z
    have hz2 : z = 0 ∨ z = 1 := by rw [← hz]; split <;> simp
    unfold scB
    rw [show (2 * (a / 2 + b / 2) + z) / 2 = a / 2 + b / 2 by omega, show (2 * (a / 2 + b / 2) + z) % 2 = z by omega, Int.mul_add t, Int.mul_add 2]
theorem scO_mono {t : Int} (ht : 1 ≤ t) : ∀ {x y}, leO x y → leO (scO t x) (scO t y)
  | x, none, _ => by cases x <;> trivial
  | none, some _, h => h.elim
  | some a, some b, h => by
    have h : a ≤ b := h
    show scB t a ≤ scB t b
    unfold scB
    by_cases c : a / 2 = b / 2
    · rw [c]; omega
    · have l : a / 2 + 1 ≤ b / 2 := by omega
      have m := Int.mul_le_mul_of_nonneg_left l (show 0 ≤ t by omega)
      rw [Int.mul_add, Int.mul_one] at m
      omega
theorem scO_one (t : Int) : scO t (some 1) = some 1 := by
  show some (scB t 1) = some 1
  unfold scB
  simp
def scM (t : Int) (N : Mx) : Mx := fun i j => scO t (N i j)
theorem sc_nar {n : Nat} {N : Mx} {t : Int} (ht : 1 ≤ t) (R : Nar n N) : Nar n (scM t N) :=
  ⟨fun k hk i j hi hj => by
    show leO (scO t (N i j)) (addO (scO t (N i k)) (scO t (N k j)))
    rw [scO_add]; exact scO_mono ht (R.tri k hk i j hi hj), fun i hi => by show scO t (N i i) = _; rw [R.one i hi, scO_one], fun i hi => by
    have := scO_mono ht (R.row i hi)
    rw [scO_one] at this; exact this⟩
theorem scR {t : Int} (ht : 1 ≤ t) {b : Option Int} {q : Rat} (h : letsR (scO t b) q) : letsR b (q / (t : Rat)) := by
  cases b with
  | none => trivial
  | some b =>
    have d : scB t b / 2 = t * (b / 2) := by unfold scB; omega
    have m : scB t b % 2 = b % 2 := by unfold scB; omega
    have h : q < ((scB t b / 2 : Int) : Rat) ∨ (q = ((scB t b / 2 : Int) : Rat) ∧ scB t b % 2 = 1) := h
    rw [d, m, Rat.intCast_mul] at h
    show q / (t : Rat) < ((b / 2 : Int) : Rat) ∨ (q / (t : Rat) = ((b / 2 : Int) : Rat) ∧ b % 2 = 1)
    have tp := castpos (u := t) (by omega)
    generalize ((b / 2 : Int) : Rat) = y at *
    generalize (t : Rat) = t at *
    rcases h with h | ⟨h, o⟩
    · left
      rw [Rat.div_lt_iff tp]
      grind
    · right
      exact ⟨by grind, o⟩
theorem sc_sz {s : Nat} {N : Mx} {t : Int} {w : Nat} (h : SzM s N) (ht : Sz w t) (hs : 2 ≤ s + w) : SzM (s + w + 2) (scM t N) := fun i j v e => by
  have e : scO t (N i j) = some v := e
  cases hN : N i j with
  | none => rw [hN] at e; cases e
  | some b =>
    rw [hN] at e
    cases Option.some.inj e
    have h1 : Sz s (b / 2) := Sz.le (j := b) (by omega) (h i j b hN)
    have h2 := ht.mul h1 (c := s + w) (by omega)
    have p : (2 : Nat) ^ (s + w + 2) = 2 ^ (s + w) * 4 := by rw [Nat.pow_add]
    have p0 : 0 < (2 : Nat) ^ (s + w) := Nat.pow_pos (by decide)
    unfold scB Sz at *
    rw [p]
    omega
theorem lets_nar {x y : Option Int} {t u : Int} (hu : 0 < u) : letsO (narO x y) t u = true ↔ letsO x t u = true ∧ letsO y t u = true := by
  constructor
  · intro h
    exact ⟨lets_mono hu (narO_le1 x y) h, lets_mono hu (narO_le2 x y) h⟩
  · rintro ⟨h, k⟩
    rcases narO_cases x y with e | e <;> rw [e] <;> assumption
theorem lies_up2 {n x y : Nat} {M : Mx} {v : Nat → Int × Int} {c : Int} (v0 : Vals0 n v) (hx : x < n) (hy : y < n) : Lies n (up2 M x y (narO (M x y) (some c))) v ↔ Lies n M v ∧ letsO (some c) (dif (v x) (v y)).1 (dif (v x) (v y)).2 = true := by
  have p := dif_pos (v0.pos x hx) (v0.pos y hy)
  constructor
  · intro h
    have h1 := h x y hx hy
    unfold up2 at h1
    rw [if_pos ⟨rfl, rfl⟩] at h1
    refine ⟨lies_of_le v0 (up2_le M x y _) h, ((lets_nar p).mp h1).2⟩
  · rintro ⟨h, k⟩ a b ha hb
    unfold up2
    split
    · rename_i e
      obtain ⟨rfl, rfl⟩ := e
      exact (lets_nar p).mpr ⟨h a b ha hb, k⟩
    · exact h a b ha hb
theorem look_lt {n : Int} {x : Int × Int} : letsO (some (2 * n)) (dif x (0, 1)).1 (dif x (0, 1)).2 = decide (x.1 < n * x.2) := by
  rw [Bool.eq_iff_iff, lets_iff, decide_eq_true_iff]
  simp only [dif, Int.mul_one, Int.zero_mul, Int.sub_zero]
  rw [show 2 * n / 2 = n by omega]
  omega
theorem look_le {n : Int} {x : Int × Int} : letsO (some (2 * n + 1)) (dif x (0, 1)).1 (dif x (0, 1)).2 = decide (x.1 ≤ n * x.2) := by
  rw [Bool.eq_iff_iff, lets_iff, decide_eq_true_iff]
  simp only [dif, Int.mul_one, Int.zero_mul, Int.sub_zero]
  rw [show (2 * n + 1) / 2 = n by omega]
  omega
theorem look_gt {n : Int} {x : Int × Int} : letsO (some (2 * (0 - n))) (dif (0, 1) x).1 (dif (0, 1) x).2 = decide (n * x.2 < x.1) := by
  rw [Bool.eq_iff_iff, lets_iff, decide_eq_true_iff]
  simp only [dif, Int.mul_one, Int.zero_mul, Int.one_mul]
  rw [show 2 * (0 - n) / 2 = 0 - n by omega, Int.sub_mul, Int.zero_mul]
  omega
theorem look_ge {n : Int} {x : Int × Int} : letsO (some (2 * (0 - n) + 1)) (dif (0, 1) x).1 (dif (0, 1) x).2 = decide (n * x.2 ≤ x.1) := by
  rw [Bool.eq_iff_iff, lets_iff, decide_eq_true_iff]
  simp only [dif, Int.mul_one, Int.zero_mul, Int.one_mul]
  rw [show (2 * (0 - n) + 1) / 2 = 0 - n by omega, Int.sub_mul, Int.zero_mul]
  omega
theorem lies_step {n : Nat} {M : Mx} {v : Nat → Int × Int} {l : Look} (v0 : Vals0 n v) (hl : l.1 + 1 < n) : Lies n (lookStep M l) v ↔ Lies n M v ∧ meetsL l (v (l.1 + 1)) = true := by
  obtain ⟨p, w, k⟩ := l
  have h0 : 0 < n := by omega
  cases w with
  | lt => exact (lies_up2 v0 hl h0).trans (by rw [v0.zero, look_lt]; exact Iff.rfl)
  | le => exact (lies_up2 v0 hl h0).trans (by rw [v0.zero, look_le]; exact Iff.rfl)
  | gt => exact (lies_up2 v0 h0 hl).trans (by rw [v0.zero, look_gt]; exact Iff.rfl)
  | ge => exact (lies_up2 v0 h0 hl).trans (by rw [v0.zero, look_ge]; exact Iff.rfl)
  | eq =>
    refine (lies_up2 v0 h0 hl).trans ?_
    rw [lies_up2 v0 hl h0, v0.zero, look_le, look_ge]
    show _ ↔ _ ∧ decide ((v (p + 1)).1 = k * (v (p + 1)).2) = true
    simp only [decide_eq_true_iff]
    constructor
    · rintro ⟨⟨a, b⟩, c⟩
      exact ⟨a, by omega⟩
    · rintro ⟨a, b⟩
      exact ⟨⟨a, by omega⟩, by omega⟩
theorem lies_look {n : Nat} {v : Nat → Int × Int} (v0 : Vals0 n v) : ∀ (ls : List Look) (M : Mx), (∀ l ∈ ls, l.1 + 1 < n) → (Lies n (lookM M ls) v ↔ Lies n M v ∧ ∀ l ∈ ls, meetsL l (v (l.1 + 1)) = true)
  | [], M, _ => by
    show Lies n M v ↔ _
    simp
  | l :: ls, M, h => by
    show Lies n (lookM (lookStep M l) ls) v ↔ _
    rw [lies_look v0 ls _ (fun x hx => h x (List.mem_cons_of_mem _ hx)), lies_step v0 (h l (List.mem_cons_self ..)), and_assoc]
    simp
theorem up2_sz1 {s : Nat} {M : Mx} {x y : Nat} {c : Int} (h : SzM s M) (hc : Sz s c) : SzM s (up2 M x y (narO (M x y) (some c))) := up2_sz h fun v e => narO_sz (fun v e => h x y v e) (fun v e => by cases e; exact hc) e
theorem step_sz {s z : Nat} {M : Mx} {l : Look} (h : SzM s M) (hl : Sz z l.2.2) (hs : z + 10 ≤ s) : SzM s (lookStep M l) := by
  obtain ⟨p, w, k⟩ := l
  have hk : Sz z k := hl
  have pw : 2 ^ (z + 2) = 2 ^ z * 2 * 2 := by rw [Nat.pow_succ, Nat.pow_succ]
  have p0 : 1 ≤ 2 ^ z := Nat.one_le_two_pow
  have big : ∀ c : Int, c.natAbs < 2 ^ z * 2 * 2 → Sz s c := fun c h => Sz.mono (a := z + 2) (by unfold Sz; rw [pw]; exact h) (by omega)
  unfold Sz at hk
  generalize 2 ^ z = P at *
  have a : Sz s (2 * k) := big _ (by omega)
  have b : Sz s (2 * k + 1) := big _ (by omega)
  have c : Sz s (2 * (0 - k)) := big _ (by omega)
  have d : Sz s (2 * (0 - k) + 1) := big _ (by omega)
  cases w with
  | lt => exact up2_sz1 h a
  | le => exact up2_sz1 h b
  | gt => exact up2_sz1 h c
  | ge => exact up2_sz1 h d
  | eq => exact up2_sz1 (up2_sz1 h b) d
theorem look_sz {s z : Nat} : ∀ (ls : List Look) (M : Mx), SzM s M → z + 10 ≤ s → (∀ l ∈ ls, Sz z l.2.2) → SzM s (lookM M ls)
  | [], M, h, _, _ => h
  | l :: ls, M, h, hs, hl => look_sz ls (lookStep M l) (step_sz h (hl l (List.mem_cons_self ..)) hs) hs (fun x hx => hl x (List.mem_cons_of_mem _ hx))
/-! ### waiting, putting back, freeing -/
theorem leO_none (x : Option Int) : leO x none := by cases x <;> trivial
def waitM (N : Mx) : Mx := fun a b => if 1 ≤ a ∧ b = 0 then none else N a b
def sg (p : Nat) (a : Nat) : Nat := if a = p then 0 else a
def putM (p : Nat) (N : Mx) : Mx := fun a b => N (sg p a) (sg p b)
def freeM (p : Nat) (N : Mx) : Mx := fun a b => if a = p ∧ b ≠ p then none else N a b
theorem sg_lt {p a n : Nat} (h : a < n) : sg p a < n := by unfold sg; split <;> omega
section
variable {n p : Nat} {N : Mx}
theorem wait_nar (R : Nar n N) : Nar n (waitM N) := by
  refine ⟨fun k hk a b ha hb => ?_, fun a ha => ?_, fun b hb => ?_⟩
  · have le : ∀ x y, leO (N x y) (waitM N x y) := fun x y => by unfold waitM; split; exact leO_none _; exact leO_refl _
    by_cases c : 1 ≤ a ∧ b = 0
    · have : waitM N a k = none ∨ waitM N k b = none := by
        by_cases d : k = 0
        · left; unfold waitM; rw [if_pos (by omega)]
        · right; unfold waitM; rw [if_pos (by omega)]
      rcases this with h | h <;> rw [h]
      · rw [none_addO]; exact leO_none _
      · rw [addO_none]; exact leO_none _
    · rw [show waitM N a b = N a b by unfold waitM; rw [if_neg c]]
      exact leO_trans (R.tri k hk a b ha hb) (addO_mono (le a k) (le k b))
  · unfold waitM; rw [if_neg (by omega)]; exact R.one a ha
  · unfold waitM; rw [if_neg (by omega)]; exact R.row b hb
theorem put_nar (R : Nar n N) (hn : 0 < n) : Nar n (putM p N) :=
  ⟨fun k hk a b ha hb => R.tri _ (sg_lt hk) _ _ (sg_lt ha) (sg_lt hb), fun a ha => R.one _ (sg_lt ha), fun b hb => by
    show leO (N (sg p 0) (sg p b)) _
    rw [show sg p 0 = 0 by unfold sg; split <;> omega]
    exact R.row _ (sg_lt hb)⟩
theorem free_nar (R : Nar n N) (hp : p ≠ 0) : Nar n (freeM p N) := by
  refine ⟨fun k hk a b ha hb => ?_, fun a ha => ?_, fun b hb => ?_⟩
  · have le : ∀ x y, leO (N x y) (freeM p N x y) := fun x y => by unfold freeM; split; exact leO_none _; exact leO_refl _
    by_cases c : a = p ∧ b ≠ p
    · have : freeM p N a k = none ∨ freeM p N k b = none := by
        by_cases d : k = p
        · right; unfold freeM; rw [if_pos (by omega)]
        · left; unfold freeM; rw [if_pos (by omega)]
      rcases this with h | h <;> rw [h]
      · rw [none_addO]; exact leO_none _
      · rw [addO_none]; exact leO_none _
    · rw [show freeM p N a b = N a b by unfold freeM; rw [if_neg c]]
      exact leO_trans (R.tri k hk a b ha hb) (addO_mono (le a k) (le k b))
  · unfold freeM; rw [if_neg (by omega)]; exact R.one a ha
  · unfold freeM; rw [if_neg (by omega)]; exact R.row b hb
end
theorem letsR_down {b : Option Int} {x y : Rat} (h : letsR b x) (l : y ≤ x) : letsR b y := by
  cases b with
  | none => trivial
  | some b =>
    by_cases c : y = x
    · rw [c]; exact h
    · left
      have : y < x := by grind
      rcases h with h | ⟨h, _⟩ <;> grind
/-- values as rational numbers that lie in a zone -/
def LiesR (n : Nat) (M : Mx) (v : Nat → Rat) : Prop := ∀ i j, i < n → j < n → letsR (M i j) (v i - v j)
theorem wait_lies {n : Nat} {N : Mx} {v u : Nat → Rat} {t : Rat} (h : LiesR n N v) (ht : 0 ≤ t) (v0 : v 0 = 0) (u0 : u 0 = 0) (hu : ∀ i, i < n → i ≠ 0 → u i = v i + t) : LiesR n (waitM N) u := fun i j hi hj => by
  unfold waitM
  split
  · trivial
  · rename_i c
    have hij := h i j hi hj
    by_cases ci : i = 0
    · by_cases cj : j = 0
      · subst ci; subst cj
        rw [u0]; rw [v0] at hij; exact hij
      · refine letsR_down hij ?_
        rw [ci, u0, v0, hu j hj cj]; grind
    · have cj : j ≠ 0 := by omega
      refine letsR_down hij ?_
      rw [hu i hi ci, hu j hj cj]; grind
theorem put_lies {n p : Nat} {N : Mx} {v u : Nat → Rat} (h : LiesR n N v) (hu : ∀ i, i < n → u i = v (sg p i)) : LiesR n (putM p N) u := fun i j hi hj => by
  rw [hu i hi, hu j hj]
  exact h _ _ (sg_lt hi) (sg_lt hj)
theorem free_lies {n p : Nat} {N : Mx} {v u : Nat → Rat} {t : Rat} (h : LiesR n N v) (ht : 0 ≤ t) (hp : u p = v p + t) (hu : ∀ i, i < n → i ≠ p → u i = v i) : LiesR n (freeM p N) u := fun i j hi hj => by
  unfold freeM
  split
  · trivial
  · rename_i c
    have hij := h i j hi hj
    refine letsR_down hij ?_
    by_cases ci : i = p
    · have cj : j = p := by omega
      rw [ci, cj]; grind
    · by_cases cj : j = p
      · rw [cj, hu i hi ci, hp]; grind
      · rw [hu i hi ci, hu j hj cj]; grind
/-- a low and a high with their sharpness meet -/
def meetR (x : Rat) (s : Bool) (y : Rat) (o : Bool) : Prop := x < y ∨ (x = y ∧ s = false ∧ o = false)
theorem meet_pair {a b : Int} {x y : Rat} (h : x - ((a / 2 : Int) : Rat) < y + ((b / 2 : Int) : Rat) ∨ (x - ((a / 2 : Int) : Rat) = y + ((b / 2 : Int) : Rat) ∧ a % 2 = 1 ∧ b % 2 = 1)) :
    meetR (x - ((a / 2 : Int) : Rat)) (decide (a % 2 = 0)) (y + ((b / 2 : Int) : Rat)) (decide (b % 2 = 0)) := by
  rcases h with h | ⟨h, p, q⟩
  · exact .inl h
  · exact .inr ⟨h, decide_eq_false (by omega), decide_eq_false (by omega)⟩
theorem wait_sz {s : Nat} {N : Mx} (h : SzM s N) : SzM s (waitM N) := fun i j v e => by
  unfold waitM at e
  split at e
  · cases e
  · exact h i j v e
theorem put_sz {s p : Nat} {N : Mx} (h : SzM s N) : SzM s (putM p N) := fun i j v e => h _ _ v e
theorem free_sz {s p : Nat} {N : Mx} (h : SzM s N) : SzM s (freeM p N) := fun i j v e => by
  unfold freeM at e
  split at e
  · cases e
  · exact h i j v e
theorem sg_sg {p o a : Nat} : sg p (sg o (sg p a)) = sg p (sg o a) := by
  unfold sg
  by_cases c : a = p
  · rw [if_pos c]
    by_cases d : p = o
    · subst d; simp [c]
    · have : ¬ a = o := fun z => d (by rw [← c, z])
      rw [if_neg this, if_pos c]
      by_cases e : (0 : Nat) = o
      · rw [if_pos e]; split <;> rfl
      · rw [if_neg e]; split <;> rfl
  · rw [if_neg c]
def MsOk (ms : List (Option Int)) : Prop := ∀ q, some q ∈ ms → 0 ≤ q ∧ Sz 250 q
def mostAt (ms : List (Option Int)) : Nat → Option Int := fun k => (some 0 :: ms).getD k none
theorem most_get {ms : List (Option Int)} {k : Nat} (h : k < ms.length + 1) : ((some 0 :: ms).map oV)[k]? = some (oV (mostAt ms k)) := by
  have h2 : k < (some 0 :: ms).length := h
  rw [List.getElem?_map, List.getElem?_eq_getElem h2]
  unfold mostAt
  rw [List.getD_eq_getElem?_getD, List.getElem?_eq_getElem h2]
  rfl
theorem most_ok {ms : List (Option Int)} (h : MsOk ms) (k : Nat) : ∀ q, mostAt ms k = some q → 0 ≤ q ∧ Sz 250 q := fun q e => by
  unfold mostAt at e
  rw [List.getD_eq_getElem?_getD] at e
  cases hk : (some 0 :: ms)[k]? with
  | none => rw [hk] at e; cases e
  | some x =>
    rw [hk] at e
    have e : x = some q := e
    subst e
    rcases List.mem_cons.mp (List.mem_of_getElem? hk) with h1 | h1
    · cases h1; exact ⟨by decide, by unfold Sz; decide⟩
    · exact h q h1
/-! ### zones made wider beyond the greatest numbers asked -/
/-- a bound turned by the second place's most -/
def turn2 (x : Int) : Option Int → Option Int
  | none => some x
  | some q => if x / 2 < 0 - q then some (0 - 2 * q) else some x
/-- a bound turned by the two places' mosts -/
def turnO : Option Int → Option Int → Option Int → Option Int
  | none, _, _ => none
  | some x, mine, other => match mine with
    | some p => if p < x / 2 then none else turn2 x other
    | none => turn2 x other
theorem le_turn2 (x : Int) (o : Option Int) : leO (some x) (turn2 x o) := by
  cases o with
  | none => exact leO_refl _
  | some q =>
    show leO (some x) (if x / 2 < 0 - q then some (0 - 2 * q) else some x)
    by_cases c : x / 2 < 0 - q
    · rw [if_pos c]
      show x ≤ 0 - 2 * q
      omega
    · rw [if_neg c]
      exact leO_refl _
theorem le_turn : ∀ b m o, leO b (turnO b m o)
  | none, _, _ => leO_none _
  | some x, none, o => le_turn2 x o
  | some x, some p, o => by
    show leO (some x) (if p < x / 2 then none else turn2 x o)
    split
    · exact leO_none _
    · exact le_turn2 x o
def turnM (N : Mx) (g : Nat → Option Int) : Mx := fun i j => if i = j then N i j else turnO (N i j) (g i) (g j)
theorem turnM_le (N : Mx) (g : Nat → Option Int) : LeM N (turnM N g) := fun i j => by
  unfold turnM
  split
  · exact leO_refl _
  · exact le_turn _ _ _
/-- where values lie and no most is asked of any watch, nothing is turned -/
theorem turnM_id {n : Nat} {N : Mx} {v : Nat → Int × Int} (h0 : Vals0 n v) (h : Lies n N v) (r0 : ∀ i, i < n → leO (N 0 i) (some 1)) {i j : Nat} (hi : i < n) (hj : j < n) : turnM N (fun k => if k = 0 then some 0 else none) i j = N i j := by
  unfold turnM
  by_cases c : i = j
  · rw [if_pos c]
  · rw [if_neg c]
    cases hN : N i j with
    | none => rfl
    | some x =>
      show turnO (some x) (if i = 0 then some 0 else none) (if j = 0 then some 0 else none) = some x
      by_cases ci : i = 0
      · subst ci
        have hj0 : ¬ j = 0 := fun e => c e.symm
        have h1 := r0 j hj
        rw [hN] at h1
        have h1 : x ≤ 1 := h1
        rw [if_pos rfl, if_neg hj0]
        show (if 0 < x / 2 then none else turn2 x none) = some x
        rw [if_neg (by omega)]
        rfl
      · rw [if_neg ci]
        by_cases cj : j = 0
        · subst cj
          rw [if_pos rfl]
          show (if x / 2 < 0 - 0 then some (0 - 2 * 0) else some x) = some x
          have h1 := h i 0 hi hj
          rw [hN, lets_iff] at h1
          simp only [dif, h0.zero] at h1
          have p1 := h0.nn i hi
          have p2 := h0.pos i hi
          refine if_neg fun z => ?_
          have := Int.mul_neg_of_neg_of_pos (a := x / 2) (b := (v i).2 * 1) (by omega) (by omega)
          rcases h1 with h1 | h1 <;> omega
        · rw [if_neg cj]
          rfl
/-- [value for j in range(n)]: a row of bounds -/
theorem lc_rowV {H : Hp} {n c : Nat} {σ : L2.St} {f : Nat → Option Int} {ta : TA} {te : TE} {Q : VK} (hn : n ≤ 60) (hc : c < σ.length)
    (ha : ∀ Q1 : List V → Hp → Prop, Q1 [.int n] H → ta σ H Q1)
    (ht : ∀ j H1 (Q1 : VK), j < n → Same H H1 → Q1 (oV (f j)) H1 → te ((σ.set c none).set c (some (.int (0 + (j : Int))))) H1 Q1)
    (q : ∀ D H', Same H H' → H' D = some (.lst (zrow n f)) → H D = none → Q (.ref D) H') :
    tLc (iRng1 ta) (gName c) tYes te [c] σ H Q := by
  refine ha _ ⟨(n : Int), rfl, by omega, by omega, fun D hD => ?_⟩
  refine lc_range (lo := 0) (n := n) (fun i H' => Same H H' ∧ H' D = some (.lst (zrow i f))) ⟨upd_keep hD, upd_same⟩ ?_ ?_
  · rintro i H' hi ⟨sm, eD⟩
    refine ⟨?_, ?_⟩
    · show ((σ.set c none).set c (some (.int (0 + (i : Int))))).set c none = σ.set c none
      rw [List.set_set, List.set_set]
    refine ht i H' _ hi sm ?_
    refine ⟨zrow i f, eD, by rw [zrow_len]; exact small1000 (by omega), same_updN hD sm, ?_⟩
    rw [upd_same, zrow_snoc]
    exact congrArg (fun x => some (HO.lst x)) (zrow_congr fun j _ => by split <;> simp_all)
  · rintro H' ⟨sm, eD⟩
    exact q D H' sm eD hD
/-! ### looks, guards, rooms, doors, machines on the heap -/
theorem tFor_str {te : TE} {g : TG} {tb : TS} {D : Ends} {σ : L2.St} {H : Hp} (h : te σ H fun x H1 => ∃ z : Str, x = .str z ∧ ∃ Pv : Nat → L2.St → Hp → Prop, Pv 0 σ H1 ∧
    (∀ i σ H c, z.cps.toList[i]? = some c → Pv i σ H → g (.str ⟨#[c]⟩) σ H fun σ2 H2 => tb { D with nx := Pv (i + 1), ct := Pv (i + 1), bk := D.nx } σ2 H2) ∧ ∀ σ H, Pv z.cps.toList.length σ H → D.nx σ H) (mono : ∀ (Q R : VK), (∀ v H, Q v H → R v H) → te σ H Q → te σ H R) : tFor (iStr te) g tb D σ H := by
  refine mono _ _ (fun v H1 ⟨z, hz, Pv, h0, hs, hd⟩ => ⟨z, hz, fun i m σ H => m = z.cps.toList.length - i ∧ i ≤ z.cps.toList.length ∧ Pv i σ H, ⟨_, rfl, Nat.zero_le _, h0⟩, ?_⟩) h
  rintro i m σ H ⟨rfl, hi, p⟩
  rw [Array.length_toList] at hi
  by_cases c : i < z.cps.size
  · refine .inr ⟨c, Pv (i + 1), fun σ' H' p' => ⟨z.cps.toList.length - (i + 1), by rw [Array.length_toList]; omega, rfl, by rw [Array.length_toList]; omega, p'⟩, ?_⟩
    rintro x H' ⟨rfl, c, hc, rfl⟩
    exact hs i σ H' c (by rw [Array.getElem?_toList]; exact hc) p
  · have e : i = z.cps.toList.length := by rw [Array.length_toList]; omega
    exact .inl ⟨by show z.cps.size ≤ i; omega, hd σ H (e ▸ p)⟩
/-- a text's look by its signs: one to most of some signs -/
def okT (x signs : Str) (most : Int) : Bool := decide (1 ≤ (x.length : Int)) && decide ((x.length : Int) ≤ most) && x.cps.toList.all fun c => decide (c ∈ signs.cps.toList)
abbrev letters : Str := "abcdefghijklmnopqrstuvwxyz"
def okName (x : Str) : Bool := okT x letters 8
def okWatch (x : Str) : Bool := decide (x = "/") || okName x
def okSign (x : Str) : Bool := decide (x = "") || (match x.cps.toList.getLast? with | some c => decide (c ∈ ("!?" : Str).cps.toList) && okName (cutS x none (some (-1))) | none => false)
/-- a look as it is told: a watch, a word, some value -/
abbrev Lq := Str × Str × V
/-- flat values with their kind -/
def kindV : V → Option String
  | .non => some "NoneType"
  | .bl _ => some "bool"
  | .int _ => some "int"
  | .str _ => some "str"
  | _ => none
def numOk : V → Bool
  | .int n => decide (0 ≤ n)
  | _ => false
def lookOk (ws watches : List Str) (l : Lq) : Bool := decide (l.1 ∈ watches) && decide (l.2.1 ∈ ws) && numOk l.2.2
def lookD : V → PyData
  | .bl b => .bool b
  | .int i => .int i
  | .str x => .str x
  | _ => .none
def LqAt (H : Hp) (q : Addr) (l : Lq) : Prop := H q = some (.tup [.str l.1, .str l.2.1, l.2.2]) ∧ (kindV l.2.2).isSome = true
/-- a list of things at new or old addresses -/
def SeqOf {α : Type} (R : Hp → Addr → α → Prop) (H : Hp) (p : Addr) (xs : List α) : Prop := ∃ qs : List Addr, H p = some (.lst (qs.map V.ref)) ∧ qs.length = xs.length ∧ ∀ (i : Nat) (q : Addr) (x : α), qs[i]? = some q → xs[i]? = some x → R H q x
theorem SeqOf.keep {α : Type} {R : Hp → Addr → α → Prop} {H H' : Hp} {p : Addr} {xs : List α} (k : ∀ q x, R H q x → R H' q x) (s : Same H H') (h : SeqOf R H p xs) : SeqOf R H' p xs := by
  obtain ⟨qs, a, b, c⟩ := h
  exact ⟨qs, s _ _ a, b, fun i q x h1 h2 => k q x (c i q x h1 h2)⟩
theorem LqAt.keep {H H' : Hp} {q : Addr} {l : Lq} (s : Same H H') (h : LqAt H q l) : LqAt H' q l := ⟨s _ _ h.1, h.2⟩
abbrev LsAt (H : Hp) (p : Addr) (ls : List Lq) : Prop := SeqOf LqAt H p ls
theorem LsAt.keep {H H' : Hp} {p : Addr} {ls : List Lq} (h : LsAt H p ls) (s : Same H H') : LsAt H' p ls := SeqOf.keep (fun _ _ => LqAt.keep s) s h
/-- a room with its stay; a mark -/
abbrev Rq := Str × List Lq
def RqAt (H : Hp) (q : Addr) (r : Rq) : Prop := ∃ g, H q = some (.tup [.str r.1, .ref g]) ∧ LsAt H g r.2
theorem RqAt.keep {H H' : Hp} {q : Addr} {r : Rq} (s : Same H H') (h : RqAt H q r) : RqAt H' q r := by
  obtain ⟨g, a, b⟩ := h
  exact ⟨g, s _ _ a, b.keep s⟩
abbrev RsAt (H : Hp) (p : Addr) (rs : List Rq) : Prop := SeqOf RqAt H p rs
theorem RsAt.keep {H H' : Hp} {p : Addr} {rs : List Rq} (h : RsAt H p rs) (s : Same H H') : RsAt H' p rs := SeqOf.keep (fun _ _ => RqAt.keep s) s h
structure DoorD where
  st : Str
  en : Str
  sg : Str
  looks : List Lq
  backs : List Str
def doorF (st en sg : Str) (g n : Addr) : List (Str × V) := putF "backs" (.ref n) (putF "looks" (.ref g) (putF "sign" (.str sg) (putF "end" (.str en) (putF "start" (.str st) []))))
def DoorAt (C : Addr) (H : Hp) (p : Addr) (d : DoorD) : Prop := ∃ dx g n, H p = some (.ins C dx (doorF d.st d.en d.sg g n)) ∧ LsAt H g d.looks ∧ H n = some (.lst (d.backs.map V.str))
theorem DoorAt.keep {C : Addr} {H H' : Hp} {p : Addr} {d : DoorD} (s : Same H H') (h : DoorAt C H p d) : DoorAt C H' p d := by
  obtain ⟨dx, g, n, a, b, c⟩ := h
  exact ⟨dx, g, n, s _ _ a, b.keep s, s _ _ c⟩
abbrev DsAt (C : Addr) (H : Hp) (p : Addr) (ds : List DoorD) : Prop := SeqOf (DoorAt C) H p ds
theorem DsAt.keep {C : Addr} {H H' : Hp} {p : Addr} {ds : List DoorD} (h : DsAt C H p ds) (s : Same H H') : DsAt C H' p ds := SeqOf.keep (fun _ _ => DoorAt.keep s) s h
local macro_rules | `(tactic| walk_at "lk") => `(tactic| repeat (first | rw [lookup_putF, if_pos rfl] | rw [lookup_putF, if_neg (by decide +kernel)]))
section
variable {st en sg : Str} {g n : Addr}
theorem door_start : (doorF st en sg g n).lookup ("start" : Str) = some (V.str st) := by unfold doorF; walk_at "lk"
theorem door_end : (doorF st en sg g n).lookup ("end" : Str) = some (V.str en) := by unfold doorF; walk_at "lk"
theorem door_sign : (doorF st en sg g n).lookup ("sign" : Str) = some (V.str sg) := by unfold doorF; walk_at "lk"
theorem door_looks : (doorF st en sg g n).lookup ("looks" : Str) = some (V.ref g) := by unfold doorF; walk_at "lk"
theorem door_backs : (doorF st en sg g n).lookup ("backs" : Str) = some (V.ref n) := by unfold doorF; walk_at "lk"
theorem door_no {m : Str} (h1 : ¬ m = "start") (h2 : ¬ m = "end") (h3 : ¬ m = "sign") (h4 : ¬ m = "looks") (h5 : ¬ m = "backs") : (doorF st en sg g n).lookup m = none := by
  unfold doorF
  rw [lookup_putF, if_neg h5, lookup_putF, if_neg h4, lookup_putF, if_neg h3, lookup_putF, if_neg h2, lookup_putF, if_neg h1]; rfl
end
structure MachD where
  watches : List Str
  rooms : List Rq
  doors : List DoorD
def machF (wn rn sl dl : Addr) : List (Str × V) := putF "door_list" (.ref dl) (putF "stay_looks" (.ref sl) (putF "room_names" (.ref rn) (putF "watch_names" (.ref wn) [])))
def MachAt (CM CD : Addr) (H : Hp) (p : Addr) (M : MachD) : Prop := ∃ dx wn rn sl dl, H p = some (.ins CM dx (machF wn rn sl dl)) ∧ H wn = some (.lst (M.watches.map V.str)) ∧ H rn = some (.lst ((M.rooms.map (·.1)).map V.str)) ∧ SeqOf LsAt H sl (M.rooms.map (·.2)) ∧ DsAt CD H dl M.doors
theorem MachAt.keep {CM CD : Addr} {H H' : Hp} {p : Addr} {M : MachD} (s : Same H H') (h : MachAt CM CD H p M) : MachAt CM CD H' p M := by
  obtain ⟨dx, wn, rn, sl, dl, a, b, c, d, e⟩ := h
  exact ⟨dx, wn, rn, sl, dl, s _ _ a, s _ _ b, s _ _ c, SeqOf.keep (fun _ _ h => LsAt.keep h s) s d, e.keep s⟩
section
variable {wn rn sl dl : Addr}
theorem mach_watch : (machF wn rn sl dl).lookup ("watch_names" : Str) = some (V.ref wn) := by unfold machF; walk_at "lk"
theorem mach_room : (machF wn rn sl dl).lookup ("room_names" : Str) = some (V.ref rn) := by unfold machF; walk_at "lk"
theorem mach_stay : (machF wn rn sl dl).lookup ("stay_looks" : Str) = some (V.ref sl) := by unfold machF; walk_at "lk"
theorem mach_door : (machF wn rn sl dl).lookup ("door_list" : Str) = some (V.ref dl) := by unfold machF; walk_at "lk"
theorem mach_no {m : Str} (h1 : ¬ m = "watch_names") (h2 : ¬ m = "room_names") (h3 : ¬ m = "stay_looks") (h4 : ¬ m = "door_list") : (machF wn rn sl dl).lookup m = none := by
  unfold machF
  rw [lookup_putF, if_neg h4, lookup_putF, if_neg h3, lookup_putF, if_neg h2, lookup_putF, if_neg h1]; rfl
end
def guardOk (ws watches : List Str) (ls : List Lq) : Bool := ls.all (lookOk ws watches)
def roomOk (watches : List Str) (r : Rq) : Bool := okT r.1 (letters ++ ("/" : Str)) 60 && guardOk ["<", "<="] watches r.2
def doorOk (watches names : List Str) (d : DoorD) : Bool :=
  okSign d.sg && decide (d.st ∈ names) && decide (d.en ∈ names) && guardOk ["<", "<=", ">", ">=", "="] watches d.looks && d.backs.all (fun b => decide (b ∈ watches)) && decide d.backs.Nodup
theorem inV_str {a : Str} {xs : List Str} : inV (.str a) (xs.map V.str) = decide (a ∈ xs) := by
  unfold inV
  rw [List.any_map, Bool.eq_iff_iff, List.any_eq_true, decide_eq_true_iff]
  constructor
  · rintro ⟨y, hy, e⟩
    have : y = a := by simpa [eqV] using e
    exact this ▸ hy
  · intro h
    exact ⟨a, h, by simp [eqV]⟩
theorem flat_of {xs : List Str} : (xs.map V.str).all flatV = true := L2.flat_strs xs
theorem ty_kind {K : PySem.W.Frag} {H : Hp} {v : V} (h : (kindV v).isSome = true) : ∃ t, t ∈ kinds ∧ TyX K H v (.type t) ∧ (t = "int" ↔ ∃ n, v = .int n) := by
  cases v with
  | non => exact ⟨_, by decide, .base .non, by simp⟩
  | bl b => exact ⟨_, by decide, .base (.bl b), by simp⟩
  | int i => exact ⟨_, by decide, .base (.int i), by simp⟩
  | str x => exact ⟨_, by decide, .base (.str x), by simp⟩
  | _ => cases h
def pick {α : Type} (ls : List α) (g : α → V) (d : V) (i : Nat) : V := match ls[i]? with | some l => g l | none => d
theorem pick_at {α : Type} {ls : List α} {g : α → V} {d : V} {i : Nat} {l : α} (h : ls[i]? = some l) : pick ls g d i = g l := by unfold pick; rw [h]
theorem range_map {α : Type} (ls : List α) (g : α → V) (d : V) : (List.range ls.length).map (pick ls g d) = ls.map g := by
  refine List.ext_getElem? fun k => ?_
  rw [List.getElem?_map, List.getElem?_map]
  by_cases h : k < ls.length
  · rw [List.getElem?_range h, List.getElem?_eq_getElem h]
    exact congrArg some (pick_at (List.getElem?_eq_getElem h))
  · rw [List.getElem?_eq_none (by rw [List.length_range]; omega), List.getElem?_eq_none (by omega)]; rfl
/-! ### looks and rooms as data -/
def ldat (l : Lq) : PyData := .tuple [.str l.1, .str l.2.1, lookD l.2.2]
def rdat (r : Rq) : PyData := .tuple [.str r.1, .list (r.2.map ldat)]
def TxOk (x : Str) : Prop := PyData.canLay0 (.str x) = true
def LqOk (l : Lq) : Prop := TxOk l.1 ∧ TxOk l.2.1 ∧ PyData.canLay0 (lookD l.2.2) = true
def RqOk (r : Rq) : Prop := TxOk r.1 ∧ ∀ l ∈ r.2, LqOk l
theorem lay_listM {ds : List PyData} {k : Nat} (h : ∀ d ∈ ds, d.canLay0 = true ∧ d.depth ≤ k) : (PyData.list ds).canLay0 = true ∧ (PyData.list ds).depth ≤ k + 1 := by
  have key : ∀ ds : List PyData, (∀ d ∈ ds, d.canLay0 = true ∧ d.depth ≤ k) → PyData.canLayAll0 ds = true ∧ PyData.depthAll ds ≤ k := by
    intro ds
    induction ds with
    | nil => intro _; exact ⟨rfl, Nat.zero_le _⟩
    | cons d ds ih =>
      intro h
      have h1 := h d (List.mem_cons_self ..)
      have h2 := ih fun x hx => h x (List.mem_cons_of_mem _ hx)
      refine ⟨by show (d.canLay0 && PyData.canLayAll0 ds) = true; rw [h1.1, h2.1]; rfl, ?_⟩
      show max d.depth (PyData.depthAll ds) ≤ k
      omega
  have z := key ds h
  exact ⟨z.1, by show PyData.depthAll ds + 1 ≤ k + 1; omega⟩
theorem lay_tup {ds : List PyData} {k : Nat} (h : ∀ d ∈ ds, d.canLay0 = true ∧ d.depth ≤ k) : (PyData.tuple ds).canLay0 = true ∧ (PyData.tuple ds).depth ≤ k + 1 := lay_listM h
theorem lay_flat {v : V} (h : PyData.canLay0 (lookD v) = true) : (lookD v).canLay0 = true ∧ (lookD v).depth ≤ 1 := ⟨h, by cases v <;> exact Nat.zero_le _⟩
theorem lay_str {x : Str} (h : TxOk x) : (PyData.str x).canLay0 = true ∧ (PyData.str x).depth ≤ 1 := ⟨h, Nat.zero_le _⟩
theorem lay_ldat {l : Lq} (h : LqOk l) : (ldat l).canLay0 = true ∧ (ldat l).depth ≤ 2 := lay_tup (k := 1) fun d hd => by
  simp only [List.mem_cons, List.not_mem_nil, or_false] at hd
  rcases hd with rfl | rfl | rfl
  · exact lay_str h.1
  · exact lay_str h.2.1
  · exact lay_flat h.2.2
theorem lay_ldats {ls : List Lq} (h : ∀ l ∈ ls, LqOk l) : (PyData.list (ls.map ldat)).canLay0 = true ∧ (PyData.list (ls.map ldat)).depth ≤ 3 := lay_listM fun d hd => by
  obtain ⟨l, hl, rfl⟩ := List.mem_map.mp hd
  exact lay_ldat (h l hl)
theorem lay_rdat {r : Rq} (h : RqOk r) : (rdat r).canLay0 = true ∧ (rdat r).depth ≤ 4 := lay_tup (k := 3) fun d hd => by
  simp only [List.mem_cons, List.not_mem_nil, or_false] at hd
  rcases hd with rfl | rfl
  · exact ⟨(lay_str h.1).1, Nat.le_trans (lay_str h.1).2 (by decide)⟩
  · exact lay_ldats h.2
theorem lay_rdats {rs : List Rq} (h : ∀ r ∈ rs, RqOk r) : (PyData.list (rs.map rdat)).canLay0 = true ∧ (PyData.list (rs.map rdat)).depth ≤ 5 := lay_listM fun d hd => by
  obtain ⟨l, hl, rfl⟩ := List.mem_map.mp hd
  exact lay_rdat (h l hl)
theorem shaped_ls {ls : List Lq} (h : ∀ l ∈ ls, LqOk l) : SeqAt.shaped (.list (ls.map ldat)) = true := Bool.and_eq_true_iff.mpr ⟨(lay_ldats h).1, decide_eq_true (by have := (lay_ldats h).2; omega)⟩
theorem shaped_rs {rs : List Rq} (h : ∀ r ∈ rs, RqOk r) : SeqAt.shaped (.list (rs.map rdat)) = true := Bool.and_eq_true_iff.mpr ⟨(lay_rdats h).1, decide_eq_true (by have := (lay_rdats h).2; omega)⟩
theorem shaped_xs {xs : List Str} (h : ∀ x ∈ xs, TxOk x) : SeqAt.shaped (.list (xs.map PyData.str)) = true := shaped_list fun d hd => by
  obtain ⟨x, hx, rfl⟩ := List.mem_map.mp hd
  exact ⟨h x hx, Nat.zero_le _⟩
section
variable {K : PySem.W.Frag} {H : Hp} {p : Addr}
theorem dp_flat {v : V} (h : (kindV v).isSome = true) : Dp K H v (lookD v) := by
  cases v with
  | non => exact .non
  | bl b => exact .bl b
  | int i => exact .int i
  | str x => exact .str x
  | _ => cases h
theorem dp_seq {α : Type} {R : Hp → Addr → α → Prop} {g : α → PyData} (k : ∀ q x, R H q x → Dp K H (.ref q) (g x)) {xs : List α} (h : SeqOf R H p xs) : Dp K H (.ref p) (.list (xs.map g)) := by
  obtain ⟨qs, a, b, c⟩ := h
  refine .lst (.of a) (dpall_of (by simp [b]) fun i v d h1 h2 => ?_)
  rw [List.getElem?_map] at h1 h2
  obtain ⟨q, hq, rfl⟩ := Option.map_eq_some_iff.mp h1
  obtain ⟨x, hx, rfl⟩ := Option.map_eq_some_iff.mp h2
  exact k q x (c i q x hq hx)
theorem dp_ls {ls : List Lq} (h : LsAt H p ls) : Dp K H (.ref p) (.list (ls.map ldat)) := dp_seq (fun q l h => .tup (.of h.1) (.cons (.str _) (.cons (.str _) (.cons (dp_flat h.2) .nil)))) h
theorem dp_rs {rs : List Rq} (h : RsAt H p rs) : Dp K H (.ref p) (.list (rs.map rdat)) := dp_seq (fun q r ⟨g, h1, h2⟩ => .tup (.of h1) (.cons (.str _) (.cons (dp_ls h2) .nil))) h
end
theorem ints_dp {K : PySem.W.Frag} {H : Hp} {p : Addr} {xs : List Int} (h : H p = some (.lst (xs.map V.int))) : Dp K H (.ref p) (.list (xs.map PyData.int)) :=
  .lst (.of h) (dpall_of (by simp) fun k v d h1 h2 => by
    rw [List.getElem?_map] at h1 h2
    obtain ⟨x, hx, rfl⟩ := Option.map_eq_some_iff.mp h1
    rw [hx] at h2; cases h2
    exact .int x)
theorem lay_ints (xs : List Int) : (PyData.list (xs.map PyData.int)).canLay0 = true ∧ (PyData.list (xs.map PyData.int)).depth ≤ 2 := lay_listM fun d hd => by
  obtain ⟨x, _, rfl⟩ := List.mem_map.mp hd
  exact ⟨rfl, Nat.zero_le _⟩
theorem shaped_ints (xs : List Int) : SeqAt.shaped (.list (xs.map PyData.int)) = true := Bool.and_eq_true_iff.mpr ⟨(lay_ints xs).1, decide_eq_true (by have := (lay_ints xs).2; omega)⟩
/-! ### comprehensions over a list: any target, a test, new objects -/
def LcG (K : PySem.W.Frag) (a : Addr) (g : TG) (tt : TT) (te : TE) (vs : List Nat) (σ : L2.St) (H1 : Hp) (Q : VK) : Prop := ∀ D, H1 D = none → ∃ W : Nat → Nat → Hp → Prop, (∃ m, W 0 m (upd H1 D (.lst []))) ∧ ∀ i m H, W i m H →
  ((Itl K a).stop i H ∧ Q (.ref D) H) ∨ ((Itl K a).go i H ∧ ∃ Nx : Hp → Prop, (∀ H', Nx H' → ∃ m', m' < m ∧ W (i + 1) m' H') ∧ ∀ x H', (Itl K a).yld i H x H' → g x (wipe σ vs) H' fun σ2 H2 => wipe σ2 vs = wipe σ vs ∧ tt σ2 H2 fun b H3 =>
    if b = true then te σ2 H3 fun y H4 => ∃ acc, H4 D = some (.lst acc) ∧ acc.length < sizeLine ∧ Nx (upd H4 D (.lst (acc ++ [y]))) else Nx H3)
theorem lcg_src {K : PySem.W.Frag} {ts te : TE} {g : TG} {tt : TT} {vs : List Nat} {σ : L2.St} {H : Hp} {Q : VK} (h : ts σ H fun x H1 => ∃ a, x = .ref a ∧ (∃ xs, SqL K H1 a xs) ∧ LcG K a g tt te vs σ H1 Q) : tLc (iList K ts) g tt te vs σ H Q := h
/-- H3 without what is new between H and H2 -/
noncomputable def cutH (H H2 H3 : Hp) : Hp := open Classical in fun b => if H b = none ∧ H2 b ≠ none then none else H3 b
theorem cut_same {H H2 H3 : Hp} (s : Same H H3) : Same H (cutH H H2 H3) := fun b o e => by
  unfold cutH; rw [if_neg (fun z => by rw [e] at z; cases z.1)]; exact s _ _ e
theorem cut_new {H H2 H3 : Hp} {r : Addr} {o : HO} (f : H2 r = none) (e : H3 r = some o) : cutH H H2 H3 r = some o := by
  unfold cutH; rw [if_neg (fun z => z.2 f)]; exact e
theorem cut_sub {H H2 H3 : Hp} : Same (cutH H H2 H3) H3 := fun b o e => by
  unfold cutH at e; split at e
  · cases e
  · exact e
open Classical in
noncomputable def delH (D : Addr) (H : Hp) : Hp := fun b => if b = D then none else H b
theorem del_at {D : Addr} {H : Hp} {b : Addr} {o : HO} (n : b ≠ D) (e : H b = some o) : delH D H b = some o := by unfold delH; rw [if_neg n]; exact e
theorem del_of {D : Addr} {H : Hp} {b : Addr} {o : HO} (e : delH D H b = some o) : b ≠ D ∧ H b = some o := by
  unfold delH at e
  by_cases h : b = D
  · rw [if_pos h] at e; cases e
  · rw [if_neg h] at e; exact ⟨h, e⟩
theorem cut_del {D : Addr} {H H2 H3 : Hp} {o : HO} (f : H D = none) (e : H2 D = some o) : Same (cutH H H2 H3) (delH D H3) := fun b o' h => by
  have hb : b ≠ D := fun z => by
    unfold cutH at h
    rw [z, if_pos ⟨f, by rw [e]; simp⟩] at h
    cases h
  exact del_at hb (cut_sub _ _ h)
def SeqV {α : Type} (R : Hp → V → α → Prop) (H : Hp) (p : Addr) (xs : List α) : Prop := ∃ ys : List V, H p = some (.lst ys) ∧ ys.length = xs.length ∧ ∀ (i : Nat) (y : V) (x : α), ys[i]? = some y → xs[i]? = some x → R H y x
/-- a list of new things that is still being made: what they are stands without it -/
def SeqD {α : Type} (R : Hp → Addr → α → Prop) (H : Hp) (p : Addr) (xs : List α) : Prop := ∃ qs : List Addr, H p = some (.lst (qs.map V.ref)) ∧ qs.length = xs.length ∧ ∀ (i : Nat) (q : Addr) (x : α), qs[i]? = some q → xs[i]? = some x → R (delH p H) q x
theorem del_same {p : Addr} {H H' : Hp} (s : Same H H') : Same (delH p H) (delH p H') := fun b o e => by
  have := del_of e
  exact del_at this.1 (s _ _ this.2)
theorem del_sub {p : Addr} {H : Hp} : Same (delH p H) H := fun b o e => (del_of e).2
theorem del_upd {p : Addr} {H : Hp} {o : HO} : Same (delH p H) (delH p (upd H p o)) := fun b o' e => by
  have := del_of e
  exact del_at this.1 (by rw [upd_ne this.1]; exact this.2)
section
variable {α : Type} {R : Hp → Addr → α → Prop} {H H' : Hp} {p : Addr} {xs : List α}
theorem SeqD.keep (k : ∀ H H' q x, Same H H' → R H q x → R H' q x) (s : Same H H') (h : SeqD R H p xs) : SeqD R H' p xs := by
  obtain ⟨qs, a, b, c⟩ := h
  exact ⟨qs, s _ _ a, b, fun i q x h1 h2 => k _ _ q x (del_same s) (c i q x h1 h2)⟩
theorem SeqD.seq (k : ∀ H H' q x, Same H H' → R H q x → R H' q x) (h : SeqD R H p xs) : SeqOf R H p xs := by
  obtain ⟨qs, a, b, c⟩ := h
  exact ⟨qs, a, b, fun i q x h1 h2 => k _ _ q x del_sub (c i q x h1 h2)⟩
theorem SeqD.nil (e : H p = some (.lst [])) : SeqD R H p [] := ⟨[], e, rfl, fun i q x h => by simp at h⟩
theorem SeqD.app (k : ∀ H H' q x, Same H H' → R H q x → R H' q x) (h : SeqD R H p xs) {q : Addr} {x : α} (hq : R (delH p H) q x) : ∃ items, H p = some (.lst items) ∧ items.length = xs.length ∧ SeqD R (upd H p (.lst (items ++ [.ref q]))) p (xs ++ [x]) := by
  obtain ⟨qs, a, b, c⟩ := h
  refine ⟨_, a, by rw [List.length_map]; exact b, qs ++ [q], by rw [upd_same, List.map_append]; rfl, by simp [b], fun i q' x' h1 h2 => ?_⟩
  refine k _ _ _ _ del_upd ?_
  by_cases c1 : i < qs.length
  · rw [List.getElem?_append_left c1] at h1
    rw [List.getElem?_append_left (by omega)] at h2
    exact c i q' x' h1 h2
  · have hlt := (List.getElem?_eq_some_iff.mp h1).1
    rw [List.length_append, List.length_singleton] at hlt
    obtain rfl : i = qs.length := by omega
    rw [List.getElem?_append_right (Nat.le_refl _), Nat.sub_self] at h1
    rw [b, List.getElem?_append_right (Nat.le_refl _), Nat.sub_self] at h2
    have a1 : q = q' := by simpa using h1
    have a2 : x = x' := by simpa using h2
    subst a1; subst a2
    exact hq
end
def SeqVD {α : Type} (R : Hp → V → α → Prop) (H : Hp) (p : Addr) (xs : List α) : Prop := ∃ ys : List V, H p = some (.lst ys) ∧ ys.length = xs.length ∧ ∀ (i : Nat) (y : V) (x : α), ys[i]? = some y → xs[i]? = some x → R (delH p H) y x
theorem seqVD_of {α : Type} {R : Hp → Addr → α → Prop} {H : Hp} {p : Addr} {xs : List α} (h : SeqVD (fun H y x => ∃ q, y = .ref q ∧ R H q x) H p xs) : SeqD R H p xs := by
  obtain ⟨ys, a, b, c⟩ := h
  have key : ∀ (ys : List V) (xs : List α), ys.length = xs.length → (∀ (i : Nat) (y : V) (x : α), ys[i]? = some y → xs[i]? = some x → ∃ q, y = .ref q ∧ R (delH p H) q x) → ∃ qs : List Addr, ys = qs.map V.ref ∧ qs.length = xs.length ∧ ∀ (i : Nat) (q : Addr) (x : α), qs[i]? = some q → xs[i]? = some x → R (delH p H) q x := by
    intro ys
    induction ys with
    | nil => intro xs hl _; exact ⟨[], rfl, hl, fun i q x h => by simp at h⟩
    | cons y ys ih =>
      intro xs hl h
      cases xs with
      | nil => simp at hl
      | cons x xs =>
        obtain ⟨q, e, r⟩ := h 0 y x rfl rfl
        obtain ⟨qs, e2, l2, r2⟩ := ih xs (by simpa using hl) fun i y x h1 h2 => h (i + 1) y x h1 h2
        refine ⟨q :: qs, by rw [e, e2]; rfl, by simp [l2], fun i q' x' h1 h2 => ?_⟩
        cases i with
        | zero => cases h1; cases h2; exact r
        | succ i => exact r2 i q' x' h1 h2
  obtain ⟨qs, e, l, r⟩ := key ys xs b c
  exact ⟨qs, e ▸ a, l, r⟩
theorem seqV_vals {α : Type} {f : α → V} {H : Hp} {p : Addr} {xs : List α} (h : SeqV (fun _ y x => y = f x) H p xs) : H p = some (.lst (xs.map f)) := by
  obtain ⟨ys, a, b, c⟩ := h
  rw [a]
  refine congrArg (fun z => some (HO.lst z)) (List.ext_getElem? fun i => ?_)
  rw [List.getElem?_map]
  by_cases hi : i < xs.length
  · have h1 := List.getElem?_eq_getElem (l := ys) (i := i) (by omega)
    have h2 := List.getElem?_eq_getElem hi
    rw [h1, h2, c i _ _ h1 h2]; rfl
  · rw [List.getElem?_eq_none (by omega), List.getElem?_eq_none (by omega)]; rfl
theorem lcG {K : PySem.W.Frag} {α β : Type} {RV : Hp → V → β → Prop} (keep : ∀ H H' y x, Same H H' → RV H y x → RV H' y x) {F : α → Option β} {a : Addr} {g : TG} {tt : TT} {te : TE} {vs : List Nat} {σ : L2.St} {H : Hp} {Q : VK} {xs : List V} {zs : List α}
    (hx : H a = some (.lst xs)) (hz : xs.length = zs.length) (hn : xs.length ≤ 900)
    (ht : ∀ (i : Nat) (x : V) (z : α) (H2 : Hp) (Yes : VK) (No : Hp → Prop), xs[i]? = some x → zs[i]? = some z → Same H H2 → (∀ y H5, Same H2 H5 → (∃ o, F z = some o ∧ ∀ D acc, H D = none → H2 D = some (.lst acc) → RV (delH D H5) y o) → Yes y H5) → (∀ H5, Same H2 H5 → F z = none → No H5) →
      g x (wipe σ vs) H2 fun σ2 H3 => wipe σ2 vs = wipe σ vs ∧ tt σ2 H3 fun b H4 => if b = true then te σ2 H4 Yes else No H4)
    (q : ∀ D H', Same H H' → H D = none → SeqVD RV H' D (zs.filterMap F) → Q (.ref D) H') : LcG K a g tt te vs σ H Q := fun D hD => by
  refine lc_list (K := K) (a := a) (xs := xs) (fun i H' => Same H H' ∧ ∃ acc : List V, H' D = some (.lst acc) ∧ acc.length = ((zs.take i).filterMap F).length ∧ ∀ (j : Nat) (y : V) (o : β), acc[j]? = some y → ((zs.take i).filterMap F)[j]? = some o → RV (delH D H') y o)
    ⟨upd_keep hD, [], upd_same, rfl, fun j y o h => by simp at h⟩ (fun i H' _ ⟨s, _⟩ => .of (s _ _ hx)) ?_ ?_
  · rintro i x H2 hi ⟨sm, acc, eD, hl, hr⟩
    have hin := (List.getElem?_eq_some_iff.mp hi).1
    have hzi := List.getElem?_eq_getElem (l := zs) (i := i) (by omega)
    have la : acc.length ≤ 900 := by
      have h1 := List.length_filterMap_le F (zs.take i)
      have h2 := List.length_take_le i zs
      have : (zs.take i).length ≤ i := by rw [List.length_take]; omega
      omega
    have tk : (zs.take (i + 1)).filterMap F = (zs.take i).filterMap F ++ (match F zs[i] with | some o => [o] | none => []) := by
      rw [List.take_add_one, hzi, List.filterMap_append]
      congr 1
      cases h : F zs[i] <;> simp [h]
    refine ht i x zs[i] H2 _ _ hi hzi sm ?yes ?no
    case yes =>
      rintro y H5 s5 ⟨o, ho, rv⟩
      refine ⟨acc, s5 _ _ eD, small1000 (by omega), same_updN hD (sm.trans s5), acc ++ [y], upd_same, ?_, ?_⟩
      · rw [tk, ho]; simp [hl]
      · intro j y' o' h1 h2
        rw [tk, ho] at h2
        by_cases c : j < acc.length
        · rw [List.getElem?_append_left c] at h1
          rw [List.getElem?_append_left (by omega)] at h2
          refine keep _ _ _ _ (fun b o e => ?_) (hr j y' o' h1 h2)
          have hb := del_of e
          exact del_at hb.1 (by rw [upd_ne hb.1]; exact s5 _ _ hb.2)
        · have hlt := (List.getElem?_eq_some_iff.mp h1).1
          rw [List.length_append, List.length_singleton] at hlt
          obtain rfl : j = acc.length := by omega
          rw [List.getElem?_append_right (Nat.le_refl _), Nat.sub_self] at h1
          rw [hl, List.getElem?_append_right (Nat.le_refl _), Nat.sub_self] at h2
          have h1 : y = y' := by simpa using h1
          have h2 : o = o' := by simpa using h2
          subst h1 h2
          refine keep _ _ _ _ (fun b o e => ?_) (rv D acc hD eD)
          have hb := del_of e
          exact del_at hb.1 (by rw [upd_ne hb.1]; exact hb.2)
    case no =>
      intro H5 s5 ho
      refine ⟨sm.trans s5, acc, s5 _ _ eD, ?_, ?_⟩
      · rw [tk, ho]; simp [hl]
      · intro j y' o' h1 h2
        rw [tk, ho, List.append_nil] at h2
        refine keep _ _ _ _ (fun b o e => ?_) (hr j y' o' h1 h2)
        have hb := del_of e
        exact del_at hb.1 (s5 _ _ hb.2)
  · rintro H' ⟨sm, acc, eD, hl, hr⟩
    rw [List.take_of_length_le (by omega)] at hl hr
    exact q D H' sm hD ⟨acc, eD, hl, hr⟩
/-- the same without a test: each turned into a new thing -/
theorem lcMD {K : PySem.W.Frag} {α β : Type} {R : Hp → Addr → β → Prop} (keep : ∀ H H' q x, Same H H' → R H q x → R H' q x) {F : α → β} {a : Addr} {g : TG} {te : TE} {vs : List Nat} {σ : L2.St} {H : Hp} {Q : VK} {xs : List V} {zs : List α}
    (hx : H a = some (.lst xs)) (hz : xs.length = zs.length) (hn : xs.length ≤ 900)
    (ht : ∀ (i : Nat) (x : V) (z : α) (H2 : Hp) (Yes : VK), xs[i]? = some x → zs[i]? = some z → Same H H2 → (∀ r H5, Same H2 H5 → (∀ D acc, H D = none → H2 D = some (.lst acc) → R (delH D H5) r (F z)) → Yes (.ref r) H5) → g x (wipe σ vs) H2 fun σ2 H3 => wipe σ2 vs = wipe σ vs ∧ te σ2 H3 Yes)
    (q : ∀ D H', Same H H' → H D = none → SeqD R H' D (zs.map F) → Q (.ref D) H') : LcG K a g tYes te vs σ H Q :=
  lcG (RV := fun H y x => ∃ q, y = .ref q ∧ R H q x) (fun _ _ _ _ s ⟨q, e, r⟩ => ⟨q, e, keep _ _ _ _ s r⟩) (F := fun z => some (F z)) hx hz hn
    (fun i x z H2 Yes No h1 h2 s hy hno => by
      have := ht i x z H2 Yes h1 h2 s fun r H5 s5 hr => hy _ _ s5 ⟨_, rfl, fun D acc f e => ⟨r, rfl, hr D acc f e⟩⟩
      simpa only [tYes, if_true] using this)
    (fun D H' s f h => q D H' s f (seqVD_of (by rw [show zs.map F = zs.filterMap (fun z => some (F z)) from (congrFun (List.filterMap_eq_map (f := F)) zs).symm]; exact h)))
theorem lcM {K : PySem.W.Frag} {α β : Type} {R : Hp → Addr → β → Prop} (keep : ∀ H H' q x, Same H H' → R H q x → R H' q x) {F : α → β} {a : Addr} {g : TG} {te : TE} {vs : List Nat} {σ : L2.St} {H : Hp} {Q : VK} {xs : List V} {zs : List α}
    (hx : H a = some (.lst xs)) (hz : xs.length = zs.length) (hn : xs.length ≤ 900)
    (ht : ∀ (i : Nat) (x : V) (z : α) (H2 : Hp) (Yes : VK), xs[i]? = some x → zs[i]? = some z → Same H H2 → (∀ r H5, Same H2 H5 → R (cutH H H2 H5) r (F z) → Yes (.ref r) H5) → g x (wipe σ vs) H2 fun σ2 H3 => wipe σ2 vs = wipe σ vs ∧ te σ2 H3 Yes)
    (q : ∀ D H', Same H H' → H D = none → SeqOf R H' D (zs.map F) → Q (.ref D) H') : LcG K a g tYes te vs σ H Q :=
  lcMD keep hx hz hn (fun i x z H2 Yes h1 h2 s hy => ht i x z H2 Yes h1 h2 s fun r H5 s5 hr => hy r H5 s5 fun D acc f e => keep _ _ _ _ (cut_del f e) hr) fun D H' s f h => q D H' s f (h.seq keep)
/-- each turned into a new thing that is drawn -/
theorem choose_refs {α β : Type} {R : Addr → β → Prop} {P : α → β → Prop} : ∀ (vs : List V) (zs : List α), vs.length = zs.length → (∀ (i : Nat) (v : V) (z : α), vs[i]? = some v → zs[i]? = some z → ∃ q y, v = .ref q ∧ P z y ∧ R q y) →
    ∃ (qs : List Addr) (ys : List β), vs = qs.map V.ref ∧ qs.length = ys.length ∧ ys.length = zs.length ∧ (∀ (i : Nat) (q : Addr) (y : β), qs[i]? = some q → ys[i]? = some y → R q y) ∧ ∀ (i : Nat) (z : α) (y : β), zs[i]? = some z → ys[i]? = some y → P z y := by
  intro vs
  induction vs with
  | nil =>
    intro zs hl _
    have : zs = [] := List.length_eq_zero_iff.mp hl.symm
    subst this
    exact ⟨[], [], rfl, rfl, rfl, (fun i q y h => by simp at h), (fun i z y h => by simp at h)⟩
  | cons v vs ih =>
    intro zs hl h
    cases zs with
    | nil => simp at hl
    | cons z zs =>
      obtain ⟨q, y, e, p, r⟩ := h 0 v z rfl rfl
      obtain ⟨qs, ys, e2, l2, l3, r2, p2⟩ := ih zs (by simpa using hl) fun i v z h1 h2 => h (i + 1) v z h1 h2
      refine ⟨q :: qs, y :: ys, by rw [e, e2]; rfl, by simp [l2], by simp [l3], fun i q' y' h1 h2 => ?_, fun i z' y' h1 h2 => ?_⟩
      · cases i with
        | zero => cases h1; cases h2; exact r
        | succ i => exact r2 i q' y' h1 h2
      · cases i with
        | zero => cases h1; cases h2; exact p
        | succ i => exact p2 i z' y' h1 h2
theorem lcMP {K : PySem.W.Frag} {α β : Type} {R : Hp → Addr → β → Prop} {P : α → β → Prop} (keep : ∀ H H' q x, Same H H' → R H q x → R H' q x) {a : Addr} {g : TG} {te : TE} {vs : List Nat} {σ : L2.St} {H : Hp} {Q : VK} {xs : List V} {zs : List α}
    (hx : H a = some (.lst xs)) (hz : xs.length = zs.length) (hn : xs.length ≤ 900)
    (ht : ∀ (i : Nat) (x : V) (z : α) (H2 : Hp) (Yes : VK), xs[i]? = some x → zs[i]? = some z → Same H H2 → (∀ r H5 y, Same H2 H5 → P z y → (∀ D acc, H D = none → H2 D = some (.lst acc) → R (delH D H5) r y) → Yes (.ref r) H5) → g x (wipe σ vs) H2 fun σ2 H3 => wipe σ2 vs = wipe σ vs ∧ te σ2 H3 Yes)
    (q : ∀ D H' ys, Same H H' → H D = none → SeqD R H' D ys → ys.length = zs.length → (∀ (i : Nat) (z : α) (y : β), zs[i]? = some z → ys[i]? = some y → P z y) → Q (.ref D) H') : LcG K a g tYes te vs σ H Q :=
  lcG (RV := fun H y z => ∃ q x, y = .ref q ∧ P z x ∧ R H q x) (fun _ _ _ _ s ⟨q, x, e, p, r⟩ => ⟨q, x, e, p, keep _ _ _ _ s r⟩) (F := fun z => some z) hx hz hn
    (fun i x z H2 Yes No h1 h2 s hy hno => by
      have := ht i x z H2 Yes h1 h2 s fun r H5 y s5 p hr => hy _ _ s5 ⟨_, rfl, fun D acc f e => ⟨r, y, rfl, p, hr D acc f e⟩⟩
      simpa only [tYes, if_true] using this)
    (fun D H' s f ⟨ys, a, b, c⟩ => by
      rw [show zs.filterMap (fun z => some z) = zs by simp] at b c
      obtain ⟨qs, ys', e, l1, l2, r, p⟩ := choose_refs (R := fun q y => R (delH D H') q y) (P := P) ys zs b (fun i v z h1 h2 => c i v z h1 h2)
      exact q D H' ys' s f ⟨qs, e ▸ a, l1, r⟩ l2 p)
/-- each turned into a value -/
theorem lcF {K : PySem.W.Frag} {α : Type} {F : α → V} {a : Addr} {g : TG} {te : TE} {vs : List Nat} {σ : L2.St} {H : Hp} {Q : VK} {xs : List V} {zs : List α}
    (hx : H a = some (.lst xs)) (hz : xs.length = zs.length) (hn : xs.length ≤ 900)
    (ht : ∀ (i : Nat) (x : V) (z : α) (H2 : Hp) (Yes : VK), xs[i]? = some x → zs[i]? = some z → Same H H2 → (∀ H5, Same H2 H5 → Yes (F z) H5) → g x (wipe σ vs) H2 fun σ2 H3 => wipe σ2 vs = wipe σ vs ∧ te σ2 H3 Yes)
    (q : ∀ D H', Same H H' → H D = none → H' D = some (.lst (zs.map F)) → Q (.ref D) H') : LcG K a g tYes te vs σ H Q :=
  lcG (RV := fun _ y x => y = F x) (fun _ _ _ _ _ e => e) (F := fun z => some z) hx hz hn
    (fun i x z H2 Yes No h1 h2 s hy hno => by
      have := ht i x z H2 Yes h1 h2 s fun H5 s5 => hy _ _ s5 ⟨_, rfl, fun _ _ _ _ => rfl⟩
      simpa only [tYes, if_true] using this)
    (fun D H' s f ⟨ys, a, b, c⟩ => q D H' s f (seqV_vals ⟨ys, a, by simpa using b, fun i y x h1 h2 => c i y x h1 (by simpa using h2)⟩))
theorem LsAt.del {H : Hp} {D r : Addr} {ls : List Lq} {acc : List V} (h : LsAt H r ls) (n : r ≠ D) (e : H D = some (.lst acc)) : LsAt (delH D H) r ls := by
  obtain ⟨qs, a, b, c⟩ := h
  exact ⟨qs, del_at n a, b, fun i q x h1 h2 => ⟨del_at (ne_of (c i q x h1 h2).1 e (by intro z; cases z)) (c i q x h1 h2).1, (c i q x h1 h2).2⟩⟩
/-! ### the same over a range: values, a test -/
def LcGR (n : Nat) (g : TG) (tt : TT) (te : TE) (vs : List Nat) (σ : L2.St) (H1 : Hp) (Q : VK) : Prop := ∀ D, H1 D = none → ∃ W : Nat → Nat → Hp → Prop, (∃ m, W 0 m (upd H1 D (.lst []))) ∧ ∀ i m H, W i m H →
  ((Itr 0 n).stop i H ∧ Q (.ref D) H) ∨ ((Itr 0 n).go i H ∧ ∃ Nx : Hp → Prop, (∀ H', Nx H' → ∃ m', m' < m ∧ W (i + 1) m' H') ∧ ∀ x H', (Itr 0 n).yld i H x H' → g x (wipe σ vs) H' fun σ2 H2 => wipe σ2 vs = wipe σ vs ∧ tt σ2 H2 fun b H3 =>
    if b = true then te σ2 H3 fun y H4 => ∃ acc, H4 D = some (.lst acc) ∧ acc.length < sizeLine ∧ Nx (upd H4 D (.lst (acc ++ [y]))) else Nx H3)
theorem lcr_src {ta : TA} {g : TG} {tt : TT} {te : TE} {vs : List Nat} {σ : L2.St} {H : Hp} {Q : VK} (h : ta σ H fun us H1 => ∃ j : Int, us = [.int j] ∧ -(2 ^ 62) ≤ j ∧ j < 2 ^ 62 ∧ LcGR j.toNat g tt te vs σ H1 Q) : tLc (iRng1 ta) g tt te vs σ H Q := h
theorem lcR {n : Nat} {F : Nat → Option V} {g : TG} {tt : TT} {te : TE} {vs : List Nat} {σ : L2.St} {H : Hp} {Q : VK} (hn : n ≤ 900)
    (ht : ∀ (j : Nat) (H2 : Hp) (Yes : VK) (No : Hp → Prop), j < n → Same H H2 → (∀ y H5, Same H2 H5 → F j = some y → Yes y H5) → (∀ H5, Same H2 H5 → F j = none → No H5) →
      g (.int (0 + (j : Int))) (wipe σ vs) H2 fun σ2 H3 => wipe σ2 vs = wipe σ vs ∧ tt σ2 H3 fun b H4 => if b = true then te σ2 H4 Yes else No H4)
    (q : ∀ D H', Same H H' → H D = none → H' D = some (.lst ((List.range n).filterMap F)) → Q (.ref D) H') : LcGR n g tt te vs σ H Q := fun D hD => by
  refine lc_range (lo := 0) (n := n) (fun i H' => Same H H' ∧ H' D = some (.lst ((List.range i).filterMap F))) ⟨upd_keep hD, upd_same⟩ ?_ ?_
  · rintro i H2 hi ⟨sm, eD⟩
    have la : ((List.range i).filterMap F).length ≤ 900 := by
      have h1 := List.length_filterMap_le F (List.range i)
      rw [List.length_range] at h1
      omega
    have tk : (List.range (i + 1)).filterMap F = (List.range i).filterMap F ++ (match F i with | some o => [o] | none => []) := by
      rw [List.range_succ, List.filterMap_append]
      congr 1
      cases h : F i <;> simp [h]
    refine ht i H2 _ _ hi sm ?yes ?no
    case yes =>
      intro y H5 s5 ho
      refine ⟨_, s5 _ _ eD, small1000 (by omega), same_updN hD (sm.trans s5), ?_⟩
      rw [upd_same, tk, ho]
    case no =>
      intro H5 s5 ho
      refine ⟨sm.trans s5, ?_⟩
      rw [s5 _ _ eD, tk, ho, List.append_nil]
  · rintro H' ⟨sm, eD⟩
    exact q D H' sm hD eD
/-- no test -/
theorem lcRM {n : Nat} {F : Nat → V} {g : TG} {te : TE} {vs : List Nat} {σ : L2.St} {H : Hp} {Q : VK} (hn : n ≤ 900)
    (ht : ∀ (j : Nat) (H2 : Hp) (Yes : VK), j < n → Same H H2 → (∀ H5, Same H2 H5 → Yes (F j) H5) → g (.int (0 + (j : Int))) (wipe σ vs) H2 fun σ2 H3 => wipe σ2 vs = wipe σ vs ∧ te σ2 H3 Yes)
    (q : ∀ D H', Same H H' → H D = none → H' D = some (.lst ((List.range n).map F)) → Q (.ref D) H') : LcGR n g tYes te vs σ H Q :=
  lcR (F := fun j => some (F j)) hn (fun j H2 Yes No hj s hy hno => by
    have := ht j H2 Yes hj s fun H5 s5 => hy _ H5 s5 rfl
    simpa only [tYes, if_true] using this) (fun D H' s f e => q D H' s f (e.trans (by rw [show (List.range n).filterMap (fun j => some (F j)) = (List.range n).map F from congrFun (List.filterMap_eq_map (f := F)) _])))
/-- over a range, each turned into a new thing that is drawn -/
theorem lcRP {n : Nat} {β : Type} {R : Hp → Addr → β → Prop} {P : Nat → β → Prop} (keep : ∀ H H' q x, Same H H' → R H q x → R H' q x) {g : TG} {te : TE} {vs : List Nat} {σ : L2.St} {H : Hp} {Q : VK} (hn : n ≤ 900)
    (ht : ∀ (j : Nat) (H2 : Hp) (Yes : VK), j < n → Same H H2 → (∀ r H5 y, Same H2 H5 → P j y → (∀ D acc, H D = none → H2 D = some (.lst acc) → R (delH D H5) r y) → Yes (.ref r) H5) → g (.int (0 + (j : Int))) (wipe σ vs) H2 fun σ2 H3 => wipe σ2 vs = wipe σ vs ∧ te σ2 H3 Yes)
    (q : ∀ D H' ys, Same H H' → H D = none → SeqD R H' D ys → ys.length = n → (∀ (i : Nat) (y : β), ys[i]? = some y → P i y) → Q (.ref D) H') : LcGR n g tYes te vs σ H Q := fun D hD => by
  refine lc_range (lo := 0) (n := n) (fun i H' => Same H H' ∧ ∃ ys : List β, SeqD R H' D ys ∧ ys.length = i ∧ ∀ (j : Nat) (y : β), ys[j]? = some y → P j y) ⟨upd_keep hD, [], SeqD.nil upd_same, rfl, fun j y h => by simp at h⟩ ?_ ?_
  · rintro i H2 hi ⟨sm, ys, sd, yl, yp⟩
    obtain ⟨qs, w1, w2, w3⟩ := id sd
    have key : ∀ r H5 y, Same H2 H5 → P i y → (∀ D acc, H D = none → H2 D = some (.lst acc) → R (delH D H5) r y) → ∃ acc, H5 D = some (.lst acc) ∧ acc.length < sizeLine ∧ (Same H (upd H5 D (.lst (acc ++ [.ref r]))) ∧ ∃ ys : List β, SeqD R (upd H5 D (.lst (acc ++ [.ref r]))) D ys ∧ ys.length = i + 1 ∧ ∀ (j : Nat) (y : β), ys[j]? = some y → P j y) := by
      intro r H5 y s5 p hr
      obtain ⟨items, it1, it2, it3⟩ := (sd.keep keep s5).app keep (hr D _ hD w1)
      refine ⟨items, it1, small1000 (by omega), same_updN hD (sm.trans s5), ys ++ [y], it3, by simp [yl], fun j y' h => ?_⟩
      by_cases c : j < ys.length
      · rw [List.getElem?_append_left c] at h; exact yp j y' h
      · have hlt := (List.getElem?_eq_some_iff.mp h).1
        rw [List.length_append, List.length_singleton] at hlt
        obtain rfl : j = ys.length := by omega
        rw [List.getElem?_append_right (Nat.le_refl _), Nat.sub_self] at h
        have : y = y' := by simpa using h
        rw [← this, yl]; exact p
    have := ht i H2 (fun v H5 => ∃ acc, H5 D = some (.lst acc) ∧ acc.length < sizeLine ∧ (Same H (upd H5 D (.lst (acc ++ [v]))) ∧ ∃ ys : List β, SeqD R (upd H5 D (.lst (acc ++ [v]))) D ys ∧ ys.length = i + 1 ∧ ∀ (j : Nat) (y : β), ys[j]? = some y → P j y)) hi sm key
    simpa only [tYes, if_true] using this
  · rintro H' ⟨sm, ys, sd, yl, yp⟩
    exact q D H' ys sm hD sd yl yp
/-! ### right machines: plain facts -/
theorem okT_len {x s : Str} {m : Int} (h : okT x s m = true) : (x.length : Int) ≤ m := by
  unfold okT at h
  rw [Bool.and_eq_true, Bool.and_eq_true] at h
  exact of_decide_eq_true h.1.2
theorem txok_of {x : Str} (h : ∀ c ∈ x.cps.toList, c < 0x110000) : TxOk x := by
  show PyData.strOk x = true
  unfold PyData.strOk
  rw [← Array.all_toList, List.all_eq_true]
  exact fun c hc => decide_eq_true (h c hc)
theorem okT_tx {x s : Str} {m : Int} (hs : ∀ c ∈ s.cps.toList, c < 0x110000) (h : okT x s m = true) : TxOk x := by
  unfold okT at h
  rw [Bool.and_eq_true, List.all_eq_true] at h
  exact txok_of fun c hc => hs c (of_decide_eq_true (h.2 c hc))
theorem letters_lt : ∀ c ∈ letters.cps.toList, c < 0x110000 := by decide +kernel
theorem letters_lt2 : ∀ c ∈ (letters ++ ("/" : Str)).cps.toList, c < 0x110000 := by decide +kernel
theorem okName_len {x : Str} (h : okName x = true) : x.length ≤ 8 := by have := okT_len (show okT x letters 8 = true from h); omega
theorem okName_tx {x : Str} (h : okName x = true) : TxOk x := okT_tx letters_lt (show okT x letters 8 = true from h)
theorem okWatch_len {x : Str} (h : okWatch x = true) : x.length ≤ 8 := by
  unfold okWatch at h
  rw [Bool.or_eq_true] at h
  rcases h with h | h
  · rw [of_decide_eq_true h]; decide +kernel
  · exact okName_len h
theorem okWatch_tx {x : Str} (h : okWatch x = true) : TxOk x := by
  unfold okWatch at h
  rw [Bool.or_eq_true] at h
  rcases h with h | h
  · rw [of_decide_eq_true h]; show PyData.strOk _ = true; decide +kernel
  · exact okName_tx h
theorem words_tx {ws : List Str} {x : Str} (h : x ∈ ws) (hw : ws.all (fun y => PyData.strOk y) = true) : TxOk x := List.all_eq_true.mp hw x h
theorem look_ok {ws watches : List Str} {l : Lq} (hw : ws.all (fun y => PyData.strOk y) = true) (ha : ∀ x ∈ watches, okWatch x = true) (h : lookOk ws watches l = true) : LqOk l := by
  unfold lookOk at h
  rw [Bool.and_eq_true, Bool.and_eq_true] at h
  refine ⟨okWatch_tx (ha _ (of_decide_eq_true h.1.1)), words_tx (of_decide_eq_true h.1.2) hw, ?_⟩
  have := h.2
  cases hv : l.2.2 <;> rw [hv] at this <;> first | rfl | cases this
theorem room_ok {watches : List Str} {r : Rq} (ha : ∀ x ∈ watches, okWatch x = true) (h : roomOk watches r = true) : r.1.length ≤ 60 ∧ RqOk r := by
  unfold roomOk at h
  rw [Bool.and_eq_true] at h
  refine ⟨by have := okT_len h.1; omega, okT_tx letters_lt2 h.1, fun l hl => look_ok (ws := ["<", "<="]) (by decide +kernel) ha (List.all_eq_true.mp h.2 l hl)⟩
theorem okSign_len {x : Str} (h : okSign x = true) : x.length ≤ 9 := by
  unfold okSign at h
  rw [Bool.or_eq_true] at h
  rcases h with h | h
  · rw [of_decide_eq_true h]; decide +kernel
  · cases e : x.cps.toList.getLast? with
    | none => rw [e] at h; cases h
    | some c =>
      rw [e] at h
      have h2 := (Bool.and_eq_true_iff.mp h).2
      have l8 := okName_len h2
      unfold cutS Str.length at l8
      simp only [List.size_toArray, List.length_take, List.length_drop] at l8
      unfold Str.length
      rw [← Array.length_toList]
      have s0 : HT.sIx x.length 0 none = 0 := rfl
      have s1 : HT.sIx x.length x.length (some (-1)) = x.length - 1 := by
        unfold HT.sIx
        simp only [show ((-1 : Int) < 0) from by decide, if_true]
        omega
      have s2 : x.length = x.cps.toList.length := by unfold Str.length; exact Array.length_toList.symm
      unfold Str.length at s0 s1 s2
      rw [s0, s1] at l8
      omega
def numOf : V → Int
  | .int n => n
  | _ => 0
structure MachOk (M : MachD) : Prop where
  w7 : M.watches.length ≤ 7
  wok : M.watches.all okWatch = true
  wnd : M.watches.Nodup
  rok : M.rooms.all (roomOk M.watches) = true
  rnd : (M.rooms.map (·.1)).Nodup
  rne : M.rooms ≠ []
  r64 : M.rooms.length ≤ 64
  dok : M.doors.all (doorOk M.watches (M.rooms.map (·.1))) = true
  d200 : M.doors.length ≤ 200
  rsz : ∀ r ∈ M.rooms, r.2.length ≤ 60
  dsz : ∀ d ∈ M.doors, d.looks.length ≤ 60
theorem nodup_len {α : Type} [DecidableEq α] : ∀ {xs ys : List α}, xs.Nodup → (∀ x ∈ xs, x ∈ ys) → xs.length ≤ ys.length := by
  intro xs
  induction xs with
  | nil => intro ys _ _; exact Nat.zero_le _
  | cons x xs ih =>
    intro ys h1 h2
    obtain ⟨n1, n2⟩ := List.nodup_cons.mp h1
    have hx := h2 x (List.mem_cons_self ..)
    have := ih (ys := ys.erase x) n2 fun y hy => (List.mem_erase_of_ne (show y ≠ x from fun e => n1 (by rw [← e]; exact hy))).mpr (h2 y (List.mem_cons_of_mem _ hy))
    rw [List.length_erase_of_mem hx] at this
    have hp := List.length_pos_of_mem hx
    simp only [List.length_cons]
    omega
section
variable {M : MachD}
theorem MachOk.watch (h : MachOk M) : ∀ x ∈ M.watches, okWatch x = true := List.all_eq_true.mp h.wok
theorem MachOk.room (h : MachOk M) {r : Rq} (hr : r ∈ M.rooms) : r.1.length ≤ 1000 ∧ r.2.length ≤ 60 ∧ RqOk r := by
  have := room_ok h.watch (List.all_eq_true.mp h.rok r hr)
  exact ⟨by omega, h.rsz r hr, this.2⟩
theorem MachOk.door (h : MachOk M) {d : DoorD} (hd : d ∈ M.doors) : okSign d.sg = true ∧ d.st ∈ M.rooms.map (·.1) ∧ d.en ∈ M.rooms.map (·.1) ∧ guardOk ["<", "<=", ">", ">=", "="] M.watches d.looks = true ∧ (∀ b ∈ d.backs, b ∈ M.watches) ∧ d.backs.Nodup ∧ d.backs.length ≤ 7 := by
  have := List.all_eq_true.mp h.dok d hd
  unfold doorOk at this
  rw [Bool.and_eq_true, Bool.and_eq_true, Bool.and_eq_true, Bool.and_eq_true, Bool.and_eq_true, List.all_eq_true] at this
  obtain ⟨⟨⟨⟨⟨a, b⟩, c⟩, d'⟩, e⟩, f⟩ := this
  have e' : ∀ b ∈ d.backs, b ∈ M.watches := fun b hb => of_decide_eq_true (e b hb)
  have n := of_decide_eq_true f
  exact ⟨a, of_decide_eq_true b, of_decide_eq_true c, d', e', n, Nat.le_trans (nodup_len n e') h.w7⟩
end
/-! ### heaps that differ at a new instance alone -/
def OffI (p : Addr) (H H' : Hp) : Prop := (∃ C dx fs, H p = some (.ins C dx fs)) ∧ ∀ b o, H b = some o → b ≠ p → H' b = some o
def OffN (p : Addr) (H H' : Hp) : Prop := (∃ C dx, H p = some (.ins C dx [])) ∧ ∀ b o, H b = some o → b ≠ p → H' b = some o
section
variable {p : Addr} {H H' : Hp}
theorem OffN.i (h : OffN p H H') : OffI p H H' := by
  obtain ⟨⟨C, dx, hp⟩, k⟩ := h
  exact ⟨⟨C, dx, _, hp⟩, k⟩
theorem OffI.lst (h : OffI p H H') {q : Addr} {xs : List V} (e : H q = some (.lst xs)) : H' q = some (.lst xs) := by
  obtain ⟨⟨C, dx, fs, hp⟩, k⟩ := h
  exact k _ _ e (ne_of e hp (by intro z; cases z))
theorem OffI.tup (h : OffI p H H') {q : Addr} {xs : List V} (e : H q = some (.tup xs)) : H' q = some (.tup xs) := by
  obtain ⟨⟨C, dx, fs, hp⟩, k⟩ := h
  exact k _ _ e (ne_of e hp (by intro z; cases z))
theorem OffI.seq {α : Type} {R : Hp → Addr → α → Prop} (h : OffI p H H') (k : ∀ q x, R H q x → R H' q x) {q : Addr} {xs : List α} (v : SeqOf R H q xs) : SeqOf R H' q xs := by
  obtain ⟨qs, a, b, c⟩ := v
  exact ⟨qs, h.lst a, b, fun i q x h1 h2 => k q x (c i q x h1 h2)⟩
theorem OffI.ls (h : OffI p H H') {q : Addr} {ls : List Lq} (v : LsAt H q ls) : LsAt H' q ls := h.seq (fun _ _ z => ⟨h.tup z.1, z.2⟩) v
theorem OffI.rs (h : OffI p H H') {q : Addr} {rs : List Rq} (v : RsAt H q rs) : RsAt H' q rs := h.seq (fun _ _ ⟨g, a, b⟩ => ⟨g, h.tup a, h.ls b⟩) v
theorem OffN.door (h : OffN p H H') {C q : Addr} {d : DoorD} (v : DoorAt C H q d) : DoorAt C H' q d := by
  obtain ⟨dx, g, n, a, b, c⟩ := v
  refine ⟨dx, g, n, h.2 _ _ a (fun z => ?_), h.i.ls b, h.i.lst c⟩
  obtain ⟨⟨C', dx', hp⟩, _⟩ := h
  rw [z, hp] at a
  have l := door_start (st := d.st) (en := d.en) (sg := d.sg) (g := g) (n := n)
  have e : ([] : List (Str × V)) = doorF d.st d.en d.sg g n := by injection a with a; injection a
  rw [← e] at l
  cases l
theorem OffN.ds (h : OffN p H H') {C q : Addr} {ds : List DoorD} (v : DsAt C H q ds) : DsAt C H' q ds := h.i.seq (fun _ _ z => h.door z) v
end
theorem refs_inj {xs ys : List Addr} (h : xs.map V.ref = ys.map V.ref) : xs = ys := (List.map_inj_right (f := V.ref) (fun a b e => by cases e; rfl)).mp h
theorem lst_inj {H : Hp} {p : Addr} {xs ys : List Addr} (h : H p = some (.lst (xs.map V.ref))) (k : H p = some (.lst (ys.map V.ref))) : xs = ys := refs_inj (by rw [h] at k; simpa using k)
theorem machF_inj {wn rn sl dl wn' rn' sl' dl' : Addr} (h : machF wn rn sl dl = machF wn' rn' sl' dl') : wn = wn' ∧ rn = rn' ∧ sl = sl' ∧ dl = dl' := by
  have a := mach_watch (wn := wn) (rn := rn) (sl := sl) (dl := dl)
  have b := mach_room (wn := wn) (rn := rn) (sl := sl) (dl := dl)
  have c := mach_stay (wn := wn) (rn := rn) (sl := sl) (dl := dl)
  have d := mach_door (wn := wn) (rn := rn) (sl := sl) (dl := dl)
  rw [h, mach_watch] at a; rw [h, mach_room] at b; rw [h, mach_stay] at c; rw [h, mach_door] at d
  simp only [Option.some.injEq, V.ref.injEq] at a b c d
  exact ⟨a.symm, b.symm, c.symm, d.symm⟩
/-! ### heaps without some lists -/
open Classical in
noncomputable def remU (U : Addr → Prop) (H : Hp) : Hp := fun b => if U b then none else H b
theorem rem_at {U : Addr → Prop} {H : Hp} {b : Addr} {o : HO} (n : ¬ U b) (e : H b = some o) : remU U H b = some o := by unfold remU; rw [if_neg n]; exact e
theorem rem_of {U : Addr → Prop} {H : Hp} {b : Addr} {o : HO} (e : remU U H b = some o) : ¬ U b ∧ H b = some o := by
  unfold remU at e
  by_cases h : U b
  · rw [if_pos h] at e; cases e
  · rw [if_neg h] at e; exact ⟨h, e⟩
theorem rem_sub {U : Addr → Prop} {H : Hp} : Same (remU U H) H := fun b o e => (rem_of e).2
theorem rem_same {U : Addr → Prop} {H H' : Hp} (s : Same H H') : Same (remU U H) (remU U H') := fun b o e => rem_at (rem_of e).1 (s _ _ (rem_of e).2)
/-- U holds lists of H alone -/
def ListsU (U : Addr → Prop) (H : Hp) : Prop := ∀ b, U b → ∃ xs, H b = some (.lst xs)
theorem ListsU.tup {U : Addr → Prop} {H H' : Hp} (u : ListsU U H) (s : ∀ b xs, H b = some (.lst xs) → H' b = some (.lst xs)) {q : Addr} {ys : List V} (e : H' q = some (.tup ys)) : ¬ U q := fun h => by
  obtain ⟨xs, hx⟩ := u q h
  have := s q xs hx
  rw [e] at this; cases this
theorem LsAt.rem {U : Addr → Prop} {H H' : Hp} (u : ListsU U H) (s : ∀ b xs, H b = some (.lst xs) → H' b = some (.lst xs)) {q : Addr} {ls : List Lq} (h : LsAt H' q ls) (n : ¬ U q) : LsAt (remU U H') q ls := by
  obtain ⟨qs, a, b, c⟩ := h
  exact ⟨qs, rem_at n a, b, fun i q x h1 h2 => ⟨rem_at (u.tup s (c i q x h1 h2).1) (c i q x h1 h2).1, (c i q x h1 h2).2⟩⟩
/-! ### drawn names -/
def lett (i : Int) : Nat := letters.cps.toList.getD i.toNat 0
def idx26 (i : Int) : Prop := 0 ≤ i ∧ i < 26
theorem letters_len : letters.cps.toList.length = 26 := by decide +kernel
theorem lett_get {i : Int} (h : 0 ≤ i ∧ i < 26) : letters.cps.toList[i.toNat]? = some (lett i) := by
  have h1 : i.toNat < letters.cps.toList.length := by rw [letters_len]; omega
  unfold lett
  rw [List.getD_eq_getElem?_getD, List.getElem?_eq_getElem h1]; rfl
theorem lett_at {i : Int} (h : 0 ≤ i ∧ i < 26) : atI letters.cps.toList i = some (lett i) := by
  have := atI_nat (lett_get h)
  rwa [Int.toNat_of_nonneg h.1] at this
theorem lett_mem {i : Int} (h : 0 ≤ i ∧ i < 26) : lett i ∈ letters.cps.toList := List.mem_of_getElem? (lett_get h)
theorem lett_inj : ∀ i j : Fin 26, lett (i.val : Int) = lett (j.val : Int) → i = j := by decide +kernel
theorem lett_inj' {i j : Int} (hi : 0 ≤ i ∧ i < 26) (hj : 0 ≤ j ∧ j < 26) (h : lett i = lett j) : i = j := by
  have := lett_inj ⟨i.toNat, by omega⟩ ⟨j.toNat, by omega⟩ (by
    show lett ((i.toNat : Nat) : Int) = lett ((j.toNat : Nat) : Int)
    rw [Int.toNat_of_nonneg hi.1, Int.toNat_of_nonneg hj.1]; exact h)
  have : i.toNat = j.toNat := by simpa using congrArg Fin.val this
  omega
def one (c : Nat) : Str := ⟨#[c]⟩
def txt (cs : List Nat) : Str := ⟨cs.toArray⟩
theorem join_one (cs : List Nat) : Txt.join ("" : Str) (cs.map one) = txt cs := by
  have key : ∀ (cs : List Nat) (acc : Array Nat), (cs.map one).foldl (fun acc p => acc ++ ("" : Str).cps ++ p.cps) acc = acc ++ cs.toArray := by
    intro cs
    induction cs with
    | nil => intro acc; simp
    | cons c cs ih =>
      intro acc
      rw [List.map_cons, List.foldl_cons, ih]
      have e : ("" : Str).cps = #[] := by decide +kernel
      rw [e]
      unfold one
      simp
  cases cs with
  | nil => decide +kernel
  | cons c cs =>
    show (⟨(((c :: cs).map one).drop 1).foldl (fun acc p => acc ++ ("" : Str).cps ++ p.cps) (((c :: cs).map one).headD Str.empty).cps⟩ : Str) = _
    rw [List.map_cons, List.drop_succ_cons, List.drop_zero, key]
    unfold txt one
    simp
theorem txt_inj {a b : List Nat} (h : txt a = txt b) : a = b := by
  unfold txt at h
  have := congrArg (fun s : Str => s.cps.toList) h
  simpa using this
/-- the letters of a drawn name -/
def nmL (size : Nat) (f : Nat → Int) : List Nat := (List.range size).map fun j => lett (f j)
theorem nm_ok {size : Nat} {cs : List Nat} (hl : cs.length = size) (h1 : 1 ≤ size) (h8 : size ≤ 8) (hc : ∀ c ∈ cs, c ∈ letters.cps.toList) : okName (txt cs) = true := by
  have e : (txt cs).length = size := by unfold txt Str.length; simpa using hl
  unfold okName okT
  rw [e, decide_eq_true (by omega), decide_eq_true (by omega)]
  simp only [Bool.true_and]
  rw [List.all_eq_true]
  intro c h
  exact decide_eq_true (hc c (by unfold txt at h; simpa using h))
/-- names drawn: what is told of them -/
def NamesOk (xs : List Str) (many : Nat) : Prop := xs.length = many ∧ (∀ x ∈ xs, okName x = true) ∧ xs.Nodup ∧ ∃ n, ∀ x ∈ xs, x.length = n
/-- the letters of the k-th name -/
def nmC (size at' : Nat) (f : Nat → Int) (g : Int) : List Nat := ((List.range size).map fun j => lett (f j)).set at' (lett g)
theorem nmC_len {size at' : Nat} {f : Nat → Int} {g : Int} : (nmC size at' f g).length = size := by unfold nmC; simp
theorem nmC_ok {size at' : Nat} {f : Nat → Int} {g : Int} (h1 : 1 ≤ size) (h8 : size ≤ 8) (hf : ∀ j, 0 ≤ f j ∧ f j < 26) (hg : 0 ≤ g ∧ g < 26) : okName (txt (nmC size at' f g)) = true := by
  refine nm_ok nmC_len h1 h8 fun c hc => ?_
  unfold nmC at hc
  rcases List.mem_or_eq_of_mem_set hc with h | h
  · obtain ⟨j, _, rfl⟩ := List.mem_map.mp h
    exact lett_mem (hf j)
  · rw [h]; exact lett_mem hg
theorem nmC_inj {size at' : Nat} {f : Nat → Int} {g g' : Int} (ha : at' < size) (hg : 0 ≤ g ∧ g < 26) (hg' : 0 ≤ g' ∧ g' < 26) (h : txt (nmC size at' f g) = txt (nmC size at' f g')) : g = g' := by
  have e := congrArg (fun l : List Nat => l[at']?) (txt_inj h)
  unfold nmC at e
  simp only [List.getElem?_set_self', List.getElem?_map] at e
  rw [List.getElem?_range ha] at e
  exact lett_inj' hg hg' (by simpa using e)
theorem names_ok {size at' : Nat} {f : Nat → Int} {c : Int} {many : Nat} (h1 : 1 ≤ size) (h8 : size ≤ 8) (ha : at' < size) (hm : many ≤ 26) (hf : ∀ j, 0 ≤ f j ∧ f j < 26) : NamesOk ((List.range many).map fun k : Nat => txt (nmC size at' f ((c + (k : Int)).fmod 26))) many := by
  have fm : ∀ k : Nat, 0 ≤ (c + (k : Int)).fmod 26 ∧ (c + (k : Int)).fmod 26 < 26 := fun k => fm_pos (by decide)
  refine ⟨by simp, fun x hx => ?_, ?_, size, fun x hx => ?_⟩
  · obtain ⟨k, _, rfl⟩ := List.mem_map.mp hx
    exact nmC_ok h1 h8 hf (fm k)
  · unfold List.Nodup
    rw [List.pairwise_map]
    refine List.Pairwise.imp_of_mem (fun {a b} ha' hb' hne he => hne ?_) List.nodup_range
    have := nmC_inj ha (fm a) (fm b) he
    rw [List.mem_range] at ha' hb'
    rw [Int.fmod_eq_emod_of_nonneg _ (by decide), Int.fmod_eq_emod_of_nonneg _ (by decide)] at this
    omega
  · obtain ⟨k, _, rfl⟩ := List.mem_map.mp hx
    unfold txt Str.length
    simp [nmC_len]
theorem sum_one (cs : List Nat) : ((cs.map one).map (·.length)).sum = cs.length := by
  induction cs with
  | nil => rfl
  | cons c cs ih =>
    rw [List.map_cons, List.map_cons, List.sum_cons, ih, List.length_cons]
    show 1 + cs.length = _
    omega
theorem nmC_vals {size at' : Nat} {f : Nat → Int} {g : Int} : ((List.range size).map fun j => V.str (one (lett (f j)))).set at' (V.str (one (lett g))) = ((nmC size at' f g).map one).map V.str := by
  unfold nmC
  rw [List.map_set, List.map_set, List.map_map, List.map_map]
  rfl
/-! ### names by sums -/
theorem txt_snoc (cs : List Nat) (c : Nat) : txt cs ++ one c = txt (cs ++ [c]) := by
  show (⟨cs.toArray ++ #[c]⟩ : Str) = ⟨(cs ++ [c]).toArray⟩
  simp

def nmI (b st : Int) (at' k : Nat) (j : Nat) : Nat := lett ((b + (j : Int) * st + (k : Int) * (if j = at' then 1 else 0)).fmod 26)
def nm2 (b st : Int) (size at' k : Nat) : List Nat := (List.range size).map (nmI b st at' k)
theorem names2_ok {b st : Int} {size at' many : Nat} (h1 : 1 ≤ size) (h8 : size ≤ 8) (ha : at' < size) (hm : many ≤ 26) : NamesOk ((List.range many).map fun k => txt (nm2 b st size at' k)) many := by
  have len : ∀ k, (nm2 b st size at' k).length = size := fun k => by unfold nm2; simp
  refine ⟨by simp, fun x hx => ?_, ?_, size, fun x hx => ?_⟩
  · obtain ⟨k, _, rfl⟩ := List.mem_map.mp hx
    refine nm_ok (len k) h1 h8 fun c hc => ?_
    unfold nm2 at hc
    obtain ⟨j, _, rfl⟩ := List.mem_map.mp hc
    exact lett_mem (fm_pos (by decide))
  · unfold List.Nodup
    rw [List.pairwise_map]
    refine List.Pairwise.imp_of_mem (fun {x y} hx hy hne he => hne ?_) List.nodup_range
    have e := congrArg (fun l : List Nat => l[at']?) (txt_inj he)
    unfold nm2 at e
    simp only [List.getElem?_map] at e
    rw [List.getElem?_range ha] at e
    have e2 : nmI b st at' x at' = nmI b st at' y at' := by simpa using e
    unfold nmI at e2
    rw [if_pos rfl] at e2
    have e3 := lett_inj' (fm_pos (by decide)) (fm_pos (by decide)) e2
    rw [Int.fmod_eq_emod_of_nonneg _ (by decide), Int.fmod_eq_emod_of_nonneg _ (by decide)] at e3
    rw [List.mem_range] at hx hy
    omega
  · obtain ⟨k, _, rfl⟩ := List.mem_map.mp hx
    unfold txt Str.length
    simp [len]
def spNames : Sp := fun vs H Q _ => ∃ (cell : Int) (many : Nat), vs = [.int cell, .int many] ∧ many ≤ 26 ∧ ∀ (p : Addr) (H' : Hp) (xs : List Str), Same H H' → H p = none → H' p = some (.lst (xs.map V.str)) → NamesOk xs many → Q (.ref p) H'
theorem cutTo {xs : List V} {k : Nat} (h : k ≤ xs.length) : cutV xs none (some (k : Int)) = xs.take k := by
  unfold cutV
  rw [HT.sIx_none, HT.sIx_nat, Nat.min_eq_left h]; rfl
theorem cutInts {cs : List Int} {a b : Nat} (h : a ≤ b) : ∃ ds : List Int, cutV (cs.map V.int) (some (a : Int)) (some (b : Int)) = ds.map V.int ∧ ds.length ≤ b - a := by
  refine ⟨(cs.drop (min a cs.length)).take (min b cs.length - min a cs.length), ?_, ?_⟩
  · unfold cutV
    rw [HT.sIx_nat, HT.sIx_nat, List.length_map, List.map_take, List.map_drop]
  · rw [List.length_take]; omega
section
variable {P : Program} {w : World} {K : PySem.W.Frag} {mg : Str → Option Value} {base : Heap}
def spOfSigns : Sp := fun vs H Q _ => ∃ (x signs : Str) (most : Int), vs = [.str x, .str signs, .int most] ∧ x.length ≤ 1000 ∧ Q (.bl (okT x signs most)) H
theorem ok_of_signs (T : Top K mg) : FnOk P w K mg base CX0 1 T.f_of_signs T.d_of_signs ["thing", "signs", "most"] spOfSigns := by
  refine T.F_of_signs.ok sc_of_signs (fun vs H Q E h => ?_) (fun cdv A outer s H vs Q E hr h => ?_)
  · obtain ⟨x, signs, most, rfl, _⟩ := h; rfl
  · obtain ⟨x, signs, most, rfl, hl, q⟩ := h
    refine ⟨_, (pss_cons (ps_if (PW.pt (pw_or (pt_not (pt_val (pe_callB (call_isiA (K := K) rfl) (by rfl) T.m_isinstance (by decide +kernel) (pa_cons (pv 0) (pa_cons (pe_bltn (v := .ty "str") (u := .type "str") (by rfl) T.m_str (by decide +kernel) rfl) pa_nil))))) (pw_or1 (pt_not (pt_chain op_le op_le pe_int (pe_callB call_len_str (by rfl) T.m_len (by decide +kernel) (pa_cons (pv 0) pa_nil)) (pv 2)))))) (pss_one (ps_ret pe_bl)) pss_nil)
      (pss_cons (ps_for PassesOwn.never rfl (pi_str (pv 0)) (pg_name (i := 3) sc_of_signs.nd rfl (.inl rfl)) (pss_one (ps_if (pt_cmpR op_notIn_sign (pv 3) (pv 1) (by rfl)) (pss_one (ps_ret pe_bl)) pss_nil)))
      (pss_one (ps_ret pe_bl)))), ?_⟩
    refine seq_step ?_
    walk_at "rd"
    refine isi (r := true) (.base (.str _)) (by decide +kernel) ?_
    walk_at "rt"
    refine ⟨small1000' hl, ?_⟩
    unfold okT at q
    refine ite_d (fun h1 => ?_) (fun h1 => ?_)
    · rw [decide_eq_true h1] at q
      by_cases h2 : (x.length : Int) ≤ most
      · rw [decide_eq_true h2] at q ⊢
        walk_at "rd"
        refine seq_step ?_
        refine tFor_str ?_ (fun Q R k h => ?_)
        · walk_at "rt"
          refine ⟨fun i σ' H' => (∃ v3, σ' = [some (.str x), some (.str signs), some (.int most), v3]) ∧ H' = H ∧ (x.cps.toList.take i).all (fun c => decide (c ∈ signs.cps.toList)) = true, ⟨⟨_, rfl⟩, rfl, rfl⟩, ?_, ?_⟩
          · rintro i σ' H' c hc ⟨⟨v3, rfl⟩, rfl, ha⟩
            walk_at "rt"
            refine ⟨c, rfl, ?_⟩
            by_cases m : c ∈ signs.cps.toList
            · refine if_f (by rw [decide_eq_true m]; rfl) ?_
              rw [List.take_add_one, hc, List.all_append, ha]
              simpa using m
            · refine if_t (by rw [decide_eq_false m]; rfl) ?_
              have : (x.cps.toList.all fun c => decide (c ∈ signs.cps.toList)) = false := by
                rw [List.all_eq_false]
                exact ⟨c, List.mem_of_getElem? hc, by simp [m]⟩
              rw [this] at q
              exact q
          · rintro σ' H' ⟨⟨v3, rfl⟩, rfl, ha⟩
            walk_at "rd"
            rw [List.take_length] at ha
            rw [ha] at q
            exact q
        · exact ⟨_, rfl, by obtain ⟨v, h1, h2⟩ := h; cases h1; exact k _ _ h2⟩
      · rw [decide_eq_false h2] at q ⊢
        walk_at "rd"
        exact q
    · rw [decide_eq_false h1] at q
      exact q
def spName : Sp := fun vs H Q _ => ∃ x : Str, vs = [.str x] ∧ x.length ≤ 1000 ∧ Q (.bl (okName x)) H
theorem ok_is_name (T : Top K mg) : FnOk P w K mg base CX0 2 T.f_is_name T.d_is_name ["thing"] spName := by
  refine T.F_is_name.ok sc_is_name (fun vs H Q E h => ?_) (fun cdv A outer s H vs Q E hr h => ?_)
  · obtain ⟨x, rfl, _⟩ := h; rfl
  · obtain ⟨x, rfl, hl, q⟩ := h
    refine ⟨_, (pss_one (ps_ret (pe_call (ok_of_signs T) (hr.mono (by decide)) rfl T.g_of_signs T.F_of_signs.kp T.b_of_signs .nil pass0 (pa_cons (pv 0) (pa_cons (pe_glob (v := .str "abcdefghijklmnopqrstuvwxyz") rfl T.g_LETTERS ⟨_, rfl⟩) (pa_cons pe_int pa_nil)))))), ?_⟩
    walk_at "rd"
    exact ⟨x, letters, 8, rfl, hl, q⟩
def spWName : Sp := fun vs H Q _ => ∃ x : Str, vs = [.str x] ∧ x.length ≤ 1000 ∧ Q (.bl (okWatch x)) H
theorem ok_is_watch_name (T : Top K mg) : FnOk P w K mg base CX0 3 T.f_is_watch_name T.d_is_watch_name ["thing"] spWName := by
  refine T.F_is_watch_name.ok sc_is_watch_name (fun vs H Q E h => ?_) (fun cdv A outer s H vs Q E hr h => ?_)
  · obtain ⟨x, rfl, _⟩ := h; rfl
  · obtain ⟨x, rfl, hl, q⟩ := h
    refine ⟨_, (pss_one (ps_ret (pe_or (pe_cmpR op_eq (pv 0) pe_str (nomark _)) (pe_one (pe_call (ok_is_name T) (hr.mono (by decide)) rfl T.g_is_name T.F_is_name.kp T.b_is_name .nil pass0 (pa_cons (pv 0) pa_nil)))))), ?_⟩
    walk_at "rt"
    unfold okWatch at q
    refine ite_d (fun h => ?_) (fun h => ?_)
    · rw [decide_eq_true (show x = ("/" : Str) from h)] at q
      exact q
    · rw [decide_eq_false (show ¬ x = ("/" : Str) from h)] at q
      exact ⟨x, rfl, hl, q⟩
theorem str_nil {x : Str} (h : x.cps.toList = []) : x = ("" : Str) := by
  cases x with
  | mk cps =>
    have : cps = #[] := Array.toList_eq_nil_iff.mp h
    rw [this]; rfl
def spSign : Sp := fun vs H Q _ => ∃ x : Str, vs = [.str x] ∧ x.length ≤ 1000 ∧ Q (.bl (okSign x)) H
theorem ok_is_sign (T : Top K mg) : FnOk P w K mg base CX0 3 T.f_is_sign T.d_is_sign ["thing"] spSign := by
  refine T.F_is_sign.ok sc_is_sign (fun vs H Q E h => ?_) (fun cdv A outer s H vs Q E hr h => ?_)
  · obtain ⟨x, rfl, _⟩ := h; rfl
  · obtain ⟨x, rfl, hl, q⟩ := h
    refine ⟨_, (pss_cons (ps_if (pt_not (pt_val (pe_callB (call_isiA (K := K) rfl) (by rfl) T.m_isinstance (by decide +kernel) (pa_cons (pv 0) (pa_cons (pe_bltn (v := .ty "str") (u := .type "str") (by rfl) T.m_str (by decide +kernel) rfl) pa_nil))))) (pss_one (ps_ret pe_bl)) pss_nil)
      (pss_one (ps_ret (pe_or (pe_cmpR op_eq (pv 0) pe_str (nomark _)) (pe_one (pe_and (pe_cmpR op_in_sign (pe_ix ix_str (pv 0) (pe_un un_neg pe_int) (fun _ _ => rfl)) pe_str (by rfl)) (pe_one (pe_call (ok_is_name T) (hr.mono (by decide)) rfl T.g_is_name T.F_is_name.kp T.b_is_name .nil pass0 (pa_cons (pe_slice sl_str (pv 0) po_none (po_some (pe_un un_neg pe_int))) pa_nil))))))))), ?_⟩
    refine seq_step ?_
    walk_at "rt"
    refine isi (r := true) (.base (.str _)) (by decide +kernel) ?_
    walk_at "rt"
    unfold okSign at q
    refine ite_d (fun h => ?_) (fun h => ?_)
    · rw [decide_eq_true (show x = ("" : Str) from h)] at q
      exact q
    · rw [decide_eq_false (show ¬ x = ("" : Str) from h)] at q
      have n0 : x.cps.toList ≠ [] := fun z => h (str_nil z)
      have hp : 0 < x.cps.toList.length := List.length_pos_iff.mpr n0
      have hlast : x.cps.toList.getLast? = some (x.cps.toList[x.cps.toList.length - 1]'(by omega)) := by
        rw [List.getLast?_eq_getElem?, List.getElem?_eq_getElem (by omega)]
      rw [hlast] at q
      refine ⟨x, -1, _, rfl, rfl, small1000' hl, (by
        unfold atI ixN
        rw [if_neg (by decide), if_pos (by omega), show ((-1 : Int) + (x.cps.toList.length : Int)).toNat = x.cps.toList.length - 1 by omega]
        exact List.getElem?_eq_getElem (by omega)), ?_⟩
      generalize x.cps.toList[x.cps.toList.length - 1] = c at *
      walk_at "rt"
      refine ⟨c, rfl, ?_⟩
      replace q : Q (.bl (false || (decide (c ∈ ("!?" : Str).cps.toList) && okName (cutS x none (some (-1)))))) H := q
      refine ite_d (fun m => ?_) (fun m => ?_)
      · rw [decide_eq_true (show c ∈ ("!?" : Str).cps.toList from m)] at q
        refine ⟨x, rfl, small1000' hl, ?_⟩
        refine ⟨_, rfl, ?_, q⟩
        unfold cutS Str.length
        simp only [List.size_toArray, List.length_take, List.length_drop]
        unfold Str.length at hl
        rw [Array.length_toList]
        omega
      · rw [decide_eq_false (show ¬ c ∈ ("!?" : Str).cps.toList from m)] at q
        exact q
theorem ok_is_whole (T : Top K mg) : FnOk P w K mg base CX0 1 T.f_is_whole T.d_is_whole ["thing"] (spWhole K) := by
  refine T.F_is_whole.ok sc_is_whole (fun vs H Q E h => ?_) (fun cdv A outer s H vs Q E hr h => ?_)
  · obtain ⟨x, t, rfl, _⟩ := h; rfl
  · obtain ⟨x, t, rfl, hx, ht, q⟩ := h
    refine ⟨_, (pss_one (ps_ret (pe_and (pe_callB (call_isiA (K := K) rfl) (by rfl) T.m_isinstance (by decide +kernel) (pa_cons (pv 0) (pa_cons (pe_bltn (v := .ty "int") (u := .type "int") (by rfl) T.m_int (by decide +kernel) rfl) pa_nil))) (pe_one (pe_not (pe_callB (call_isiA (K := K) rfl) (by rfl) T.m_isinstance (by decide +kernel) (pa_cons (pv 0) (pa_cons (pe_bltn (v := .ty "bool") (u := .type "bool") (by rfl) T.m_bool (by decide +kernel) rfl) pa_nil)))))))), ?_⟩
    walk_at "rd"
    have k1 : ∃ r, kitB t "int" = some r ∧ ∃ r2, kitB t "bool" = some r2 ∧ (decide (t = "int")) = (r && !r2) := by
      simp only [kinds, List.mem_cons, List.not_mem_nil, or_false] at ht
      rcases ht with rfl | rfl | rfl | rfl | rfl | rfl | rfl
      · exact ⟨true, by decide +kernel, false, by decide +kernel, by decide +kernel⟩
      · exact ⟨true, by decide +kernel, true, by decide +kernel, by decide +kernel⟩
      · exact ⟨false, by decide +kernel, false, by decide +kernel, by decide +kernel⟩
      · exact ⟨false, by decide +kernel, false, by decide +kernel, by decide +kernel⟩
      · exact ⟨false, by decide +kernel, false, by decide +kernel, by decide +kernel⟩
      · exact ⟨false, by decide +kernel, false, by decide +kernel, by decide +kernel⟩
      · exact ⟨false, by decide +kernel, false, by decide +kernel, by decide +kernel⟩
    obtain ⟨r, e1, r2, e2, e3⟩ := k1
    refine isi hx e1 ?_
    rw [e3] at q
    walk_at "rd"
    cases r with
    | false => exact q
    | true =>
      walk_at "rd"
      refine isi hx e2 ?_
      walk_at "rd"
      exact q
/-- words and watches: a list or tuple of texts -/
def TxS (K : PySem.W.Frag) (H : Hp) (p : Addr) (ws : List Str) : Prop := SqL K H p (ws.map V.str) ∨ SqT K H p (ws.map V.str)
theorem TxS.keep {K : PySem.W.Frag} {H H' : Hp} {p : Addr} {ws : List Str} (s : Same H H') (h : TxS K H p ws) : TxS K H' p ws := by
  rcases h with h | h
  · exact .inl (s.seq h)
  · refine .inr ?_
    rcases h with h | h
    · rcases h with h | ⟨o, h⟩
      · exact .inl (.inl (s _ _ h))
      · exact .inl (.inr ⟨o, s _ _ h⟩)
    · exact .inr h
theorem kit_no {t u : String} (h : t ∈ kinds) (n : t ≠ u) (hu : u = "tuple" ∨ u = "list" ∨ u = "str") : kitB t u = some false := by
  simp only [kinds, List.mem_cons, List.not_mem_nil, or_false] at h
  rcases hu with rfl | rfl | rfl <;> rcases h with rfl | rfl | rfl | rfl | rfl | rfl | rfl <;> first | exact absurd rfl n | decide +kernel
/-- what is none of a look, by its kind -/
inductive NoLook (K : PySem.W.Frag) (H : Hp) : V → Prop where
  | kind {x : V} {t : String} (h : TyX K H x (.type t)) (k : t ∈ kinds) (n : t ≠ "tuple") : NoLook K H x
  | len {q : Addr} {xs : List V} (h : H q = some (.tup xs)) (n : xs.length ≠ 3) : NoLook K H (.ref q)
  | first {q : Addr} {a b c : V} {t : String} (h : H q = some (.tup [a, b, c])) (ha : TyX K H a (.type t)) (k : t ∈ kinds) (n : t ≠ "str") : NoLook K H (.ref q)
  | second {q : Addr} {s : Str} {b c : V} {t : String} (h : H q = some (.tup [.str s, b, c])) (hb : TyX K H b (.type t)) (k : t ∈ kinds) (n : t ≠ "str") : NoLook K H (.ref q)
theorem NoLook.keep {K : PySem.W.Frag} {H H' : Hp} {x : V} (s : Same H H') (h : NoLook K H x) : NoLook K H' x := by
  cases h with
  | kind h k n => exact .kind (tyx_same s h) k n
  | len h n => exact .len (s _ _ h) n
  | first h ha k n => exact .first (s _ _ h) (tyx_same s ha) k n
  | second h hb k n => exact .second (s _ _ h) (tyx_same s hb) k n
def spLook (K : PySem.W.Frag) : Sp := fun vs H Q _ => (∃ (p pw ps : Addr) (l : Lq) (ws watches : List Str), vs = [.ref p, .ref pw, .ref ps] ∧ LqAt H p l ∧ TxS K H pw ws ∧ TxS K H ps watches ∧ Q (.bl (lookOk ws watches l)) H) ∨
  (∃ (x : V) (pw ps : Addr) (ws watches : List Str), vs = [x, .ref pw, .ref ps] ∧ NoLook K H x ∧ TxS K H pw ws ∧ TxS K H ps watches ∧ Q (.bl false) H)
theorem ok_is_look (T : Top K mg) : FnOk P w K mg base CX0 2 T.f_is_look T.d_is_look ["thing", "words", "watches"] (spLook K) := by
  refine T.F_is_look.ok sc_is_look (fun vs H Q E h => ?_) (fun cdv A outer s H vs Q E hr h => ?_)
  · rcases h with ⟨p, pw, ps, l, ws, watches, rfl, _⟩ | ⟨x, pw, ps, ws, watches, rfl, _⟩ <;> rfl
  · refine ⟨_, (pss_cons (ps_if (PW.pt (pw_or (pt_not (pt_val (pe_callB (call_isiA (K := K) rfl) (by rfl) T.m_isinstance (by decide +kernel) (pa_cons (pv 0) (pa_cons (pe_bltn (v := .ty "tuple") (u := .type "tuple") (by rfl) T.m_tuple (by decide +kernel) rfl) pa_nil))))) (pw_or1 (pt_cmpR op_ne (pe_callB call_len_seq (by rfl) T.m_len (by decide +kernel) (pa_cons (pv 0) pa_nil)) pe_int (nomark _))))) (pss_one (ps_ret pe_bl)) pss_nil)
      (pss_cons (ps_if (PW.pt (pw_or (pt_not (pt_val (pe_callB (call_isiA (K := K) rfl) (by rfl) T.m_isinstance (by decide +kernel) (pa_cons (pe_ix (ix_tupA (K := K) rfl) (pv 0) pe_int (fun _ _ => rfl)) (pa_cons (pe_bltn (v := .ty "str") (u := .type "str") (by rfl) T.m_str (by decide +kernel) rfl) pa_nil))))) (pw_or1 (pt_cmpR (op_notIn_seqA (K := K) rfl) (pe_ix (ix_tupA (K := K) rfl) (pv 0) pe_int (fun _ _ => rfl)) (pv 2) (by rfl))))) (pss_one (ps_ret pe_bl)) pss_nil)
      (pss_cons (ps_if (PW.pt (pw_or (pt_not (pt_val (pe_callB (call_isiA (K := K) rfl) (by rfl) T.m_isinstance (by decide +kernel) (pa_cons (pe_ix (ix_tupA (K := K) rfl) (pv 0) pe_int (fun _ _ => rfl)) (pa_cons (pe_bltn (v := .ty "str") (u := .type "str") (by rfl) T.m_str (by decide +kernel) rfl) pa_nil))))) (pw_or1 (pt_cmpR (op_notIn_seqA (K := K) rfl) (pe_ix (ix_tupA (K := K) rfl) (pv 0) pe_int (fun _ _ => rfl)) (pv 1) (by rfl))))) (pss_one (ps_ret pe_bl)) pss_nil)
      (pss_one (ps_ret (pe_and (pe_call (ok_is_whole T) (hr.mono (by decide)) rfl T.g_is_whole T.F_is_whole.kp T.b_is_whole .nil pass0 (pa_cons (pe_ix (ix_tupA (K := K) rfl) (pv 0) pe_int (fun _ _ => rfl)) pa_nil)) (pe_one (pe_cmpR op_ge (pe_ix (ix_tupA (K := K) rfl) (pv 0) pe_int (fun _ _ => rfl)) pe_int (nomark _))))))))), ?_⟩
    rcases h with ⟨p, pw, ps, ⟨a, wd, v⟩, ws, watches, rfl, ⟨e, hk⟩, hw, hs, q⟩ | ⟨x, pw, ps, ws, watches, rfl, hn, hw, hs, q⟩
    rotate_left
    · refine seq_step ?_
      walk_at "rt"
      cases hn with
      | kind h k n =>
        refine isi (r := false) h (kit_no k n (.inl rfl)) ?_
        walk_at "rt"
        exact q
      | len h n =>
        refine isi (r := true) (.base (.tup h)) (by decide +kernel) ?_
        walk_at "rt"
        refine ⟨_, .inr (sqt h), ?_⟩
        refine if_t ?_ q
        rw [decide_eq_false (by omega)]; rfl
      | first h ha k n =>
        refine isi (r := true) (.base (.tup h)) (by decide +kernel) ?_
        walk_at "rt"
        refine ⟨_, .inr (sqt h), ?_⟩
        walk_at "rt"
        refine seq_step ?_
        walk_at "rt"
        refine ix_t (sqt h) (by decide) rfl ?_
        walk_at "rt"
        refine isi (r := false) ha (kit_no k n (.inr (.inr rfl))) ?_
        walk_at "rt"
        exact q
      | @second p a b c t h hb k n =>
        refine isi (r := true) (.base (.tup h)) (by decide +kernel) ?_
        walk_at "rt"
        refine ⟨_, .inr (sqt h), ?_⟩
        walk_at "rt"
        refine seq_step ?_
        walk_at "rt"
        refine ix_t (sqt h) (by decide) rfl ?_
        walk_at "rt"
        refine isi (r := true) (.base (.str _)) (by decide +kernel) ?_
        walk_at "rt"
        refine ix_t (sqt h) (by decide) rfl ?_
        walk_at "rt"
        refine ⟨ps, _, rfl, hs, rfl, flat_of, ?_⟩
        rw [inV_str]
        by_cases m : a ∈ watches
        · rw [decide_eq_true m]
          walk_at "rt"
          refine seq_step ?_
          walk_at "rt"
          refine ix_t (sqt h) (by decide) rfl ?_
          walk_at "rt"
          refine isi (r := false) hb (kit_no k n (.inr (.inr rfl))) ?_
          walk_at "rt"
          exact q
        · rw [decide_eq_false m]
          walk_at "rt"
          exact q
    unfold lookOk at q
    refine seq_step ?_
    walk_at "rt"
    refine isi (r := true) (.base (.tup e)) (by decide +kernel) ?_
    walk_at "rt"
    refine ⟨_, .inr (sqt e), ?_⟩
    walk_at "rt"
    refine seq_step ?_
    walk_at "rt"
    refine ix_t (sqt e) (by decide) rfl ?_
    walk_at "rt"
    refine isi (r := true) (.base (.str _)) (by decide +kernel) ?_
    walk_at "rt"
    refine ix_t (sqt e) (by decide) rfl ?_
    walk_at "rt"
    refine ⟨ps, _, rfl, hs, rfl, flat_of, ?_⟩
    rw [inV_str]
    by_cases m : a ∈ watches
    · rw [decide_eq_true m] at q ⊢
      walk_at "rt"
      refine seq_step ?_
      walk_at "rt"
      refine ix_t (sqt e) (by decide) rfl ?_
      walk_at "rt"
      refine isi (r := true) (.base (.str _)) (by decide +kernel) ?_
      walk_at "rt"
      refine ix_t (sqt e) (by decide) rfl ?_
      walk_at "rt"
      refine ⟨pw, _, rfl, hw, rfl, flat_of, ?_⟩
      rw [inV_str]
      by_cases m2 : wd ∈ ws
      · rw [decide_eq_true m2] at q ⊢
        walk_at "rt"
        refine ix_t (sqt e) (by decide) rfl ?_
        obtain ⟨t, ht, ty, hi⟩ := ty_kind (K := K) (H := H) hk
        refine ⟨v, t, rfl, ty, ht, ?_⟩
        walk_at "rt"
        by_cases c : t = "int"
        · obtain ⟨n, hn⟩ := hi.mp c
          have hn : v = .int n := hn
          subst hn
          rw [decide_eq_true c]
          walk_at "rt"
          refine ix_t (sqt e) (by decide) rfl ?_
          walk_at "rt"
          exact q
        · rw [decide_eq_false c]
          walk_at "rt"
          have : numOk v = false := by
            cases v with
            | int n => exact absurd (hi.mpr ⟨n, rfl⟩) c
            | _ => rfl
          rw [this] at q
          exact q
      · rw [decide_eq_false m2] at q ⊢
        walk_at "rt"
        exact q
    · rw [decide_eq_false m] at q ⊢
      walk_at "rt"
      exact q
def ThgAt (K : PySem.W.Frag) (H : Hp) (ws watches : List Str) (x : V) (b : Bool) : Prop := (∃ q l, x = .ref q ∧ LqAt H q l ∧ b = lookOk ws watches l) ∨ (NoLook K H x ∧ b = false)
theorem ThgAt.keep {K : PySem.W.Frag} {H H' : Hp} {ws watches : List Str} {x : V} {b : Bool} (s : Same H H') (h : ThgAt K H ws watches x b) : ThgAt K H' ws watches x b := by
  rcases h with ⟨q, l, e, h, hb⟩ | ⟨h, hb⟩
  · exact .inl ⟨q, l, e, h.keep s, hb⟩
  · exact .inr ⟨h.keep s, hb⟩
def spGuard (K : PySem.W.Frag) : Sp := fun vs H Q _ => (∃ (p pw ps : Addr) (ls : List Lq) (ws watches : List Str), vs = [.ref p, .ref pw, .ref ps] ∧ LsAt H p ls ∧ TxS K H pw ws ∧ TxS K H ps watches ∧ ls.length ≤ 60 ∧ ∀ H', Same H H' → Q (.bl (guardOk ws watches ls)) H') ∨
  (∃ (p pw ps : Addr) (xs : List V) (bs : List Bool) (ws watches : List Str), vs = [.ref p, .ref pw, .ref ps] ∧ H p = some (.lst xs) ∧ xs.length = bs.length ∧ xs.length ≤ 60 ∧ (∀ (i : Nat) (x : V) (b : Bool), xs[i]? = some x → bs[i]? = some b → ThgAt K H ws watches x b) ∧ TxS K H pw ws ∧ TxS K H ps watches ∧ ∀ H', Same H H' → Q (.bl (bs.all id)) H') ∨
  (∃ (x : V) (t : String) (pw ps : Addr), vs = [x, .ref pw, .ref ps] ∧ TyX K H x (.type t) ∧ t ∈ kinds ∧ t ≠ "list" ∧ Q (.bl false) H)
theorem ok_is_guard (T : Top K mg) : FnOk P w K mg base CX0 3 T.f_is_guard T.d_is_guard ["thing", "words", "watches"] (spGuard K) := by
  refine T.F_is_guard.ok sc_is_guard (fun vs H Q E h => ?_) (fun cdv A outer s H vs Q E hr h => ?_)
  · rcases h with ⟨p, pw, ps, ls, ws, watches, rfl, _⟩ | ⟨p, pw, ps, xs, bs, ws, watches, rfl, _⟩ | ⟨x, t, pw, ps, rfl, _⟩ <;> rfl
  · refine ⟨_, (pss_one (ps_ret (pe_and (pe_callB (call_isiA (K := K) rfl) (by rfl) T.m_isinstance (by decide +kernel) (pa_cons (pv 0) (pa_cons (pe_bltn (v := .ty "list") (u := .type "list") (by rfl) T.m_list (by decide +kernel) rfl) pa_nil))) (pe_one (pe_callB (cr_all rfl) (by rfl) T.m_all (by decide +kernel) (pa_cons (lc_vs (vs := [3]) (pe_lc (own := [("look", 3)]) (g := gName 3) (tt := tYes) rfl sc_is_guard.nd (pi_listA (K := K) rfl (pv 0)) (blkOk_by (own := [("look", 3)]) (N := ["thing", "words", "watches", "look"]) (sc := defScope s_is_guard) (by decide +kernel)) (fun _ _ _ _ _ => (pg_name (i := 3) sc_is_guard.nd rfl (.inl rfl))) (fun _ _ _ _ _ => pts_nil) (fun _ _ _ _ _ => (pe_call (ok_is_look T) (hr.mono (by decide)) rfl T.g_is_look T.F_is_look.kp T.b_is_look .nil pass0 (pa_cons (pv 3) (pa_cons (pv 1) (pa_cons (pv 2) pa_nil)))))) rfl) pa_nil)))))), ?_⟩
    have key : (∃ (p pw ps : Addr) (xs : List V) (bs : List Bool) (ws watches : List Str), vs = [.ref p, .ref pw, .ref ps] ∧ H p = some (.lst xs) ∧ xs.length = bs.length ∧ xs.length ≤ 60 ∧ (∀ (i : Nat) (x : V) (b : Bool), xs[i]? = some x → bs[i]? = some b → ThgAt K H ws watches x b) ∧ TxS K H pw ws ∧ TxS K H ps watches ∧ ∀ H', Same H H' → Q (.bl (bs.all id)) H') ∨
        (∃ (x : V) (t : String) (pw ps : Addr), vs = [x, .ref pw, .ref ps] ∧ TyX K H x (.type t) ∧ t ∈ kinds ∧ t ≠ "list" ∧ Q (.bl false) H) := by
      rcases h with ⟨p, pw, ps, ls, ws, watches, rfl, ⟨qs, a, b, c⟩, hw, hs, h60, q⟩ | h
      · refine .inl ⟨p, pw, ps, qs.map V.ref, ls.map (lookOk ws watches), ws, watches, rfl, a, by simp [b], by simp; omega, fun i x bo h1 h2 => ?_, hw, hs, fun H' s' => ?_⟩
        · rw [List.getElem?_map] at h1 h2
          obtain ⟨q', e1, rfl⟩ := Option.map_eq_some_iff.mp h1
          obtain ⟨l, e2, rfl⟩ := Option.map_eq_some_iff.mp h2
          exact .inl ⟨q', l, rfl, c i q' l e1 e2, rfl⟩
        · rw [List.all_map]; exact q H' s'
      · exact h
    rcases key with ⟨p, pw, ps, xs, bs, ws, watches, rfl, a, bl, h60, c, hw, hs, q⟩ | ⟨x, t, pw, ps, rfl, ht, k, n, q⟩
    · walk_at "rt"
      refine isi (r := true) (.base (.lst a)) (by decide +kernel) ?_
      walk_at "rt"
      refine lc_src ?_
      walk_at "rd"
      refine ⟨⟨_, .of a⟩, ?_⟩
      refine lcL_vals (xs := xs) (f := pick bs V.bl (V.bl false)) a (by omega) (by simp) (fun i x H1 Q1 hi s1 h => ?_) (fun D H1 s1 _ eD => ?_)
      · have hil := (List.getElem?_eq_some_iff.mp hi).1
        have hx := List.getElem?_eq_getElem (l := bs) (i := i) (by omega)
        have tx := (c i x _ hi hx).keep s1
        have := h H1 (Same.refl _)
        rw [pick_at hx] at this
        generalize bs[i] = bo at *
        walk_at "rd"
        rcases tx with ⟨q', l, rfl, hq, rfl⟩ | ⟨hn, rfl⟩
        · exact .inl ⟨q', pw, ps, l, ws, watches, rfl, hq, hw.keep s1, hs.keep s1, this⟩
        · exact .inr ⟨x, pw, ps, ws, watches, rfl, hn, hw.keep s1, hs.keep s1, this⟩
      · refine ⟨D, bs, rfl, .of (eD.trans (by rw [bl, range_map])), ?_⟩
        exact q H1 s1
    · walk_at "rt"
      refine isi (r := false) ht (kit_no k n (.inr (.inl rfl))) ?_
      walk_at "rt"
      exact q
def spUnlike (K : PySem.W.Frag) : Sp := fun vs H Q _ => ∃ (p : Addr) (xs : List Str), vs = [.ref p] ∧ H p = some (.lst (xs.map V.str)) ∧ xs.length ≤ 1000 ∧ Q (.bl (decide xs.Nodup)) H
theorem ok_unlike (T : Top K mg) : FnOk P w K mg base CX0 1 T.f_unlike T.d_unlike ["things"] (spUnlike K) := by
  refine T.F_unlike.ok sc_unlike (fun vs H Q E h => ?_) (fun cdv A outer s H vs Q E hr h => ?_)
  · obtain ⟨p, xs, rfl, _⟩ := h; rfl
  · obtain ⟨p, xs, rfl, hx, hl, q⟩ := h
    refine ⟨_, (pss_one (ps_ret (pe_cmpR op_eq (pe_lenSetN rfl (by rfl) T.m_len (by rfl) T.m_set (pv 0)) (pe_callB call_len_seq (by rfl) T.m_len (by decide +kernel) (pa_cons (pv 0) pa_nil)) (nomark _)))), ?_⟩
    walk_at "rt"
    refine ⟨_, rfl, p, xs, rfl, .of hx, by unfold scanBound; omega, fun c hc hd => ?_⟩
    walk_at "rt"
    refine ⟨_, .inl (.of hx), ?_⟩
    rw [List.length_map]
    rw [show decide ((c : Int) = (xs.length : Int)) = decide xs.Nodup from decide_eq_decide.mpr (by rw [← hd]; omega)]
    exact q
def spOwn : Sp := fun vs H Q _ => ∃ (p : Addr) (xs : List V), vs = [.ref p] ∧ H p = some (.lst xs) ∧ ∀ q H', Same H H' → H q = none → H' q = some (.lst xs) → Q (.ref q) H'
theorem ok_own (T : Top K mg) : FnOk P w K mg base CX0 1 T.f_own T.d_own ["thing"] spOwn := by
  refine T.F_own.ok sc_own (fun vs H Q E h => ?_) (fun cdv A outer s H vs Q E hr h => ?_)
  · obtain ⟨p, xs, rfl, _⟩ := h; rfl
  · obtain ⟨p, xs, rfl, hx, q⟩ := h
    refine ⟨_, (pss_cons (ps_if (pt_val (pe_callB (call_isiA (K := K) rfl) (by rfl) T.m_isinstance (by decide +kernel) (pa_cons (pv 0) (pa_cons (pe_bltn (v := .ty "list") (u := .type "list") (by rfl) T.m_list (by decide +kernel) rfl) pa_nil)))) (pss_one (ps_ret (pe_callTy (call_listA (K := K) rfl) (by rfl) T.m_list (by decide +kernel) (pa_cons (pv 0) pa_nil)))) pss_nil)
      (pss_one (ps_ret (pv 0)))), ?_⟩
    refine seq_step ?_
    walk_at "rt"
    refine isi (r := true) (.base (.lst hx)) (by decide +kernel) ?_
    walk_at "rt"
    exact ⟨xs, .inl (.of hx), fun r H' s f e => q r H' s f e⟩
def spDoorInit (C : Addr) : Sp := fun vs H Q _ => ∃ (p dx g n : Addr) (st en sg : Str) (gl nl : List V), vs = [.ref p, .str st, .str en, .ref g, .ref n, .str sg] ∧ H p = some (.ins C dx []) ∧ H g = some (.lst gl) ∧ H n = some (.lst nl) ∧
  ∀ g' n' H', (∀ b o, H b = some o → b ≠ p → H' b = some o) → H g' = none → H n' = none → H' p = some (.ins C dx (doorF st en sg g' n')) → H' g' = some (.lst gl) → H' n' = some (.lst nl) → Q .non H'
theorem ok_Door_init (T : Top K mg) : FnOk P w K mg base CX0 2 T.f_Door_init T.d_Door_init ["self", "start", "end", "guard", "noughts", "sign"] (spDoorInit T.C_Door) := by
  refine T.F_Door_init.ok sc_Door_init (fun vs H Q E h => ?_) (fun cdv A outer s H vs Q E hr h => ?_)
  · obtain ⟨p, dx, g, n, st, en, sg, gl, nl, rfl, _⟩ := h; rfl
  · obtain ⟨p, dx, g, n, st, en, sg, gl, nl, rfl, hp, hg, hn, q⟩ := h
    refine ⟨_, (pss_cons (ps_fld (pv 0) (pv 1) rfl)
      (pss_cons (ps_fld (pv 0) (pv 2) rfl)
      (pss_cons (ps_fld (pv 0) (pv 5) rfl)
      (pss_cons (ps_fld (pv 0) (pe_call (ok_own T) (hr.mono (by decide)) rfl T.g_own T.F_own.kp T.b_own .nil pass0 (pa_cons (pv 3) pa_nil)) rfl)
      (pss_one (ps_fld (pv 0) (pe_call (ok_own T) (hr.mono (by decide)) rfl T.g_own T.F_own.kp T.b_own .nil pass0 (pa_cons (pv 4) pa_nil)) rfl)))))), ?_⟩
    have pg : g ≠ p := ne_of hg hp (by intro z; cases z)
    have pn : n ≠ p := ne_of hn hp (by intro z; cases z)
    refine seq_step ?_
    refine ⟨_, rfl, _, rfl, p, _, dx, _, rfl, hp, T.cl_Door, T.n_Door_start, (by show 0 < 1000; decide), ?_⟩
    refine seq_step ?_
    refine ⟨_, rfl, _, rfl, p, _, dx, _, rfl, upd_same, T.cl_Door, T.n_Door_end, (by show 1 < 1000; decide), ?_⟩
    refine seq_step ?_
    refine ⟨_, rfl, _, rfl, p, _, dx, _, rfl, upd_same, T.cl_Door, T.n_Door_sign, (by show 2 < 1000; decide), ?_⟩
    refine seq_step ?_
    rw [upd_upd, upd_upd]
    refine ⟨_, rfl, g, gl, rfl, (by rw [upd_ne pg]; exact hg), fun g' H2 s2 f2 e2 => ?_⟩
    have p2 : g' ≠ p := fun z => by rw [z, upd_same] at f2; cases f2
    refine ⟨_, rfl, p, _, dx, _, rfl, s2 _ _ upd_same, T.cl_Door, T.n_Door_looks, (by show 3 < 1000; decide), ?_⟩
    have hn2 : H2 n = some (.lst nl) := s2 _ _ (by rw [upd_ne pn]; exact hn)
    refine ⟨_, rfl, n, nl, rfl, (by rw [upd_ne pn]; exact hn2), fun n' H3 s3 f3 e3 => ?_⟩
    have p3 : n' ≠ p := fun z => by rw [z, upd_same] at f3; cases f3
    refine ⟨_, rfl, p, _, dx, _, rfl, s3 _ _ upd_same, T.cl_Door, T.n_Door_backs, (by show 4 < 1000; decide), ?_⟩
    rw [upd_ne p2] at f2
    rw [upd_ne p3] at f3
    have k02 : ∀ b o, H b = some o → b ≠ p → H2 b = some o := fun b o e z => s2 _ _ (by rw [upd_ne z]; exact e)
    refine q g' n' _ (fun b o e z => ?_) f2 ?_ upd_same ?_ ?_
    · rw [upd_ne z]
      exact s3 _ _ (by rw [upd_ne z]; exact k02 b o e z)
    · cases e : H n' with
      | none => rfl
      | some o => rw [k02 _ _ e p3] at f3; cases f3
    · rw [upd_ne p2]
      exact s3 _ _ (by rw [upd_ne p2]; exact e2)
    · rw [upd_ne p3]; exact e3
def spAsks (C : Addr) : Sp := fun vs H Q _ => ∃ (p : Addr) (d : DoorD), vs = [.ref p] ∧ DoorAt C H p d ∧ ∀ q H', Same H H' → H q = none → LsAt H' q d.looks → Q (.ref q) H'
theorem ok_Door_asks (T : Top K mg) : FnOk P w K mg base CX0 2 T.f_Door_asks T.d_Door_asks ["self"] (spAsks T.C_Door) := by
  refine T.F_Door_asks.ok sc_Door_asks (fun vs H Q E h => ?_) (fun cdv A outer s H vs Q E hr h => ?_)
  · obtain ⟨p, d, rfl, _⟩ := h; rfl
  · obtain ⟨p, d, rfl, ⟨dx, g, n, h1, ⟨qs, a, b, c⟩, h3⟩, q⟩ := h
    refine ⟨_, (pss_one (ps_ret (pe_call (ok_own T) (hr.mono (by decide)) rfl T.g_own T.F_own.kp T.b_own .nil pass0 (pa_cons (pe_fldA (K := K) rfl (pv 0) rfl) pa_nil)))), ?_⟩
    refine ⟨_, rfl, p, _, dx, _, _, rfl, h1, T.cl_Door, T.n_Door_looks, door_looks, g, _, rfl, a, fun r H' s' f e => q r H' s' f ⟨qs, e, b, fun i q x h1 h2 => (c i q x h1 h2).keep s'⟩⟩
def spSets (C : Addr) : Sp := fun vs H Q _ => ∃ (p : Addr) (d : DoorD), vs = [.ref p] ∧ DoorAt C H p d ∧ ∀ q H', Same H H' → H q = none → H' q = some (.lst (d.backs.map V.str)) → Q (.ref q) H'
theorem ok_Door_sets (T : Top K mg) : FnOk P w K mg base CX0 2 T.f_Door_sets T.d_Door_sets ["self"] (spSets T.C_Door) := by
  refine T.F_Door_sets.ok sc_Door_sets (fun vs H Q E h => ?_) (fun cdv A outer s H vs Q E hr h => ?_)
  · obtain ⟨p, d, rfl, _⟩ := h; rfl
  · obtain ⟨p, d, rfl, ⟨dx, g, n, h1, h2, h3⟩, q⟩ := h
    refine ⟨_, (pss_one (ps_ret (pe_call (ok_own T) (hr.mono (by decide)) rfl T.g_own T.F_own.kp T.b_own .nil pass0 (pa_cons (pe_fldA (K := K) rfl (pv 0) rfl) pa_nil)))), ?_⟩
    exact ⟨_, rfl, p, _, dx, _, _, rfl, h1, T.cl_Door, T.n_Door_backs, door_backs, n, _, rfl, h3, fun r H' s' f e => q r H' s' f e⟩
/-- texts that are lists: what the comprehension's list holds -/
theorem names_dp {H : Hp} {p : Addr} {xs : List Str} (h : H p = some (.lst (xs.map V.str))) : Dp K H (.ref p) (.list (xs.map PyData.str)) :=
  .lst (.of h) (dpall_of (by simp) fun k v d h1 h2 => by
    rw [List.getElem?_map] at h1 h2
    obtain ⟨x, hx, rfl⟩ := Option.map_eq_some_iff.mp h1
    rw [hx] at h2; cases h2
    exact .str x)
def areW (xs : List Str) : Bool := decide (xs.length ≤ 7) && (xs.all okWatch && decide xs.Nodup)
def spAreW : Sp := fun vs H Q _ => ∃ (p : Addr) (xs : List Str), vs = [.ref p] ∧ H p = some (.lst (xs.map V.str)) ∧ xs.length ≤ 60 ∧ (∀ x ∈ xs, x.length ≤ 1000) ∧ ∀ H', Same H H' → Q (.bl (areW xs)) H'
theorem ok_are_watches (T : Top K mg) : FnOk P w K mg base CX0 4 T.f_are_watches T.d_are_watches ["thing"] spAreW := by
  refine T.F_are_watches.ok sc_are_watches (fun vs H Q E h => ?_) (fun cdv A outer s H vs Q E hr h => ?_)
  · obtain ⟨p, xs, rfl, _⟩ := h; rfl
  · obtain ⟨p, xs, rfl, hx, h7, hl, q⟩ := h
    refine ⟨_, (pss_cons (ps_if (PW.pt (pw_or (pt_not (pt_val (pe_callB (call_isiA (K := K) rfl) (by rfl) T.m_isinstance (by decide +kernel) (pa_cons (pv 0) (pa_cons (pe_bltn (v := .ty "list") (u := .type "list") (by rfl) T.m_list (by decide +kernel) rfl) pa_nil))))) (pw_or1 (pt_cmpR op_gt (pe_callB call_len_seq (by rfl) T.m_len (by decide +kernel) (pa_cons (pv 0) pa_nil)) (pe_glob (v := .int 7) rfl T.g_MOST_WATCHES ⟨_, rfl⟩) (nomark _))))) (pss_one (ps_ret pe_bl)) pss_nil)
      (pss_one (ps_ret (pe_and (pe_callB (cr_all rfl) (by rfl) T.m_all (by decide +kernel) (pa_cons (lc_vs (vs := [1]) (pe_lc (own := [("watch", 1)]) (g := gName 1) (tt := tYes) rfl sc_are_watches.nd (pi_listA (K := K) rfl (pv 0)) (blkOk_by (own := [("watch", 1)]) (N := ["thing", "watch"]) (sc := defScope s_are_watches) (by decide +kernel)) (fun _ _ _ _ _ => (pg_name (i := 1) sc_are_watches.nd rfl (.inl rfl))) (fun _ _ _ _ _ => pts_nil) (fun _ _ _ _ _ => (pe_call (ok_is_watch_name T) (hr.mono (by decide)) rfl T.g_is_watch_name T.F_is_watch_name.kp T.b_is_watch_name .nil pass0 (pa_cons (pv 1) pa_nil)))) rfl) pa_nil)) (pe_one (pe_call (ok_unlike T) (hr.mono (by decide)) rfl T.g_unlike T.F_unlike.kp T.b_unlike .nil pass0 (pa_cons (pv 0) pa_nil))))))), ?_⟩
    refine seq_step ?_
    walk_at "rt"
    refine isi (r := true) (.base (.lst hx)) (by decide +kernel) ?_
    walk_at "rt"
    refine ⟨_, .inl (.of hx), ?_⟩
    rw [List.length_map]
    unfold areW at q
    refine ite_d (fun c => ?_) (fun c => ?_)
    · walk_at "rd"
      rw [show decide (xs.length ≤ 7) = false from decide_eq_false (by omega)] at q
      exact q H (Same.refl _)
    rw [show decide (xs.length ≤ 7) = true from decide_eq_true (by omega), Bool.true_and] at q
    refine lc_src ?_
    walk_at "rd"
    refine ⟨⟨_, .of hx⟩, ?_⟩
    refine lcL_vals (xs := xs.map V.str) (f := pick xs (fun x => .bl (okWatch x)) (V.bl false)) hx (by simp; omega) (by simp) (fun i x H1 Q1 hi s1 h => ?_) (fun D H1 s1 _ eD => ?_)
    · rw [List.getElem?_map] at hi
      obtain ⟨y, h1, rfl⟩ := Option.map_eq_some_iff.mp hi
      walk_at "rd"
      refine ⟨y, rfl, hl y (List.mem_of_getElem? h1), ?_⟩
      have := h H1 (Same.refl _)
      rw [pick_at h1] at this
      exact this
    · refine ⟨D, xs.map okWatch, rfl, .of (eD.trans (by rw [List.length_map, range_map, List.map_map]; rfl)), ?_⟩
      have q1 := q H1 s1
      rw [show (xs.map okWatch).all id = xs.all okWatch by rw [List.all_map]; rfl]
      generalize xs.all okWatch = r at q1 ⊢
      cases r with
      | false => walk_at "rd"; exact q1
      | true =>
        walk_at "rd"
        exact ⟨p, xs, rfl, s1 _ _ hx, by omega, q1⟩
def spRoom (K : PySem.W.Frag) : Sp := fun vs H Q _ => ∃ (p ps : Addr) (r : Rq) (watches : List Str), vs = [.ref p, .ref ps] ∧ RqAt H p r ∧ TxS K H ps watches ∧ r.1.length ≤ 1000 ∧ r.2.length ≤ 60 ∧ ∀ H', Same H H' → Q (.bl (roomOk watches r)) H'
theorem ok_is_room (T : Top K mg) : FnOk P w K mg base CX0 4 T.f_is_room T.d_is_room ["thing", "watches"] (spRoom K) := by
  refine T.F_is_room.ok sc_is_room (fun vs H Q E h => ?_) (fun cdv A outer s H vs Q E hr h => ?_)
  · obtain ⟨p, ps, r, watches, rfl, _⟩ := h; rfl
  · obtain ⟨p, ps, ⟨n, ls⟩, watches, rfl, ⟨g, e, hg⟩, hs, hn, h60, q⟩ := h
    refine ⟨_, (pss_cons (ps_if (PW.pt (pw_or (pt_not (pt_val (pe_callB (call_isiA (K := K) rfl) (by rfl) T.m_isinstance (by decide +kernel) (pa_cons (pv 0) (pa_cons (pe_bltn (v := .ty "tuple") (u := .type "tuple") (by rfl) T.m_tuple (by decide +kernel) rfl) pa_nil))))) (pw_or1 (pt_cmpR op_ne (pe_callB call_len_seq (by rfl) T.m_len (by decide +kernel) (pa_cons (pv 0) pa_nil)) pe_int (nomark _))))) (pss_one (ps_ret pe_bl)) pss_nil)
      (pss_one (ps_ret (pe_and (pe_call (ok_of_signs T) (hr.mono (by decide)) rfl T.g_of_signs T.F_of_signs.kp T.b_of_signs .nil pass0 (pa_cons (pe_ix (ix_tupA (K := K) rfl) (pv 0) pe_int (fun _ _ => rfl)) (pa_cons (pe_op op_add_str (pe_glob (v := .str "abcdefghijklmnopqrstuvwxyz") rfl T.g_LETTERS ⟨_, rfl⟩) pe_str) (pa_cons pe_int pa_nil)))) (pe_one (pe_call (ok_is_guard T) (hr.mono (by decide)) rfl T.g_is_guard T.F_is_guard.kp T.b_is_guard .nil pass0 (pa_cons (pe_ix (ix_tupA (K := K) rfl) (pv 0) pe_int (fun _ _ => rfl)) (pa_cons (pe_glob (v := .ref T.t_BELOW) rfl T.g_BELOW rfl) (pa_cons (pv 1) pa_nil))))))))), ?_⟩
    refine seq_step ?_
    walk_at "rt"
    refine isi (r := true) (.base (.tup e)) (by decide +kernel) ?_
    walk_at "rt"
    refine ⟨_, .inr (sqt e), ?_⟩
    walk_at "rt"
    refine ix_t (sqt e) (by decide) rfl ?_
    walk_at "rt"
    refine ⟨by rw [sz_line (by decide)]; trivial, ?_⟩
    refine ⟨n, _, 60, rfl, hn, ?_⟩
    unfold roomOk at q
    by_cases c : okT n (letters ++ ("/" : Str)) 60 = true
    · rw [show okT (n, ls).1 (letters ++ ("/" : Str)) 60 = true from c] at q
      rw [show okT n (Str.ofString "abcdefghijklmnopqrstuvwxyz" ++ Str.ofString "/") 60 = true from c]
      walk_at "rt"
      refine ix_t (sqt e) (by decide) rfl ?_
      exact .inl ⟨g, T.t_BELOW, _, ls, ["<", "<="], watches, rfl, hg, .inr (T.q_BELOW _), hs, h60, fun H' s' => q H' s'⟩
    · have c : okT n (letters ++ ("/" : Str)) 60 = false := by simpa using c
      rw [show okT (n, ls).1 (letters ++ ("/" : Str)) 60 = false from c] at q
      rw [show okT n (Str.ofString "abcdefghijklmnopqrstuvwxyz" ++ Str.ofString "/") 60 = false from c]
      walk_at "rt"
      exact q H (Same.refl _)
def spRooms (K : PySem.W.Frag) : Sp := fun vs H Q _ => ∃ (p ps : Addr) (rs : List Rq) (watches : List Str), vs = [.ref p, .ref ps] ∧ RsAt H p rs ∧ TxS K H ps watches ∧ (∀ r ∈ rs, r.1.length ≤ 1000 ∧ r.2.length ≤ 60 ∧ RqOk r) ∧ rs ≠ [] ∧ rs.length ≤ 200 ∧ ∀ H', Same H H' → Q (.bl (rs.all (roomOk watches) && decide (rs.map (·.1)).Nodup)) H'
theorem ok_are_rooms (T : Top K mg) : FnOk P w K mg base CX0 5 T.f_are_rooms T.d_are_rooms ["thing", "watches"] (spRooms K) := by
  refine T.F_are_rooms.ok sc_are_rooms (fun vs H Q E h => ?_) (fun cdv A outer s H vs Q E hr h => ?_)
  · obtain ⟨p, ps, rs, watches, rfl, _⟩ := h; rfl
  · obtain ⟨p, ps, rs, watches, rfl, hrs, hs, hok, hne, h200, q⟩ := h
    refine ⟨_, (pss_cons (ps_if (PW.pt (pw_or (pt_not (pt_val (pe_callB (call_isiA (K := K) rfl) (by rfl) T.m_isinstance (by decide +kernel) (pa_cons (pv 0) (pa_cons (pe_bltn (v := .ty "list") (u := .type "list") (by rfl) T.m_list (by decide +kernel) rfl) pa_nil))))) (pw_or1 (pt_cmpR (op_eqD hr.units) (pv 0) (pe_lstN pa_nil) (nomark _))))) (pss_one (ps_ret pe_bl)) pss_nil)
      (pss_one (ps_ret (pe_and (pe_callB (cr_all rfl) (by rfl) T.m_all (by decide +kernel) (pa_cons (lc_vs (vs := [2]) (pe_lc (own := [("room", 2)]) (g := gName 2) (tt := tYes) rfl sc_are_rooms.nd (pi_listA (K := K) rfl (pv 0)) (blkOk_by (own := [("room", 2)]) (N := ["thing", "watches", "room"]) (sc := defScope s_are_rooms) (by decide +kernel)) (fun _ _ _ _ _ => (pg_name (i := 2) sc_are_rooms.nd rfl (.inl rfl))) (fun _ _ _ _ _ => pts_nil) (fun _ _ _ _ _ => (pe_call (ok_is_room T) (hr.mono (by decide)) rfl T.g_is_room T.F_is_room.kp T.b_is_room .nil pass0 (pa_cons (pv 2) (pa_cons (pv 1) pa_nil))))) rfl) pa_nil)) (pe_one (pe_call (ok_unlike T) (hr.mono (by decide)) rfl T.g_unlike T.F_unlike.kp T.b_unlike .nil pass0 (pa_cons (lc_vs (vs := [2]) (pe_lc (own := [("room", 2)]) (g := gName 2) (tt := tYes) rfl sc_are_rooms.nd (pi_listA (K := K) rfl (pv 0)) (blkOk_by (own := [("room", 2)]) (N := ["thing", "watches", "room"]) (sc := defScope s_are_rooms) (by decide +kernel)) (fun _ _ _ _ _ => (pg_name (i := 2) sc_are_rooms.nd rfl (.inl rfl))) (fun _ _ _ _ _ => pts_nil) (fun _ _ _ _ _ => (pe_ix (ix_tupA (K := K) rfl) (pv 2) pe_int (fun _ _ => rfl)))) rfl) pa_nil))))))), ?_⟩
    obtain ⟨qs, a, b, c⟩ := id hrs
    refine seq_step ?_
    walk_at "rt"
    refine isi (r := true) (.base (.lst a)) (by decide +kernel) ?_
    walk_at "rt"
    intro p1 H1 s1 _ e1
    refine ⟨_, _, dp_rs (hrs.keep s1), .lst (.of e1) .nil, shaped_rs fun r h => (hok r h).2.2, rfl, ?_⟩
    have ne : PyData.eqv (.list (rs.map rdat)) (.list []) = false := by
      cases rs with
      | nil => exact absurd rfl hne
      | cons r rs => rfl
    rw [ne]
    walk_at "rt"
    refine lc_src ?_
    walk_at "rd"
    refine ⟨⟨_, .of (s1 _ _ a)⟩, ?_⟩
    refine lcL_vals (xs := qs.map V.ref) (f := pick rs (fun r => .bl (roomOk watches r)) (V.bl false)) (s1 _ _ a) (by simp; omega) (by simp) (fun i x H2 Q1 hi s2 h => ?_) (fun D H2 s2 _ eD => ?_)
    · rw [List.getElem?_map] at hi
      obtain ⟨qi, h1, rfl⟩ := Option.map_eq_some_iff.mp hi
      have hil := (List.getElem?_eq_some_iff.mp h1).1
      have hx := List.getElem?_eq_getElem (l := rs) (i := i) (by omega)
      have hk := hok _ (List.mem_of_getElem? hx)
      walk_at "rd"
      refine ⟨qi, ps, rs[i], watches, rfl, (c i qi _ h1 hx).keep (s1.trans s2), hs.keep (s1.trans s2), hk.1, hk.2.1, fun H3 s3 => ?_⟩
      have := h H3 s3
      rw [pick_at hx] at this
      exact this
    · refine ⟨D, rs.map (roomOk watches), rfl, .of (eD.trans (by rw [List.length_map, b, range_map, List.map_map]; rfl)), ?_⟩
      rw [show (rs.map (roomOk watches)).all id = rs.all (roomOk watches) by rw [List.all_map]; rfl]
      generalize rs.all (roomOk watches) = r at q ⊢
      cases r with
      | false => walk_at "rd"; exact q _ (s1.trans s2)
      | true =>
        walk_at "rd"
        refine lc_src ?_
        walk_at "rd"
        have s12 := s1.trans s2
        refine ⟨⟨_, .of (s12 _ _ a)⟩, ?_⟩
        refine lcL_vals (xs := qs.map V.ref) (f := pick rs (fun r => .str r.1) V.non) (s12 _ _ a) (by simp; omega) (by simp) (fun i x H3 Q1 hi s3 h => ?_) (fun D2 H3 s3 _ eD2 => ?_)
        · rw [List.getElem?_map] at hi
          obtain ⟨qi, h1, rfl⟩ := Option.map_eq_some_iff.mp hi
          have hil := (List.getElem?_eq_some_iff.mp h1).1
          have hx := List.getElem?_eq_getElem (l := rs) (i := i) (by omega)
          obtain ⟨g, e, _⟩ := (c i qi _ h1 hx).keep (s12.trans s3)
          walk_at "rd"
          refine ix_t (sqt e) (by decide) rfl ?_
          have := h H3 (Same.refl _)
          rw [pick_at hx] at this
          exact this
        · refine ⟨D2, rs.map (·.1), rfl, eD2.trans (by rw [List.length_map, b, range_map, List.map_map]; rfl), by simp; omega, by simpa using q _ (s12.trans s3)⟩
def spIsDoor (K : PySem.W.Frag) (C : Addr) : Sp := fun vs H Q _ => ∃ (p pw pn : Addr) (d : DoorD) (watches names : List Str), vs = [.ref p, .ref pw, .ref pn] ∧ DoorAt C H p d ∧ TxS K H pw watches ∧ TxS K H pn names ∧ d.sg.length ≤ 1000 ∧ d.looks.length ≤ 60 ∧ d.backs.length ≤ 900 ∧ ∀ H', Same H H' → Q (.bl (doorOk watches names d)) H'
theorem ok_is_door (T : Top K mg) : FnOk P w K mg base CX0 4 T.f_is_door T.d_is_door ["thing", "watches", "names"] (spIsDoor K T.C_Door) := by
  refine T.F_is_door.ok sc_is_door (fun vs H Q E h => ?_) (fun cdv A outer s H vs Q E hr h => ?_)
  · obtain ⟨p, pw, pn, d, watches, names, rfl, _⟩ := h; rfl
  · obtain ⟨p, pw, pn, d, watches, names, rfl, hd, hw, hn, hsg, h60, hb, q⟩ := h
    refine ⟨_, (pss_cons (ps_if (PW.pt (pw_or (pt_not (pt_val (pe_callB (call_isiA (K := K) rfl) (by rfl) T.m_isinstance (by decide +kernel) (pa_cons (pv 0) (pa_cons (pe_glob (v := .ref T.C_Door) rfl T.g_Door rfl) pa_nil))))) (pw_or1 (pt_not (pt_val (pe_call (ok_is_sign T) (hr.mono (by decide)) rfl T.g_is_sign T.F_is_sign.kp T.b_is_sign .nil pass0 (pa_cons (pe_fldA (K := K) rfl (pv 0) rfl) pa_nil))))))) (pss_one (ps_ret pe_bl)) pss_nil)
      (pss_cons (ps_for PassesOwn.never rfl (pi_listA (K := K) rfl (pe_lstN (pa_cons (pe_fldA (K := K) rfl (pv 0) rfl) (pa_cons (pe_fldA (K := K) rfl (pv 0) rfl) pa_nil)))) (pg_name (i := 3) sc_is_door.nd rfl (.inl rfl)) (pss_one (ps_if (PW.pt (pw_or (pt_not (pt_val (pe_callB (call_isiA (K := K) rfl) (by rfl) T.m_isinstance (by decide +kernel) (pa_cons (pv 3) (pa_cons (pe_bltn (v := .ty "str") (u := .type "str") (by rfl) T.m_str (by decide +kernel) rfl) pa_nil))))) (pw_or1 (pt_cmpR (op_notIn_seqA (K := K) rfl) (pv 3) (pv 2) (by rfl))))) (pss_one (ps_ret pe_bl)) pss_nil)))
      (pss_cons (ps_set (i := 4) sc_is_door.nd rfl (.inl rfl) (pe_meth0 (pv 0) T.cl_Door T.m_Door_sets (ok_Door_sets T) (hr.mono (by decide)) T.b_Door_sets .nil pass0))
      (pss_cons (ps_if (PW.pt (pw_or (pt_not (pt_val (pe_call (ok_is_guard T) (hr.mono (by decide)) rfl T.g_is_guard T.F_is_guard.kp T.b_is_guard .nil pass0 (pa_cons (pe_meth0 (pv 0) T.cl_Door T.m_Door_asks (ok_Door_asks T) (hr.mono (by decide)) T.b_Door_asks .nil pass0) (pa_cons (pe_glob (v := .ref T.t_WORDS) rfl T.g_WORDS rfl) (pa_cons (pv 1) pa_nil)))))) (pw_or1 (pt_not (pt_val (pe_callB (call_isiA (K := K) rfl) (by rfl) T.m_isinstance (by decide +kernel) (pa_cons (pv 4) (pa_cons (pe_bltn (v := .ty "list") (u := .type "list") (by rfl) T.m_list (by decide +kernel) rfl) pa_nil)))))))) (pss_one (ps_ret pe_bl)) pss_nil)
      (pss_one (ps_ret (pe_and (pe_callB (cr_all rfl) (by rfl) T.m_all (by decide +kernel) (pa_cons (lc_vs (vs := [5]) (pe_lc (own := [("watch", 5)]) (g := gName 5) (tt := tYes) rfl sc_is_door.nd (pi_listA (K := K) rfl (pv 4)) (blkOk_by (own := [("watch", 5)]) (N := ["thing", "watches", "names", "name", "noughts", "watch"]) (sc := defScope s_is_door) (by decide +kernel)) (fun _ _ _ _ _ => (pg_name (i := 5) sc_is_door.nd rfl (.inl rfl))) (fun _ _ _ _ _ => pts_nil) (fun _ _ _ _ _ => (pe_and (pe_callB (call_isiA (K := K) rfl) (by rfl) T.m_isinstance (by decide +kernel) (pa_cons (pv 5) (pa_cons (pe_bltn (v := .ty "str") (u := .type "str") (by rfl) T.m_str (by decide +kernel) rfl) pa_nil))) (pe_one (pe_cmpR (op_in_seqA (K := K) rfl) (pv 5) (pv 1) (by rfl)))))) rfl) pa_nil)) (pe_one (pe_call (ok_unlike T) (hr.mono (by decide)) rfl T.g_unlike T.F_unlike.kp T.b_unlike .nil pass0 (pa_cons (pv 4) pa_nil)))))))))), ?_⟩
    obtain ⟨dx, g, n, e, e2, e3⟩ := id hd
    unfold doorOk at q
    refine seq_step ?_
    walk_at "rt"
    refine is_own e T.cl_Door T.ty_Door ?_
    walk_at "rt"
    refine ⟨_, rfl, p, _, dx, _, _, rfl, e, T.cl_Door, T.n_Door_sign, door_sign, ?_⟩
    refine ⟨_, rfl, hsg, ?_⟩
    by_cases c1 : okSign d.sg = true
    · rw [c1] at q ⊢
      walk_at "rt"
      refine seq_step ?_
      refine for_li ?_
      walk_at "rt"
      refine ⟨_, rfl, p, _, dx, _, _, rfl, e, T.cl_Door, T.n_Door_start, door_start, _, rfl, p, _, dx, _, _, rfl, e, T.cl_Door, T.n_Door_end, door_end, ?_⟩
      intro pl H1 s1 f1 e1
      refine forL_by (xs := [.str d.st, .str d.en]) (fun i σ' H' => (∃ v3 v4 v5, σ' = [some (.ref p), some (.ref pw), some (.ref pn), v3, v4, v5]) ∧ H' = H1 ∧ (0 < i → d.st ∈ names) ∧ (1 < i → d.en ∈ names)) ⟨⟨_, _, _, rfl⟩, rfl, (fun h => absurd h (by omega)), (fun h => absurd h (by omega))⟩ (fun i σ H' _ ⟨_, h, _⟩ => by subst h; exact .of e1) ?_ ?_
      · rintro i x σ' H' hi ⟨⟨v3, v4, v5, rfl⟩, rfl, m1, m2⟩
        have key : ∃ nmx : Str, x = .str nmx ∧ (i = 0 ∧ nmx = d.st ∨ i = 1 ∧ nmx = d.en) := by
          cases i with
          | zero => exact ⟨d.st, by simpa using hi.symm, .inl ⟨rfl, rfl⟩⟩
          | succ i => cases i with
            | zero => exact ⟨d.en, by simpa using hi.symm, .inr ⟨rfl, rfl⟩⟩
            | succ i => simp at hi
        obtain ⟨nmx, rfl, hx⟩ := key
        walk_at "rt"
        refine isi (r := true) (.base (.str _)) (by decide +kernel) ?_
        walk_at "rt"
        refine ⟨pn, _, rfl, hn.keep s1, rfl, flat_of, ?_⟩
        rw [inV_str]
        by_cases m : nmx ∈ names
        · rw [decide_eq_true m]
          walk_at "rt"
          refine ⟨⟨_, rfl⟩, fun _ => ?_, fun h => ?_⟩
          · rcases hx with ⟨_, rfl⟩ | ⟨rfl, _⟩
            · exact m
            · exact m1 (by omega)
          · rcases hx with ⟨rfl, _⟩ | ⟨_, rfl⟩
            · omega
            · exact m
        · rw [decide_eq_false m]
          walk_at "rt"
          have q1 := q _ s1
          rcases hx with ⟨_, rfl⟩ | ⟨_, rfl⟩
          · rw [decide_eq_false m] at q1; simpa only [Bool.true_and, Bool.false_and] using q1
          · rw [decide_eq_false m] at q1; simpa only [Bool.true_and, Bool.false_and, Bool.and_false] using q1
      · rintro σ' H' ⟨⟨v3, v4, v5, rfl⟩, rfl, m1, m2⟩
        have m1 := m1 (by show 0 < 2; decide)
        have m2 := m2 (by show 1 < 2; decide)
        rw [decide_eq_true m1, decide_eq_true m2] at q
        walk_at "rd"
        refine seq_step ?_
        refine ⟨_, rfl, p, dx, _, rfl, s1 _ _ e, door_no (by decide +kernel) (by decide +kernel) (by decide +kernel) (by decide +kernel) (by decide +kernel), p, d, rfl, hd.keep s1, fun nb H2 s2 f2 e2n => ?_⟩
        walk_at "rd"
        refine seq_step ?_
        have s02 := s1.trans s2
        walk_at "rt"
        refine ⟨_, rfl, p, dx, _, rfl, s02 _ _ e, door_no (by decide +kernel) (by decide +kernel) (by decide +kernel) (by decide +kernel) (by decide +kernel), p, d, rfl, hd.keep s02, fun lg H3 s3 f3 e3g => ?_⟩
        have s03 := s02.trans s3
        walk_at "rt"
        refine .inl ⟨lg, T.t_WORDS, pw, d.looks, ["<", "<=", ">", ">=", "="], watches, rfl, e3g, .inr (T.q_WORDS _), hw.keep s03, h60, fun H4 s4 => ?_⟩
        have s04 := s03.trans s4
        have hnb := (s3.trans s4) _ _ e2n
        by_cases c2 : guardOk ["<", "<=", ">", ">=", "="] watches d.looks = true
        · rw [c2] at q ⊢
          walk_at "rt"
          refine isi (r := true) (.base (.lst hnb)) (by decide +kernel) ?_
          walk_at "rt"
          refine lc_src ?_
          walk_at "rd"
          refine ⟨⟨_, .of hnb⟩, ?_⟩
          refine lcL_vals (xs := d.backs.map V.str) (f := pick d.backs (fun b => .bl (decide (b ∈ watches))) (V.bl false)) hnb (by simp; omega) (by simp) (fun i x H5 Q1 hi s5 h => ?_) (fun D H5 s5 _ eD => ?_)
          · rw [List.getElem?_map] at hi
            obtain ⟨y, h1, rfl⟩ := Option.map_eq_some_iff.mp hi
            walk_at "rt"
            refine isi (r := true) (.base (.str _)) (by decide +kernel) ?_
            walk_at "rt"
            refine ⟨pw, _, rfl, (hw.keep (s04.trans s5)), rfl, flat_of, ?_⟩
            rw [inV_str]
            have := h _ (Same.refl _)
            rw [pick_at h1] at this
            exact this
          · refine ⟨D, d.backs.map (fun b => decide (b ∈ watches)), rfl, .of (eD.trans (by rw [List.length_map, range_map, List.map_map]; rfl)), ?_⟩
            have q1 := q _ (s04.trans s5)
            rw [show (d.backs.map (fun b => decide (b ∈ watches))).all id = d.backs.all (fun b => decide (b ∈ watches)) by rw [List.all_map]; rfl]
            generalize d.backs.all (fun b => decide (b ∈ watches)) = r at q1 ⊢
            cases r with
            | false => walk_at "rd"; simpa only [Bool.true_and, Bool.false_and, Bool.and_false] using q1
            | true =>
              walk_at "rd"
              exact ⟨nb, d.backs, rfl, s5 _ _ hnb, by omega, by simpa only [Bool.true_and] using q1⟩
        · have c2 : guardOk ["<", "<=", ">", ">=", "="] watches d.looks = false := by simpa using c2
          rw [c2] at q ⊢
          walk_at "rt"
          simpa only [Bool.true_and, Bool.false_and, Bool.and_false] using q _ s04
    · have c1 : okSign d.sg = false := by simpa using c1
      rw [c1] at q ⊢
      walk_at "rt"
      exact q _ (Same.refl _)
def spMachInit (K : PySem.W.Frag) (CM CD : Addr) : Sp := fun vs H Q _ => ∃ (p dx pw pr pd : Addr) (M : MachD), vs = [.ref p, .ref pw, .ref pr, .ref pd] ∧ H p = some (.ins CM dx []) ∧ H pw = some (.lst (M.watches.map V.str)) ∧ RsAt H pr M.rooms ∧ DsAt CD H pd M.doors ∧ MachOk M ∧
  ∀ H', OffN p H H' → MachAt CM CD H' p M → (∀ U : Addr → Prop, ListsU U H → (∀ q d, DoorAt CD H q d → d ∈ M.doors → (∃ (qs : List Addr) (i : Nat), H pd = some (.lst (qs.map V.ref)) ∧ qs[i]? = some q ∧ M.doors[i]? = some d) → DoorAt CD (remU U H) q d) → MachAt CM CD (remU U H') p M) → Q .non H'
theorem ok_Machine_init (T : Top K mg) : FnOk P w K mg base (L2.CX P w) 6 T.f_Machine_init T.d_Machine_init ["self", "watches", "rooms", "doors"] (spMachInit K T.C_Machine T.C_Door) := by
  refine T.F_Machine_init.okX sc_Machine_init (fun vs H Q E h => ?_) (fun cdv A outer s H vs Q E hr h => ?_)
  · obtain ⟨p, dx, pw, pr, pd, M, rfl, _⟩ := h; rfl
  · obtain ⟨p, dx, pw, pr, pd, M, rfl, hp, hw, hrs, hds, ok, q⟩ := h
    refine ⟨_, (pss_cons (ps_if (PW.pt (pw_or (pt_not (pt_val (pe_call (ok_are_watches T) (hr.mono (by decide)) rfl T.g_are_watches T.F_are_watches.kp T.b_are_watches .nil pass0 (pa_cons (pv 1) pa_nil)))) (pw_or (pt_not (pt_val (pe_call (ok_are_rooms T) (hr.mono (by decide)) rfl T.g_are_rooms T.F_are_rooms.kp T.b_are_rooms .nil pass0 (pa_cons (pv 2) (pa_cons (pv 1) pa_nil))))) (pw_or1 (pt_not (pt_val (pe_callB (call_isiA (K := K) rfl) (by rfl) T.m_isinstance (by decide +kernel) (pa_cons (pv 3) (pa_cons (pe_bltn (v := .ty "list") (u := .type "list") (by rfl) T.m_list (by decide +kernel) rfl) pa_nil))))))))) (pss_one (ps_raise rfl (takes_of rfl rfl rfl rfl) (pmk_own PySem.F.excBase_ValueError T.x_BadMachine T.g_BadMachine T.k_BadMachine (raises_own T.b_BadMachine T.t_BadMachine) rfl))) pss_nil)
      (pss_cons (ps_set (i := 4) sc_Machine_init.nd rfl (.inr rfl) (lc_vs (vs := [5]) (pe_lc (own := [("room", 5)]) (g := gName 5) (tt := tYes) rfl sc_Machine_init.nd (pi_listA (K := K) rfl (pv 2)) (blkOk_by (own := [("room", 5)]) (N := ["self", "watches", "rooms", "doors", "names", "room", "door"]) (sc := defScope s_Machine_init) (by decide +kernel)) (fun _ _ _ _ _ => (pg_name (i := 5) sc_Machine_init.nd rfl (.inl rfl))) (fun _ _ _ _ _ => pts_nil) (fun _ _ _ _ _ => (pe_ix (ix_tupA (K := K) rfl) (pv 5) pe_int (fun _ _ => rfl)))) rfl))
      (pss_cons (ps_if (pt_not (pt_val (pe_callB (cr_all rfl) (by rfl) T.m_all (by decide +kernel) (pa_cons (lc_vs (vs := [6]) (pe_lc (own := [("door", 6)]) (g := gName 6) (tt := tYes) rfl sc_Machine_init.nd (pi_listA (K := K) rfl (pv 3)) (blkOk_by (own := [("door", 6)]) (N := ["self", "watches", "rooms", "doors", "names", "room", "door"]) (sc := defScope s_Machine_init) (by decide +kernel)) (fun _ _ _ _ _ => (pg_name (i := 6) sc_Machine_init.nd rfl (.inl rfl))) (fun _ _ _ _ _ => pts_nil) (fun _ _ _ _ _ => (pe_call (ok_is_door T) (hr.mono (by decide)) rfl T.g_is_door T.F_is_door.kp T.b_is_door .nil pass0 (pa_cons (pv 6) (pa_cons (pv 1) (pa_cons (pv 4) pa_nil)))))) rfl) pa_nil)))) (pss_one (ps_raise rfl (takes_of rfl rfl rfl rfl) (pmk_own PySem.F.excBase_ValueError T.x_BadMachine T.g_BadMachine T.k_BadMachine (raises_own T.b_BadMachine T.t_BadMachine) rfl))) pss_nil)
      (pss_cons (ps_if (PW.pt (pw_or (pt_cmpR op_gt (pe_callB call_len_seq (by rfl) T.m_len (by decide +kernel) (pa_cons (pv 2) pa_nil)) (pe_glob (v := .int 64) rfl T.g_MOST_ROOMS ⟨_, rfl⟩) (nomark _)) (pw_or1 (pt_cmpR op_gt (pe_callB call_len_seq (by rfl) T.m_len (by decide +kernel) (pa_cons (pv 3) pa_nil)) (pe_glob (v := .int 200) rfl T.g_MOST_DOORS ⟨_, rfl⟩) (nomark _))))) (pss_one (ps_raise rfl (takes_of rfl rfl rfl rfl) (pmk_own PySem.F.excBase_ValueError T.x_TooMany T.g_TooMany T.k_TooMany (raises_own T.b_TooMany T.t_TooMany) rfl))) pss_nil)
      (pss_cons (ps_fld (pv 0) (pe_callTy (call_listA (K := K) rfl) (by rfl) T.m_list (by decide +kernel) (pa_cons (pv 1) pa_nil)) rfl)
      (pss_cons (ps_fld (pv 0) (pv 4) rfl)
      (pss_cons (ps_fld (pv 0) (lc_vs (vs := [5]) (pe_lc (own := [("room", 5)]) (g := gName 5) (tt := tYes) rfl sc_Machine_init.nd (pi_listA (K := K) rfl (pv 2)) (blkOk_by (own := [("room", 5)]) (N := ["self", "watches", "rooms", "doors", "names", "room", "door"]) (sc := defScope s_Machine_init) (by decide +kernel)) (fun _ _ _ _ _ => (pg_name (i := 5) sc_Machine_init.nd rfl (.inl rfl))) (fun _ _ _ _ _ => pts_nil) (fun _ _ _ _ _ => (pe_callTy (call_listA (K := K) rfl) (by rfl) T.m_list (by decide +kernel) (pa_cons (pe_ix (ix_tupA (K := K) rfl) (pv 5) pe_int (fun _ _ => rfl)) pa_nil)))) rfl) rfl)
      (pss_one (ps_fld (pv 0) (pe_callTy (call_listA (K := K) rfl) (by rfl) T.m_list (by decide +kernel) (pa_cons (pv 3) pa_nil)) rfl))))))))), ?_⟩
    have r64 := ok.r64
    have d200 := ok.d200
    obtain ⟨dqs, d1, d2, d3⟩ := id hds
    obtain ⟨rqs, r1, r2, r3⟩ := id hrs
    refine seq_step ?_
    walk_at "rt"
    refine ⟨pw, M.watches, rfl, hw, Nat.le_trans ok.w7 (by decide), (fun x hx => by have := okWatch_len (ok.watch x hx); omega), fun H1 s1 => ?_⟩
    rw [show areW M.watches = true by unfold areW; rw [decide_eq_true ok.w7, ok.wok, decide_eq_true ok.wnd]; rfl]
    walk_at "rt"
    refine ⟨pr, pw, M.rooms, M.watches, rfl, hrs.keep s1, .inl (.of (s1 _ _ hw)), (fun r h => ok.room h), ok.rne, by omega, fun H2 s2 => ?_⟩
    rw [show (M.rooms.all (roomOk M.watches) && decide (M.rooms.map (·.1)).Nodup) = true by rw [ok.rok, decide_eq_true ok.rnd]; rfl]
    have s12 := s1.trans s2
    walk_at "rt"
    refine isi (r := true) (.base (.lst (s12 _ _ d1))) (by decide +kernel) ?_
    walk_at "rt"
    refine seq_step ?_
    walk_at "rd"
    refine lcg_src ?_
    walk_at "rd"
    refine ⟨⟨_, .of (s12 _ _ r1)⟩, ?_⟩
    refine lcF (F := fun r : Rq => V.str r.1) (zs := M.rooms) (s12 _ _ r1) (by simp [r2]) (by simp; omega) (fun i x z H3 Yes hx hz s3 hy => ?_) (fun nq H3 s3 f3 e3 => ?_)
    · rw [List.getElem?_map] at hx
      obtain ⟨qi, h1, rfl⟩ := Option.map_eq_some_iff.mp hx
      obtain ⟨g, e, _⟩ := (r3 i qi z h1 hz).keep (s12.trans s3)
      walk_at "rd"
      refine ix_t (sqt e) (by decide) rfl ?_
      exact hy _ (Same.refl _)
    · have s13 := s12.trans s3
      walk_at "rd"
      refine seq_step ?_
      walk_at "rd"
      refine lcg_src ?_
      walk_at "rd"
      refine ⟨⟨_, .of (s13 _ _ d1)⟩, ?_⟩
      refine lcF (F := fun d : DoorD => V.bl (doorOk M.watches (M.rooms.map (·.1)) d)) (zs := M.doors) (s13 _ _ d1) (by simp [d2]) (by simp; omega) (fun i x z H4 Yes hx hz s4 hy => ?_) (fun D H4 s4 f4 e4 => ?_)
      · rw [List.getElem?_map] at hx
        obtain ⟨qi, h1, rfl⟩ := Option.map_eq_some_iff.mp hx
        have s14 := s13.trans s4
        have dz := (d3 i qi z h1 hz).keep s14
        have oz := ok.door (List.mem_of_getElem? hz)
        have lz := okSign_len oz.1
        walk_at "rd"
        refine ⟨qi, pw, nq, z, M.watches, M.rooms.map (·.1), rfl, dz, .inl (.of (s14 _ _ hw)), .inl (.of (s4 _ _ (e3.trans (by rw [List.map_map]; rfl)))), by omega, ok.dsz z (List.mem_of_getElem? hz), by omega, fun H5 s5 => hy _ s5⟩
      · have s14 := s13.trans s4
        refine ⟨D, M.doors.map (doorOk M.watches (M.rooms.map (·.1))), rfl, .of (e4.trans (by rw [List.map_map]; rfl)), ?_⟩
        rw [show (M.doors.map (doorOk M.watches (M.rooms.map (·.1)))).all id = true by rw [List.all_map]; exact ok.dok]
        walk_at "rd"
        refine seq_step ?_
        walk_at "rd"
        refine ⟨_, .inl (.of (s14 _ _ r1)), ?_⟩
        refine if_f (decide_eq_false (by rw [List.length_map, r2]; omega)) ?_
        refine ⟨_, .inl (.of (s14 _ _ d1)), ?_⟩
        refine if_f (decide_eq_false (by rw [List.length_map, d2]; omega)) ?_
        have hp4 := s14 _ _ hp
        refine seq_step ?_
        refine ⟨_, rfl, pw, _, rfl, .inl (.of (s14 _ _ hw)), fun w1 H5 s5 f5 e5 => ?_⟩
        refine ⟨_, rfl, p, _, dx, _, rfl, s5 _ _ hp4, T.cl_Machine, T.n_Machine_watch_names, (by show 0 < 1000; decide), ?_⟩
        refine seq_step ?_
        refine ⟨_, rfl, _, rfl, p, _, dx, _, rfl, upd_same, T.cl_Machine, T.n_Machine_room_names, (by show 1 < 1000; decide), ?_⟩
        rw [upd_upd]
        have s15 := s14.trans s5
        generalize h6 : upd H5 p (.ins T.C_Machine dx (putF "room_names" (.ref nq) (putF "watch_names" (.ref w1) []))) = H6
        have off6 : OffN p H H6 := ⟨⟨_, dx, hp⟩, fun b o e z => by rw [← h6, upd_ne z]; exact s15 _ _ e⟩
        have hp6 : H6 p = some (.ins T.C_Machine dx (putF "room_names" (.ref nq) (putF "watch_names" (.ref w1) []))) := by rw [← h6, upd_same]
        obtain ⟨rqs6, q1, q2, q3⟩ := off6.i.rs hrs
        walk_at "rd"
        refine seq_step ?_
        refine lcg_src ?_
        refine ⟨_, rfl, pr, rfl, ⟨_, .of q1⟩, ?_⟩
        refine lcM (R := fun Hx q x => LsAt Hx q x ∧ H6 q = none) (fun H H' q x s h => ⟨LsAt.keep h.1 s, h.2⟩) (F := fun r : Rq => r.2) (zs := M.rooms) q1 (by simp [q2]) (by simp; omega) (fun i x z H7 Yes hx hz s7 hy => ?_) (fun slq H7 s7 f7 e7 => ?_)
        · rw [List.getElem?_map] at hx
          obtain ⟨qi, h1, rfl⟩ := Option.map_eq_some_iff.mp hx
          obtain ⟨g, e, ⟨gs, g1, g2, g3⟩⟩ := q3 i qi z h1 hz
          walk_at "rd"
          refine ix_t (sqt (s7 _ _ e)) (by decide) rfl ?_
          walk_at "rd"
          exact ⟨_, .inl (.of (s7 _ _ g1)), fun l H8 s8 f8 e8 => hy l H8 s8 ⟨⟨gs, cut_new f8 e8, g2, fun i q x h1 h2 => (g3 i q x h1 h2).keep (cut_same (s7.trans s8))⟩, s7.free f8⟩⟩
        · refine ⟨_, rfl, p, _, dx, _, rfl, s7 _ _ hp6, T.cl_Machine, T.n_Machine_stay_looks, (by show 2 < 1000; decide), ?_⟩
          generalize h8 : upd H7 p (.ins T.C_Machine dx (putF "stay_looks" (.ref slq) (putF "room_names" (.ref nq) (putF "watch_names" (.ref w1) [])))) = H8
          have hp8 : H8 p = some (.ins T.C_Machine dx (putF "stay_looks" (.ref slq) (putF "room_names" (.ref nq) (putF "watch_names" (.ref w1) [])))) := by rw [← h8, upd_same]
          have up68 : ∀ b o, H6 b = some o → b ≠ p → H8 b = some o := fun b o e z => by rw [← h8, upd_ne z]; exact s7 _ _ e
          have off8 : OffN p H H8 := ⟨⟨_, dx, hp⟩, fun b o e z => up68 b o (off6.2 b o e z) z⟩
          obtain ⟨dqs8, t1, t2, t3⟩ := off8.ds hds
          refine ⟨_, rfl, pd, _, rfl, .inl (.of t1), fun dl H9 s9 f9 e9 => ?_⟩
          refine ⟨_, rfl, p, _, dx, _, rfl, s9 _ _ hp8, T.cl_Machine, T.n_Machine_door_list, (by show 3 < 1000; decide), ?_⟩
          generalize h10 : upd H9 p (.ins T.C_Machine dx (putF "door_list" (.ref dl) (putF "stay_looks" (.ref slq) (putF "room_names" (.ref nq) (putF "watch_names" (.ref w1) []))))) = H10
          have up810 : ∀ b o, H8 b = some o → b ≠ p → H10 b = some o := fun b o e z => by rw [← h10, upd_ne z]; exact s9 _ _ e
          have off10 : OffN p H H10 := ⟨⟨_, dx, hp⟩, fun b o e z => up810 b o (off8.2 b o e z) z⟩
          have hp9 := s9 _ _ hp8
          have o510 : OffI p H5 H10 := ⟨⟨_, dx, _, s5 _ _ hp4⟩, fun b o e z => up810 b o (up68 b o (by rw [← h6, upd_ne z]; exact e) z) z⟩
          have o710 : OffI p H7 H10 := ⟨⟨_, dx, _, s7 _ _ hp6⟩, fun b o e z => up810 b o (by rw [← h8, upd_ne z]; exact e) z⟩
          have o910 : OffI p H9 H10 := ⟨⟨_, dx, _, hp9⟩, fun b o e z => by rw [← h10, upd_ne z]; exact e⟩
          have hp10 : H10 p = some (.ins T.C_Machine dx (machF w1 nq slq dl)) := by rw [← h10, upd_same]; rfl
          have hnq := o510.lst ((s4.trans s5) _ _ (e3.trans (by rw [List.map_map]; rfl : some (HO.lst (M.rooms.map fun r => V.str r.1)) = some (HO.lst ((M.rooms.map (·.1)).map V.str)))))
          refine q H10 off10 ⟨dx, w1, nq, slq, dl, hp10, o510.lst e5, hnq, ?_, ?_⟩ ?_
          · have e7' : SeqOf LsAt H7 slq (M.rooms.map fun r : Rq => r.2) := by
              obtain ⟨qs, a, b, c⟩ := e7
              exact ⟨qs, a, b, fun i q x h1 h2 => (c i q x h1 h2).1⟩
            exact o710.seq (fun _ _ h => o710.ls h) e7'
          · exact ⟨dqs8, o910.lst e9, t2, fun i q x h1 h2 => by
              obtain ⟨dqs', u1, u2, u3⟩ := off10.ds hds
              have : dqs' = dqs8 := by
                have e1 := off8.i.lst d1
                have e2 := off10.i.lst d1
                rw [t1] at e1; rw [u1] at e2
                have inj : ∀ xs ys : List Addr, xs.map V.ref = ys.map V.ref → xs = ys := fun xs ys h => List.map_inj_right (f := V.ref) (fun a b e => by cases e; rfl) |>.mp h
                have a1 : dqs8.map V.ref = dqs.map V.ref := by simpa using e1
                have a2 : dqs'.map V.ref = dqs.map V.ref := by simpa using e2
                exact inj _ _ (a2.trans a1.symm)
              subst this
              exact u3 i q x h1 h2⟩
          · intro U u hdU
            have lst10 : ∀ b xs, H b = some (.lst xs) → H10 b = some (.lst xs) := fun b xs e => off10.i.lst e
            have isU : ∀ b, U b → ∃ o, H b = some o := fun b h => let ⟨xs, e⟩ := u b h; ⟨_, e⟩
            have pU : ¬ U p := fun h => by
              obtain ⟨xs, e⟩ := u p h
              rw [hp] at e; cases e
            have freshU : ∀ {Hx : Hp} {b : Addr}, Same H Hx → Hx b = none → ¬ U b := fun {Hx b} s f h => by
              obtain ⟨o, e⟩ := isU b h
              rw [s _ _ e] at f; cases f
            refine ⟨dx, w1, nq, slq, dl, rem_at pU hp10, rem_at (freshU s14 f5) (o510.lst e5), rem_at (freshU s12 f3) hnq, ?_, ?_⟩
            · obtain ⟨zqs, z1, z2, z3⟩ := o710.seq (R := fun Hx q x => LsAt Hx q x ∧ H6 q = none) (fun q x h => ⟨o710.ls h.1, h.2⟩) e7
              refine ⟨zqs, rem_at (fun h => ?_) z1, z2, fun i q x h1 h2 => ?_⟩
              · obtain ⟨xs, e⟩ := u slq h
                rw [off6.i.lst e] at f7; cases f7
              · obtain ⟨y1, y2⟩ := z3 i q x h1 h2
                refine y1.rem u lst10 fun h => ?_
                obtain ⟨xs, e⟩ := u q h
                rw [off6.i.lst e] at y2; cases y2
            · refine ⟨dqs8, rem_at (fun h => ?_) (o910.lst e9), t2, fun i q x h1 h2 => ?_⟩
              · obtain ⟨xs, e⟩ := u dl h
                rw [off8.i.lst e] at f9; cases f9
              · have e8' := lst_inj t1 (off8.i.lst d1)
                subst e8'
                have dx0 := hdU q x (d3 i q x h1 h2) (List.mem_of_getElem? h2) ⟨dqs8, i, d1, h1, h2⟩
                obtain ⟨ddx, dg, dn, k1, k2, k3⟩ := dx0
                have nn := rem_of k1
                have tr : ∀ b xs, remU U H b = some (.lst xs) → remU U H10 b = some (.lst xs) := fun b xs e => rem_at (rem_of e).1 (off10.i.lst (rem_of e).2)
                have tt : ∀ b xs, remU U H b = some (.tup xs) → remU U H10 b = some (.tup xs) := fun b xs e => rem_at (rem_of e).1 (off10.i.tup (rem_of e).2)
                obtain ⟨ls1, ls2, ls3, ls4⟩ := k2
                obtain ⟨odx, og, on, oa, ob, oc⟩ := off10.door (d3 i q x h1 h2)
                have k1' : H10 q = some (.ins T.C_Door ddx (doorF x.st x.en x.sg dg dn)) := off10.2 _ _ nn.2 (fun z => by
                  rw [z, hp] at nn
                  have l := door_start (st := x.st) (en := x.en) (sg := x.sg) (g := dg) (n := dn)
                  have e : ([] : List (Str × V)) = doorF x.st x.en x.sg dg dn := by have a := nn.2; injection a with a; injection a
                  rw [← e] at l; cases l)
                exact ⟨ddx, dg, dn, rem_at nn.1 k1', ⟨ls1, tr _ _ ls2, ls3, fun i q x h1 h2 => ⟨tt _ _ (ls4 i q x h1 h2).1, (ls4 i q x h1 h2).2⟩⟩, tr _ _ k3⟩
def spMWatches (CM CD : Addr) : Sp := fun vs H Q _ => ∃ (p : Addr) (M : MachD), vs = [.ref p] ∧ MachAt CM CD H p M ∧ ∀ q H', Same H H' → H q = none → H' q = some (.lst (M.watches.map V.str)) → Q (.ref q) H'
theorem ok_Machine_watches (T : Top K mg) : FnOk P w K mg base CX0 1 T.f_Machine_watches T.d_Machine_watches ["self"] (spMWatches T.C_Machine T.C_Door) := by
  refine T.F_Machine_watches.ok sc_Machine_watches (fun vs H Q E h => ?_) (fun cdv A outer s H vs Q E hr h => ?_)
  · obtain ⟨p, M, rfl, _⟩ := h; rfl
  · obtain ⟨p, M, rfl, ⟨dx, wn, rn, sl, dl, a, b, c, d, e⟩, q⟩ := h
    refine ⟨_, (pss_one (ps_ret (pe_callTy (call_listA (K := K) rfl) (by rfl) T.m_list (by decide +kernel) (pa_cons (pe_fldA (K := K) rfl (pv 0) rfl) pa_nil)))), ?_⟩
    refine ⟨_, rfl, p, _, dx, _, _, rfl, a, T.cl_Machine, T.n_Machine_watch_names, mach_watch, ?_⟩
    walk_at "rd"
    exact ⟨_, .inl (.of b), fun l H s f e => q l H s f e⟩
def spMRooms (CM CD : Addr) : Sp := fun vs H Q _ => ∃ (p : Addr) (M : MachD), vs = [.ref p] ∧ MachAt CM CD H p M ∧ ∀ q H', Same H H' → H q = none → H' q = some (.lst ((M.rooms.map (·.1)).map V.str)) → Q (.ref q) H'
theorem ok_Machine_rooms (T : Top K mg) : FnOk P w K mg base CX0 1 T.f_Machine_rooms T.d_Machine_rooms ["self"] (spMRooms T.C_Machine T.C_Door) := by
  refine T.F_Machine_rooms.ok sc_Machine_rooms (fun vs H Q E h => ?_) (fun cdv A outer s H vs Q E hr h => ?_)
  · obtain ⟨p, M, rfl, _⟩ := h; rfl
  · obtain ⟨p, M, rfl, ⟨dx, wn, rn, sl, dl, a, b, c, d, e⟩, q⟩ := h
    refine ⟨_, (pss_one (ps_ret (pe_callTy (call_listA (K := K) rfl) (by rfl) T.m_list (by decide +kernel) (pa_cons (pe_fldA (K := K) rfl (pv 0) rfl) pa_nil)))), ?_⟩
    refine ⟨_, rfl, p, _, dx, _, _, rfl, a, T.cl_Machine, T.n_Machine_room_names, mach_room, ?_⟩
    walk_at "rd"
    exact ⟨_, .inl (.of c), fun l H s f e => q l H s f e⟩
def spMDoors (CM CD : Addr) : Sp := fun vs H Q _ => ∃ (p : Addr) (M : MachD), vs = [.ref p] ∧ MachAt CM CD H p M ∧ ∀ q H' (qs : List Addr), Same H H' → H q = none → H' q = some (.lst (qs.map V.ref)) → qs.length = M.doors.length → (∀ H0, Same H0 H → MachAt CM CD H0 p M → ∀ (i : Nat) (q : Addr) (x : DoorD), qs[i]? = some q → M.doors[i]? = some x → DoorAt CD H0 q x) → Q (.ref q) H'
theorem ok_Machine_doors (T : Top K mg) : FnOk P w K mg base CX0 1 T.f_Machine_doors T.d_Machine_doors ["self"] (spMDoors T.C_Machine T.C_Door) := by
  refine T.F_Machine_doors.ok sc_Machine_doors (fun vs H Q E h => ?_) (fun cdv A outer s H vs Q E hr h => ?_)
  · obtain ⟨p, M, rfl, _⟩ := h; rfl
  · obtain ⟨p, M, rfl, ⟨dx, wn, rn, sl, dl, a, b, c, d, ⟨qs, e1, e2, e3⟩⟩, q⟩ := h
    refine ⟨_, (pss_one (ps_ret (pe_callTy (call_listA (K := K) rfl) (by rfl) T.m_list (by decide +kernel) (pa_cons (pe_fldA (K := K) rfl (pv 0) rfl) pa_nil)))), ?_⟩
    refine ⟨_, rfl, p, _, dx, _, _, rfl, a, T.cl_Machine, T.n_Machine_door_list, mach_door, ?_⟩
    walk_at "rd"
    refine ⟨_, .inl (.of e1), fun l H' s f e => q l H' qs s f e e2 fun H0 s0 ⟨dx', wn', rn', sl', dl', a', _, _, _, ⟨qs', u1, u2, u3⟩⟩ i q x h1 h2 => ?_⟩
    have e0 := s0 _ _ a'
    rw [a] at e0
    have hf : machF wn rn sl dl = machF wn' rn' sl' dl' := by injection e0 with e0; injection e0
    obtain ⟨_, _, _, rfl⟩ := machF_inj hf
    obtain rfl := lst_inj e1 (s0 _ _ u1)
    exact u3 i q x h1 h2
theorem index_of {xs : List Str} {x : Str} (h : x ∈ xs) : ∃ j, xs.idxOf x = j ∧ (xs.map V.str)[j]? = some (.str x) ∧ ∀ (m : Nat) (z : V), m < j → (xs.map V.str)[m]? = some z → eqV z (.str x) = false := by
  refine ⟨_, rfl, ?_, fun m z hm hz => ?_⟩
  · rw [List.getElem?_map, List.getElem?_eq_getElem (List.idxOf_lt_length_of_mem h)]
    simp
  · rw [List.getElem?_map] at hz
    obtain ⟨y, h1, rfl⟩ := Option.map_eq_some_iff.mp hz
    obtain ⟨hl, h2⟩ := List.getElem?_eq_some_iff.mp h1
    have : y ≠ x := fun e => by
      have := List.not_of_lt_findIdx (p := (· == x)) (xs := xs) (i := m) hm
      rw [h2, e] at this
      simp at this
    simp [eqV, this]
def spMStay (CM CD : Addr) : Sp := fun vs H Q _ => ∃ (p : Addr) (M : MachD) (r : Rq), vs = [.ref p, .str r.1] ∧ MachAt CM CD H p M ∧ r ∈ M.rooms ∧ (M.rooms.map (·.1)).Nodup ∧ ∀ q H', Same H H' → H q = none → LsAt H' q r.2 → Q (.ref q) H'
theorem ok_Machine_stay (T : Top K mg) : FnOk P w K mg base CX0 1 T.f_Machine_stay T.d_Machine_stay ["self", "room"] (spMStay T.C_Machine T.C_Door) := by
  refine T.F_Machine_stay.ok sc_Machine_stay (fun vs H Q E h => ?_) (fun cdv A outer s H vs Q E hr h => ?_)
  · obtain ⟨p, M, r, rfl, _⟩ := h; rfl
  · obtain ⟨p, M, r, rfl, ⟨dx, wn, rn, sl, dl, a, b, c, ⟨qs, d1, d2, d3⟩, e⟩, hmem, nd, q⟩ := h
    refine ⟨_, (pss_one (ps_ret (pe_callTy (call_listA (K := K) rfl) (by rfl) T.m_list (by decide +kernel) (pa_cons (pe_ix (ix_listA (K := K) rfl) (pe_fldA (K := K) rfl (pv 0) rfl) (pe_bm PySem.F.plainAttrs_list PySem.F.slot_list_index PySem.F.type_list_index mt_index (pe_fldA (K := K) rfl (pv 0) rfl) (pa_cons (pv 1) pa_nil)) (fun _ _ => rfl)) pa_nil)))), ?_⟩
    obtain ⟨j, ej, hj, hno⟩ := index_of (List.mem_map_of_mem hmem : r.1 ∈ M.rooms.map (·.1))
    have hj2 : M.rooms[j]? = some r := by
      obtain ⟨m, hm, e2⟩ := List.mem_iff_getElem.mp hmem
      have hm2 : (M.rooms.map (·.1))[m]? = some r.1 := by rw [List.getElem?_map, List.getElem?_eq_getElem hm, e2]; rfl
      have hj3 : (M.rooms.map (·.1))[j]? = some r.1 := by
        rw [List.getElem?_map] at hj
        obtain ⟨y, h1, h2⟩ := Option.map_eq_some_iff.mp hj
        rw [h1]; exact congrArg some (by simpa using h2)
      have : m = j := (List.getElem?_inj (by simpa using hm) nd).mp (hm2.trans hj3.symm)
      rw [← this, List.getElem?_eq_getElem hm, e2]
    refine ⟨_, rfl, p, _, dx, _, _, rfl, a, T.cl_Machine, T.n_Machine_stay_looks, mach_stay, ?_⟩
    refine ⟨_, rfl, p, _, dx, _, _, rfl, a, T.cl_Machine, T.n_Machine_room_names, mach_room, .inl ⟨rfl, _, .of c⟩, ?_⟩
    walk_at "rd"
    refine ⟨rn, _, _, j, _, rfl, rfl, .of c, rfl, flat_of, hj, by simp [eqV], hno, ?_⟩
    have hjl := (List.getElem?_eq_some_iff.mp hj2).1
    rw [List.length_map] at d2
    have hq := List.getElem?_eq_getElem (l := qs) (i := j) (by omega)
    have hls := d3 j _ r.2 hq (by rw [List.getElem?_map, hj2]; rfl)
    generalize qs[j] = ql at *
    obtain ⟨rs, f1, f2, f3⟩ := hls
    refine ix_l (.of d1) (by omega) (by rw [Int.toNat_natCast, List.getElem?_map, hq]; rfl) ?_
    walk_at "rd"
    exact ⟨_, .inl (.of f1), fun l H' s' f e => q l H' s' f ⟨rs, e, f2, fun i q x h1 h2 => (f3 i q x h1 h2).keep s'⟩⟩
def spMNum (CM CD : Addr) : Sp := fun vs H Q _ => ∃ (p : Addr) (M : MachD) (x : Str), vs = [.ref p, .str x] ∧ MachAt CM CD H p M ∧ x ∈ M.watches ∧ Q (.int (((M.watches.idxOf x + 1 : Nat)) : Int)) H
theorem ok_Machine_watch_number (T : Top K mg) : FnOk P w K mg base CX0 1 T.f_Machine_watch_number T.d_Machine_watch_number ["self", "name"] (spMNum T.C_Machine T.C_Door) := by
  refine T.F_Machine_watch_number.ok sc_Machine_watch_number (fun vs H Q E h => ?_) (fun cdv A outer s H vs Q E hr h => ?_)
  · obtain ⟨p, M, x, rfl, _⟩ := h; rfl
  · obtain ⟨p, M, x, rfl, ⟨dx, wn, rn, sl, dl, a, b, c, d, e⟩, hmem, q⟩ := h
    refine ⟨_, (pss_one (ps_ret (pe_op op_add pe_int (pe_bm PySem.F.plainAttrs_list PySem.F.slot_list_index PySem.F.type_list_index mt_index (pe_fldA (K := K) rfl (pv 0) rfl) (pa_cons (pv 1) pa_nil))))), ?_⟩
    obtain ⟨j, ej, hj, hno⟩ := index_of hmem
    refine ⟨_, rfl, p, _, dx, _, _, rfl, a, T.cl_Machine, T.n_Machine_watch_names, mach_watch, .inl ⟨rfl, _, .of b⟩, ?_⟩
    walk_at "rd"
    refine ⟨wn, _, _, j, _, rfl, rfl, .of b, rfl, flat_of, hj, by simp [eqV], hno, ?_⟩
    rw [ej] at q
    refine ⟨_, rfl, ?_⟩
    rw [show (1 : Int) + (j : Int) = ((j + 1 : Nat) : Int) by omega]
    exact q
abbrev WORDS : List Str := ["<", "<=", ">", ">=", "="]
/-! ### what is new between two heaps -/
open Classical in
noncomputable def newH (H H' : Hp) : Hp := fun b => if H b = none then H' b else none
theorem new_at {H H' : Hp} {b : Addr} {o : HO} (f : H b = none) (e : H' b = some o) : newH H H' b = some o := by unfold newH; rw [if_pos f]; exact e
theorem new_of {H H' : Hp} {b : Addr} {o : HO} (e : newH H H' b = some o) : H b = none ∧ H' b = some o := by
  unfold newH at e
  by_cases h : H b = none
  · rw [if_pos h] at e; exact ⟨h, e⟩
  · rw [if_neg h] at e; cases e
theorem new_sub {H H' : Hp} : Same (newH H H') H' := fun b o e => (new_of e).2
theorem new_mono {H1 H H' H2 : Hp} (s1 : Same H1 H) (s2 : Same H' H2) : Same (newH H H') (newH H1 H2) := fun b o e => by
  have := new_of e
  exact new_at (s1.free this.1) (s2 _ _ this.2)
theorem new_later {H H' H2 : Hp} (s2 : Same H' H2) : Same (newH H H') (newH H H2) := new_mono (Same.refl _) s2
theorem new_del {H H' : Hp} {D : Addr} {o : HO} (e : H D = some o) : Same (newH H H') (delH D H') := fun b o' h => by
  have := new_of h
  exact del_at (fun z => by rw [z, e] at this; cases this.1) this.2
theorem new_upd {H H' : Hp} {g : Addr} {o : HO} (f : H g = none) : newH H (upd H' g o) = upd (newH H H') g o := by
  funext b
  by_cases h : b = g
  · rw [h, upd_same]; exact new_at f upd_same
  · rw [upd_ne h]
    unfold newH
    rw [upd_ne h]
theorem new_refl {H : Hp} {b : Addr} : newH H H b = none := by
  unfold newH
  by_cases h : H b = none
  · rw [if_pos h, h]
  · rw [if_neg h]
/-! ### the law's own machines, as they are drawn -/
structure LDoor where
  b : Nat
  e : Nat
  gd : List Lq
  ns : List Str
  sg : Str
def LDoorAt (H : Hp) (q : Addr) (d : LDoor) : Prop := ∃ g n, H q = some (.tup [.int d.b, .int d.e, .ref g, .ref n, .str d.sg]) ∧ LsAt H g d.gd ∧ H n = some (.lst (d.ns.map V.str))
theorem LDoorAt.keep {H H' : Hp} {q : Addr} {d : LDoor} (s : Same H H') (h : LDoorAt H q d) : LDoorAt H' q d := by
  obtain ⟨g, n, a, b, c⟩ := h
  exact ⟨g, n, s _ _ a, b.keep s, s _ _ c⟩
structure Spec where
  watches : List Str
  rooms : List Rq
  doors : List LDoor
def SpecAt (H : Hp) (q : Addr) (S : Spec) : Prop := ∃ w r d, H q = some (.tup [.ref w, .ref r, .ref d]) ∧ H w = some (.lst (S.watches.map V.str)) ∧ RsAt H r S.rooms ∧ SeqOf LDoorAt H d S.doors
theorem SpecAt.keep {H H' : Hp} {q : Addr} {S : Spec} (s : Same H H') (h : SpecAt H q S) : SpecAt H' q S := by
  obtain ⟨w, r, d, a, b, c, e⟩ := h
  exact ⟨w, r, d, s _ _ a, s _ _ b, c.keep s, SeqOf.keep (fun _ _ => LDoorAt.keep s) s e⟩
def NumsOk (ls : List Lq) : Prop := ∀ l ∈ ls, ∃ n : Int, l.2.2 = .int n ∧ 0 ≤ n ∧ Sz 210 n
structure SpecOk (S : Spec) : Prop where
  w : NamesOk S.watches S.watches.length
  w2 : S.watches.length ≤ 2
  r : NamesOk (S.rooms.map (·.1)) S.rooms.length
  r1 : 1 ≤ S.rooms.length
  r4 : S.rooms.length ≤ 4
  st : ∀ r ∈ S.rooms, guardOk ["<", "<="] S.watches r.2 = true ∧ r.2.length ≤ 2 ∧ NumsOk r.2
  d6 : S.doors.length ≤ 6
  d : ∀ d ∈ S.doors, d.b < S.rooms.length ∧ d.e < S.rooms.length ∧ guardOk WORDS S.watches d.gd = true ∧ d.gd.length ≤ 2 ∧ NumsOk d.gd ∧ d.ns.Nodup ∧ (∀ x ∈ d.ns, x ∈ S.watches) ∧ (d.sg = "" ∨ d.sg = "go!")
def Spec.name (S : Spec) (i : Nat) : Str := (S.rooms.map (·.1)).getD i ""
def Spec.door (S : Spec) (d : LDoor) : DoorD := ⟨S.name d.b, S.name d.e, d.sg, d.gd, d.ns⟩
def Spec.mach (S : Spec) : MachD := ⟨S.watches, S.rooms, S.doors.map S.door⟩
theorem okName_okT {x : Str} (h : okName x = true) : okT x (letters ++ ("/" : Str)) 60 = true := by
  unfold okName okT at h
  rw [Bool.and_eq_true, Bool.and_eq_true, List.all_eq_true] at h
  unfold okT
  rw [Bool.and_eq_true, Bool.and_eq_true, List.all_eq_true]
  refine ⟨⟨h.1.1, decide_eq_true (by have := of_decide_eq_true h.1.2; omega)⟩, fun c hc => decide_eq_true ?_⟩
  have := of_decide_eq_true (h.2 c hc)
  rw [show (letters ++ ("/" : Str)).cps.toList = letters.cps.toList ++ ("/" : Str).cps.toList by decide +kernel]
  exact List.mem_append_left _ this
theorem name_at {S : Spec} {i : Nat} (h : i < S.rooms.length) : ∃ r : Rq, S.rooms[i]? = some r ∧ S.name i = r.1 := by
  refine ⟨S.rooms[i], List.getElem?_eq_getElem h, ?_⟩
  unfold Spec.name
  rw [List.getD_eq_getElem?_getD, List.getElem?_map, List.getElem?_eq_getElem h]; rfl
theorem name_mem {S : Spec} {i : Nat} (h : i < S.rooms.length) : S.name i ∈ S.rooms.map (·.1) := by
  obtain ⟨r, h1, h2⟩ := name_at h
  rw [h2]; exact List.mem_map_of_mem (List.mem_of_getElem? h1)
theorem SpecOk.mach {S : Spec} (h : SpecOk S) : MachOk S.mach where
  w7 := by show S.watches.length ≤ 7; have := h.w2; omega
  wok := List.all_eq_true.mpr fun x hx => by
    have := h.w.2.1 x hx
    unfold okWatch; rw [this, Bool.or_true]
  wnd := h.w.2.2.1
  rok := List.all_eq_true.mpr fun r hr => by
    have h1 := okName_okT (h.r.2.1 r.1 (List.mem_map_of_mem hr))
    have h2 := (h.st r hr).1
    unfold roomOk
    rw [h1]
    exact h2
  rnd := h.r.2.2.1
  rne := fun z => by
    have h1 := h.r1
    have z : S.rooms = [] := z
    rw [z] at h1; simp at h1
  r64 := by show S.rooms.length ≤ 64; have := h.r4; omega
  dok := List.all_eq_true.mpr fun d hd => by
    obtain ⟨d', hd', rfl⟩ := List.mem_map.mp hd
    obtain ⟨a, b, c, _, _, e, f, g⟩ := h.d d' hd'
    unfold doorOk
    have s1 : okSign (S.door d').sg = true := by
      show okSign d'.sg = true
      rcases g with g | g <;> rw [g] <;> decide +kernel
    have s2 : (S.door d').backs.all (fun b => decide (b ∈ S.mach.watches)) = true := List.all_eq_true.mpr fun x hx => decide_eq_true (f x hx)
    rw [s1, s2, decide_eq_true (show (S.door d').st ∈ S.mach.rooms.map (·.1) from name_mem a), decide_eq_true (show (S.door d').en ∈ S.mach.rooms.map (·.1) from name_mem b), decide_eq_true (show (S.door d').backs.Nodup from e)]
    have s3 : guardOk ["<", "<=", ">", ">=", "="] S.mach.watches (S.door d').looks = true := c
    rw [s3]; rfl
  d200 := by show (S.doors.map S.door).length ≤ 200; rw [List.length_map]; have := h.d6; omega
  rsz := fun r hr => by have := (h.st r hr).2.1; omega
  dsz := fun d hd => by
    obtain ⟨d', hd', rfl⟩ := List.mem_map.mp hd
    have := (h.d d' hd').2.2.2.1
    show d'.gd.length ≤ 60
    omega
abbrev lqKeep : ∀ (H H' : Hp) (q : Addr) (x : Lq), Same H H' → LqAt H q x → LqAt H' q x := fun _ _ _ _ s h => LqAt.keep s h
theorem pick_word {ws : List Str} {i : Int} (h : 0 ≤ i ∧ i < (ws.length : Int)) : ∃ x, (ws.map V.str)[i.toNat]? = some (.str x) ∧ x ∈ ws := by
  have h1 : i.toNat < ws.length := by omega
  exact ⟨ws[i.toNat], by rw [List.getElem?_map, List.getElem?_eq_getElem h1]; rfl, List.getElem_mem h1⟩
theorem RqAt.keep' : ∀ (H H' : Hp) (q : Addr) (x : Rq), Same H H' → RqAt H q x → RqAt H' q x := fun _ _ _ _ s h => RqAt.keep s h
def PlAt (ws : List Str) (H : Hp) (q : Addr) (l : Lq) : Prop := ∃ n : Int, l.2.2 = .int n ∧ H q = some (.tup [.int ((ws.idxOf l.1 + 1 : Nat) : Int), .str l.2.1, .int n])
/-- what is none of a guard -/
inductive NoGuard (K : PySem.W.Frag) (H : Hp) (ws watches : List Str) : V → Prop where
  | lst {p : Addr} {xs : List V} {bs : List Bool} (h : H p = some (.lst xs)) (hl : xs.length = bs.length) (h60 : xs.length ≤ 60) (c : ∀ (i : Nat) (x : V) (b : Bool), xs[i]? = some x → bs[i]? = some b → ThgAt K H ws watches x b) (bad : bs.all id = false) : NoGuard K H ws watches (.ref p)
  | kind {x : V} {t : String} (h : TyX K H x (.type t)) (k : t ∈ kinds) (n : t ≠ "list") : NoGuard K H ws watches x
def spPlaced (K : PySem.W.Frag) (CM CD CN : Addr) : Sp := fun vs H Q E => (∃ (pm pg : Addr) (M : MachD) (ls : List Lq), vs = [.ref pm, .ref pg] ∧ MachAt CM CD H pm M ∧ LsAt H pg ls ∧ ls.length ≤ 60 ∧
  ((guardOk WORDS M.watches ls = true ∧ ∀ p H', Same H H' → H p = none → SeqOf (PlAt M.watches) H' p ls → Q (.ref p) H') ∨ (guardOk WORDS M.watches ls = false ∧ ∀ H', Same H H' → E (.ref CN) none H'))) ∨
  (∃ (pm : Addr) (x : V) (M : MachD), vs = [.ref pm, x] ∧ MachAt CM CD H pm M ∧ NoGuard K H WORDS M.watches x ∧ ∀ H', Same H H' → E (.ref CN) none H')
theorem ok_placed (T : Top K mg) : FnOk P w K mg base (L2.CX P w) 4 T.f_placed T.d_placed ["machine", "guard"] (spPlaced K T.C_Machine T.C_Door T.C_NoMark) := by
  refine T.F_placed.okX sc_placed (fun vs H Q E h => ?_) (fun cdv A outer s H vs Q E hr h => ?_)
  · rcases h with ⟨pm, pg, M, ls, rfl, _⟩ | ⟨pm, x, M, rfl, _⟩ <;> rfl
  · refine ⟨_, (pss_cons (ps_set (i := 2) sc_placed.nd rfl (.inl rfl) (pe_meth0 (pv 0) T.cl_Machine T.m_Machine_watches (ok_Machine_watches T) (hr.mono (by decide)) T.b_Machine_watches .nil pass0))
      (pss_cons (ps_if (pt_not (pt_val (pe_call (ok_is_guard T) (hr.mono (by decide)) rfl T.g_is_guard T.F_is_guard.kp T.b_is_guard .nil pass0 (pa_cons (pv 1) (pa_cons (pe_glob (v := .ref T.t_WORDS) rfl T.g_WORDS rfl) (pa_cons (pv 2) pa_nil)))))) (pss_one (ps_raise rfl (takes_of rfl rfl rfl rfl) (pmk_own PySem.F.excBase_ValueError T.x_NoMark T.g_NoMark T.k_NoMark (raises_own T.b_NoMark T.t_NoMark) rfl))) pss_nil)
      (pss_one (ps_ret (lc_vs (vs := [3, 4, 5]) (pe_lc (own := [("watch", 3), ("word", 4), ("number", 5)]) (tt := tYes) rfl sc_placed.nd (pi_listA (K := K) rfl (pv 1)) (blkOk_by (own := [("watch", 3), ("word", 4), ("number", 5)]) (N := ["machine", "guard", "watches", "watch", "word", "number"]) (sc := defScope s_placed) (by decide +kernel)) (fun _ _ _ _ _ => (pg_tupA (K := K) (n := 3) rfl (by rfl) (pgs_cons (pg_name (i := 3) sc_placed.nd rfl (.inl rfl)) (pgs_cons (pg_name (i := 4) sc_placed.nd rfl (.inl rfl)) (pgs_cons (pg_name (i := 5) sc_placed.nd rfl (.inl rfl)) pgs_nil))))) (fun _ _ _ _ _ => pts_nil) (fun _ _ _ _ _ => (pe_tupN (pa_cons (pe_meth (pv 0) T.cl_Machine T.m_Machine_watch_number (ok_Machine_watch_number T) (hr.mono (by decide)) T.b_Machine_watch_number .nil pass0 (pa_cons (pv 3) pa_nil)) (pa_cons (pv 4) (pa_cons (pv 5) pa_nil)))))) rfl))))), ?_⟩
    rcases h with ⟨pm, pg, M, ls, rfl, hm, hg, h60, q⟩ | ⟨pm, x, M, rfl, hm, hn, q⟩
    rotate_left
    · obtain ⟨dx, wn, rn, sl, dl, a, _⟩ := id hm
      refine seq_step ?_
      refine ⟨_, rfl, pm, dx, _, rfl, a, mach_no (by decide +kernel) (by decide +kernel) (by decide +kernel) (by decide +kernel), pm, M, rfl, hm, fun wq H1 s1 f1 e1 => ?_⟩
      walk_at "rd"
      refine seq_step ?_
      walk_at "rt"
      cases hn with
      | @lst p xs bs h hl h60 c bad =>
        refine .inr (.inl ⟨p, T.t_WORDS, wq, xs, bs, WORDS, M.watches, rfl, s1 _ _ h, hl, h60, fun i x b h1 h2 => (c i x b h1 h2).keep s1, .inr (T.q_WORDS _), .inl (.of e1), fun H2 s2 => ?_⟩)
        rw [bad]
        walk_at "rd"
        exact q _ (s1.trans s2)
      | kind h k n =>
        refine .inr (.inr ⟨_, _, T.t_WORDS, wq, rfl, tyx_same s1 h, k, n, ?_⟩)
        walk_at "rd"
        exact q _ s1
    obtain ⟨dx, wn, rn, sl, dl, a, _⟩ := id hm
    obtain ⟨qs, g1, g2, g3⟩ := id hg
    refine seq_step ?_
    refine ⟨_, rfl, pm, dx, _, rfl, a, mach_no (by decide +kernel) (by decide +kernel) (by decide +kernel) (by decide +kernel), pm, M, rfl, hm, fun wq H1 s1 f1 e1 => ?_⟩
    walk_at "rd"
    refine seq_step ?_
    walk_at "rt"
    refine .inl ⟨pg, T.t_WORDS, wq, ls, WORDS, M.watches, rfl, hg.keep s1, .inr (T.q_WORDS _), .inl (.of e1), h60, fun H2 s2 => ?_⟩
    have s12 := s1.trans s2
    rcases q with ⟨ok, q⟩ | ⟨bad, q⟩
    · rw [ok]
      walk_at "rd"
      refine lcg_src ?_
      walk_at "rd"
      refine ⟨⟨_, .of (s12 _ _ g1)⟩, ?_⟩
      refine lcM (R := PlAt M.watches) (fun H H' q x s ⟨n, h1, h2⟩ => ⟨n, h1, s _ _ h2⟩) (F := id) (zs := ls) (s12 _ _ g1) (by simp [g2]) (by simp; omega) (fun i x z H3 Yes hx hz s3 hy => ?_) (fun D H3 s3 f3 e3 => ?_)
      · rw [List.getElem?_map] at hx
        obtain ⟨qi, h1, rfl⟩ := Option.map_eq_some_iff.mp hx
        have s13 := s12.trans s3
        obtain ⟨ez, kz⟩ := (g3 i qi z h1 hz).keep s13
        have lz := List.all_eq_true.mp ok z (List.mem_of_getElem? hz)
        unfold lookOk at lz
        rw [Bool.and_eq_true, Bool.and_eq_true] at lz
        have wz := of_decide_eq_true lz.1.1
        obtain ⟨n, hn⟩ : ∃ n, z.2.2 = .int n := by
          have := lz.2
          cases hv : z.2.2 <;> rw [hv] at this <;> first | exact ⟨_, rfl⟩ | cases this
        refine gTup_of (sqt ez) rfl ?_
        walk_at "rd"
        refine ⟨_, rfl, pm, dx, _, rfl, s13 _ _ a, mach_no (by decide +kernel) (by decide +kernel) (by decide +kernel) (by decide +kernel), ?_⟩
        walk_at "rd"
        refine ⟨pm, M, z.1, rfl, hm.keep s13, wz, ?_⟩
        intro r H4 s4 f4 e4
        exact hy r H4 s4 ⟨n, hn, cut_new f4 (by rw [← hn]; exact e4)⟩
      · exact q D H3 (s12.trans s3) (s12.free f3) (by simpa using e3)
    · rw [bad]
      walk_at "rd"
      exact q _ s12
def markOk (M : MachD) (r : Rq) : Bool := decide (r.1 ∈ M.rooms.map (·.1)) && guardOk WORDS M.watches r.2
def spChecked (K : PySem.W.Frag) (CM CD CN : Addr) : Sp := fun vs H Q E => ∃ (pm pg : Addr) (M : MachD) (gs : List Rq), vs = [.ref pm, .ref pg] ∧ MachAt CM CD H pm M ∧ RsAt H pg gs ∧ (∀ r ∈ gs, r.2.length ≤ 60) ∧ gs.length ≤ 900 ∧
  ((gs.all (markOk M) = true ∧ ∀ H', Same H H' → Q .non H') ∨ (gs.all (markOk M) = false ∧ ∀ H', Same H H' → E (.ref CN) none H'))
/-- a goal of which one mark is none -/
def BadGoal (K : PySem.W.Frag) (H : Hp) (M : MachD) (pg : Addr) (gs : List Rq) (k : Nat) : Prop := ∃ qs : List Addr, H pg = some (.lst (qs.map V.ref)) ∧ qs.length ≤ 900 ∧ gs.all (markOk M) = true ∧ (∀ r ∈ gs, r.2.length ≤ 60) ∧ gs.length = k ∧ (∀ (i : Nat) (q : Addr) (r : Rq), qs[i]? = some q → gs[i]? = some r → RqAt H q r) ∧
  ∃ q r x, qs[k]? = some q ∧ H q = some (.tup [.str r, x]) ∧ (r ∉ M.rooms.map (·.1) ∨ NoGuard K H WORDS M.watches x)
theorem NoGuard.keep {K : PySem.W.Frag} {H H' : Hp} {ws watches : List Str} {x : V} (s : Same H H') (h : NoGuard K H ws watches x) : NoGuard K H' ws watches x := by
  cases h with
  | lst h hl h60 c bad => exact .lst (s _ _ h) hl h60 (fun i x b h1 h2 => (c i x b h1 h2).keep s) bad
  | kind h k n => exact .kind (tyx_same s h) k n
def spChecked2 (K : PySem.W.Frag) (CM CD CN : Addr) : Sp := fun vs H Q E => spChecked K CM CD CN vs H Q E ∨ ∃ (pm pg : Addr) (M : MachD) (gs : List Rq) (k : Nat), vs = [.ref pm, .ref pg] ∧ MachAt CM CD H pm M ∧ BadGoal K H M pg gs k ∧ ∀ H', Same H H' → E (.ref CN) none H'
theorem ok_checked_goal (T : Top K mg) : FnOk P w K mg base (L2.CX P w) 5 T.f_checked_goal T.d_checked_goal ["machine", "goal"] (spChecked2 K T.C_Machine T.C_Door T.C_NoMark) := by
  refine T.F_checked_goal.okX sc_checked_goal (fun vs H Q E h => ?_) (fun cdv A outer s H vs Q E hr h => ?_)
  · rcases h with ⟨pm, pg, M, ls, rfl, _⟩ | ⟨pm, pg, M, gs, k, rfl, _⟩ <;> rfl
  refine ⟨_, (pss_cons (ps_set (i := 2) sc_checked_goal.nd rfl (.inl rfl) (pe_meth0 (pv 0) T.cl_Machine T.m_Machine_rooms (ok_Machine_rooms T) (hr.mono (by decide)) T.b_Machine_rooms .nil pass0))
      (pss_one (ps_for (passes_of rfl) rfl (pi_listA (K := K) rfl (pv 1)) (pg_tupA (K := K) (n := 2) rfl (by rfl) (pgs_cons (pg_name (i := 3) sc_checked_goal.nd rfl (.inl rfl)) (pgs_cons (pg_name (i := 4) sc_checked_goal.nd rfl (.inl rfl)) pgs_nil))) (pss_cons (ps_if (pt_cmpR (op_notIn_seqA (K := K) rfl) (pv 3) (pv 2) (by rfl)) (pss_one (ps_raise rfl (takes_of rfl rfl rfl rfl) (pmk_own PySem.F.excBase_ValueError T.x_NoMark T.g_NoMark T.k_NoMark (raises_own T.b_NoMark T.t_NoMark) rfl))) pss_nil)
      (pss_one (ps_expr (pe_call (ok_placed T) (hr.mono (by decide)) rfl T.g_placed T.F_placed.kp T.b_placed .nil (passes_call (takes_of rfl rfl rfl rfl) (fun _ _ _ _ z => z)) (pa_cons (pv 0) (pa_cons (pv 4) pa_nil))))))))), ?_⟩
  rcases h with h | h
  · obtain ⟨pm, pg, M, gs, rfl, hm, hg, h60, h900, q⟩ := h
    obtain ⟨dx, wn, rn, sl, dl, a, _⟩ := id hm
    obtain ⟨qs, g1, g2, g3⟩ := id hg
    refine seq_step ?_
    refine ⟨_, rfl, pm, dx, _, rfl, a, mach_no (by decide +kernel) (by decide +kernel) (by decide +kernel) (by decide +kernel), pm, M, rfl, hm, fun rq H1 s1 f1 e1 => ?_⟩
    walk_at "rd"
    refine for_li ?_
    walk_at "rd"
    refine forL_by (xs := qs.map V.ref) (fun i σ' H' => ∃ v3 v4, σ' = [some (.ref pm), some (.ref pg), some (.ref rq), v3, v4] ∧ Same H1 H' ∧ (gs.take i).all (markOk M) = true) ⟨_, _, rfl, Same.refl _, rfl⟩ (fun i σ H' _ ⟨_, _, _, s, _⟩ => .of ((s1.trans s) _ _ g1)) ?_ ?_
    · rintro i x σ' H' hi ⟨v3, v4, rfl, s', ha⟩
      rw [List.getElem?_map] at hi
      obtain ⟨qi, h1, rfl⟩ := Option.map_eq_some_iff.mp hi
      have hil := (List.getElem?_eq_some_iff.mp h1).1
      have hz := List.getElem?_eq_getElem (l := gs) (i := i) (by omega)
      have s2 := s1.trans s'
      obtain ⟨g, ez, hgz⟩ := (g3 i qi _ h1 hz).keep s2
      have hmem := List.mem_of_getElem? hz
      generalize gs[i] = z at *
      have tk : (gs.take (i + 1)).all (markOk M) = ((gs.take i).all (markOk M) && markOk M z) := by
        rw [List.take_add_one, hz, List.all_append]; simp
      have bad : markOk M z = false → gs.all (markOk M) = false := fun h => List.all_eq_false.mpr ⟨z, hmem, by rw [h]; exact Bool.false_ne_true⟩
      refine gTup_of (sqt ez) rfl ?_
      walk_at "rd"
      refine seq_step ?_
      walk_at "rd"
      refine ⟨rq, _, rfl, .inl (.of (s' _ _ e1)), rfl, flat_of, ?_⟩
      rw [inV_str]
      by_cases m : z.1 ∈ M.rooms.map (·.1)
      · rw [decide_eq_true m]
        walk_at "rd"
        refine .inl ⟨pm, g, M, z.2, rfl, hm.keep s2, hgz, h60 z hmem, ?_⟩
        by_cases c : guardOk WORDS M.watches z.2 = true
        · refine .inl ⟨c, fun p H2 s3 f3 e3 => ?_⟩
          walk_at "rd"
          refine ⟨s'.trans s3, ?_⟩
          rw [tk, ha]
          unfold markOk
          rw [decide_eq_true m, c]; rfl
        · have c : guardOk WORDS M.watches z.2 = false := by simpa using c
          have b := bad (by unfold markOk; rw [c, Bool.and_false])
          refine .inr ⟨c, fun H2 s3 => ?_⟩
          rcases q with ⟨ok, _⟩ | ⟨_, q⟩
          · rw [b] at ok; cases ok
          · exact q _ (s2.trans s3)
      · rw [decide_eq_false m]
        walk_at "rd"
        have b := bad (by unfold markOk; rw [decide_eq_false m, Bool.false_and])
        rcases q with ⟨ok, _⟩ | ⟨_, q⟩
        · rw [b] at ok; cases ok
        · exact q _ s2
    · rintro σ' H' ⟨v3, v4, rfl, s', ha⟩
      walk_at "rd"
      rw [List.length_map, g2, List.take_length] at ha
      rcases q with ⟨_, q⟩ | ⟨b, _⟩
      · exact q _ (s1.trans s')
      · rw [b] at ha; cases ha
  · obtain ⟨pm, pg, M, gs, k, rfl, hm, ⟨qs, g1, q900, gok, h60, gk, g3, qb, rb, xb, hqb, eb, bad⟩, q⟩ := h
    obtain ⟨dx, wn, rn, sl, dl, a, _⟩ := id hm
    have hkl := (List.getElem?_eq_some_iff.mp hqb).1
    refine seq_step ?_
    refine ⟨_, rfl, pm, dx, _, rfl, a, mach_no (by decide +kernel) (by decide +kernel) (by decide +kernel) (by decide +kernel), pm, M, rfl, hm, fun rq H1 s1 f1 e1 => ?_⟩
    walk_at "rd"
    refine for_li ?_
    walk_at "rd"
    refine forL_by (xs := qs.map V.ref) (fun i σ' H' => i ≤ k ∧ ∃ v3 v4, σ' = [some (.ref pm), some (.ref pg), some (.ref rq), v3, v4] ∧ Same H1 H') ⟨Nat.zero_le _, _, _, rfl, Same.refl _⟩ (fun i σ H' _ ⟨_, _, _, _, s⟩ => .of ((s1.trans s) _ _ g1)) ?_ ?_
    · rintro i x σ' H' hi ⟨hik, v3, v4, rfl, s'⟩
      rw [List.getElem?_map] at hi
      obtain ⟨qi, h1, rfl⟩ := Option.map_eq_some_iff.mp hi
      have s2 := s1.trans s'
      rcases Nat.lt_or_eq_of_le hik with hlt | heq
      · obtain ⟨z, hz⟩ : ∃ z, gs[i]? = some z := ⟨_, List.getElem?_eq_getElem (by omega)⟩
        obtain ⟨g, ez, hgz⟩ := (g3 i qi _ h1 hz).keep s2
        have hmem := List.mem_of_getElem? hz
        have mk := List.all_eq_true.mp gok z hmem
        unfold markOk at mk
        have mk := Bool.and_eq_true_iff.mp mk
        refine gTup_of (sqt ez) rfl ?_
        walk_at "rd"
        refine seq_step ?_
        walk_at "rd"
        refine ⟨rq, _, rfl, .inl (.of (s' _ _ e1)), rfl, flat_of, ?_⟩
        rw [inV_str, mk.1]
        walk_at "rd"
        refine .inl ⟨pm, g, M, z.2, rfl, hm.keep s2, hgz, h60 z hmem, .inl ⟨mk.2, fun p H2 s3 f3 e3 => ?_⟩⟩
        exact ⟨hlt, s'.trans s3⟩
      · subst heq
        rw [hqb] at h1; cases h1
        refine gTup_of (sqt (s2 _ _ eb)) rfl ?_
        walk_at "rd"
        refine seq_step ?_
        walk_at "rd"
        refine ⟨rq, _, rfl, .inl (.of (s' _ _ e1)), rfl, flat_of, ?_⟩
        rw [inV_str]
        by_cases m : rb ∈ M.rooms.map (·.1)
        · rw [decide_eq_true m]
          walk_at "rd"
          rcases bad with h | h
          · exact absurd m h
          · exact .inr ⟨pm, xb, M, rfl, hm.keep s2, h.keep s2, fun H2 s3 => q _ (s2.trans s3)⟩
        · rw [decide_eq_false m]
          walk_at "rd"
          exact q _ s2
    · rintro σ' H' ⟨hk, _⟩
      rw [List.length_map] at hk
      omega
def spAdded (K : PySem.W.Frag) : Sp := fun vs H Q _ => ∃ (x y : Option Int), vs = [oV x, oV y] ∧ (∀ a b, x = some a → y = some b → Sz 10000 (a / 2 + b / 2)) ∧ Q (oV (addO x y)) H
theorem ok_added (T : Top K mg) : FnOk P w K mg base CX0 1 T.f_added T.d_added ["one", "other"] (spAdded K) := by
  refine T.F_added.ok sc_added (fun vs H Q E h => ?_) (fun cdv A outer s H vs Q E hr h => ?_)
  · obtain ⟨a, b, rfl, _⟩ := h; rfl
  · obtain ⟨x, y, rfl, h1, q⟩ := h
    refine ⟨_, (pss_cons (ps_if (PW.pt (pw_or (pt_cmpR op_isN (pv 0) pe_non (nomark _)) (pw_or1 (pt_cmpR op_isN (pv 1) pe_non (nomark _))))) (pss_one (ps_ret pe_non)) pss_nil)
      (pss_one (ps_ret (pe_op op_or (pe_op op_shlW (pe_op op_add (pe_op op_shr (pv 0) pe_int) (pe_op op_shr (pv 1) pe_int)) pe_int) (pe_op op_and (pe_op op_and (pv 0) (pv 1)) pe_int))))), ?_⟩
    refine seq_step ?_
    cases x with
    | none => 
      simp only [oV_none]
      walk_at "rd"
      exact q
    | some a =>
      cases y with
      | none =>
        simp only [oV_none, oV_some]
        walk_at "rd"
        exact q
      | some b =>
        simp only [oV_some]
        walk_at "rd"
        rw [bit_sum]
        exact ⟨shl1 (h1 a b rfl rfl) (by omega), q⟩
theorem added_i {K : PySem.W.Frag} {a b : Int} {H : Hp} {Q : VK} {E : XK} (h : Sz 10000 (a / 2 + b / 2)) (q : Q (.int (2 * (a / 2 + b / 2) + (if a % 2 = 1 ∧ b % 2 = 1 then 1 else 0))) H) : spAdded K [.int a, .int b] H Q E :=
  ⟨some a, some b, rfl, fun _ _ e1 e2 => by cases e1; cases e2; exact h, q⟩
theorem added_n1 {K : PySem.W.Frag} {H : Hp} {Q : VK} {E : XK} (x : Option Int) (q : Q .non H) : spAdded K [.non, oV x] H Q E := ⟨none, x, rfl, (fun _ _ e1 _ => nomatch e1), q⟩
theorem added_n2 {K : PySem.W.Frag} {H : Hp} {Q : VK} {E : XK} (x : Option Int) (q : Q .non H) : spAdded K [oV x, .non] H Q E := ⟨x, none, rfl, (fun _ _ _ e1 => nomatch e1), by cases x <;> exact q⟩
def spNarrower (K : PySem.W.Frag) : Sp := fun vs H Q _ => ∃ (x y : Option Int), vs = [oV x, oV y] ∧ Q (oV (narO x y)) H
theorem ok_narrower (T : Top K mg) : FnOk P w K mg base CX0 1 T.f_narrower T.d_narrower ["one", "other"] (spNarrower K) := by
  refine T.F_narrower.ok sc_narrower (fun vs H Q E h => ?_) (fun cdv A outer s H vs Q E hr h => ?_)
  · obtain ⟨x, y, rfl, _⟩ := h; rfl
  · obtain ⟨x, y, rfl, q⟩ := h
    refine ⟨_, (pss_cons (ps_if (pt_cmpR op_isN (pv 0) pe_non (nomark _)) (pss_one (ps_ret (pv 1))) pss_nil)
      (pss_cons (ps_if (pt_cmpR op_isN (pv 1) pe_non (nomark _)) (pss_one (ps_ret (pv 0))) pss_nil)
      (pss_one (ps_ret (pe_callB (call_min2 rfl) (by rfl) T.m_min (by decide +kernel) (pa_cons (pv 0) (pa_cons (pv 1) pa_nil))))))), ?_⟩
    refine seq_step ?_
    cases x with
    | none =>
      simp only [oV_none]
      walk_at "rd"
      cases y <;> exact q
    | some a =>
      simp only [oV_some]
      walk_at "rd"
      refine seq_step ?_
      cases y with
      | none =>
        simp only [oV_none]
        walk_at "rd"
        exact q
      | some b =>
        simp only [oV_some]
        walk_at "rd"
        exact q
def widerB : Option Int → Option Int → Bool
  | _, none => false
  | none, some _ => true
  | some a, some b => decide (b < a)
theorem wider_no {x y : Option Int} (h : leO x y) : widerB x y = false := by
  cases y with
  | none => cases x <;> rfl
  | some b =>
    cases x with
    | none => exact h.elim
    | some a =>
      have h : a ≤ b := h
      exact decide_eq_false (by omega)
def spWider (K : PySem.W.Frag) : Sp := fun vs H Q _ => ∃ (x y : Option Int), vs = [oV x, oV y] ∧ Q (.bl (widerB x y)) H
theorem ok_wider (T : Top K mg) : FnOk P w K mg base CX0 1 T.f_wider T.d_wider ["one", "other"] (spWider K) := by
  refine T.F_wider.ok sc_wider (fun vs H Q E h => ?_) (fun cdv A outer s H vs Q E hr h => ?_)
  · obtain ⟨x, y, rfl, _⟩ := h; rfl
  · obtain ⟨x, y, rfl, q⟩ := h
    refine ⟨_, (pss_cons (ps_if (pt_cmpR op_isN (pv 1) pe_non (nomark _)) (pss_one (ps_ret pe_bl)) pss_nil)
      (pss_one (ps_ret (pe_or (pe_cmpR op_isN (pv 0) pe_non (nomark _)) (pe_one (pe_cmpR op_gt (pv 0) (pv 1) (nomark _))))))), ?_⟩
    refine seq_step ?_
    cases y with
    | none =>
      simp only [oV_none]
      walk_at "rd"
      cases x <;> exact q
    | some b =>
      cases x with
      | none =>
        simp only [oV_none, oV_some]
        walk_at "rd"
        exact q
      | some a =>
        simp only [oV_some]
        walk_at "rd"
        exact q
def spThrough (K : PySem.W.Frag) : Sp := fun vs H Q _ => ∃ (p : Addr) (as : List Addr) (n : Nat) (M : Mx) (k s : Nat), vs = [.ref p, .int k] ∧ ZAt H p as n M ∧ k < n ∧ n ≤ 60 ∧ SzM s M ∧ s + 2 * n * n ≤ 9000 ∧
  ∀ H', ZAt H' p as n (thr n k M) → (∀ b o, b ∉ as → H b = some o → H' b = some o) → Q .non H'
theorem ok_through_zones (T : Top K mg) : FnOk P w K mg base CX0 2 T.f_through_zones T.d_through_zones ["rows", "k"] (spThrough K) := by
  refine T.F_through_zones.ok sc_through_zones (fun vs H Q E h => ?_) (fun cdv A outer s H vs Q E hr h => ?_)
  · obtain ⟨p, as, n, M, k, s, rfl, _⟩ := h; rfl
  · obtain ⟨p, as, n, M, k, sz, rfl, z, hk, hn, hs, hb, q⟩ := h
    refine ⟨_, (pss_cons (ps_set (i := 2) sc_through_zones.nd rfl (.inl rfl) (pe_ix (ix_listA (K := K) rfl) (pv 0) (pv 1) (fun _ _ => rfl)))
      (pss_one (ps_for PassesOwn.never rfl (pi_listA (K := K) rfl (pv 0)) (pg_name (i := 3) sc_through_zones.nd rfl (.inl rfl)) (pss_one (ps_if (pt_cmpR op_notN (pe_ix (ix_listA (K := K) rfl) (pv 3) (pv 1) (fun _ _ => rfl)) pe_non (nomark _)) (pss_one (ps_for PassesOwn.never rfl (pi_range1 (by rfl) T.m_range (pa_cons (pe_callB call_len_seq (by rfl) T.m_len (by decide +kernel) (pa_cons (pv 2) pa_nil)) pa_nil)) (pg_name (i := 4) sc_through_zones.nd rfl (.inl rfl)) (pss_one (ps_asg (pe_call (ok_narrower T) (hr.mono (by decide)) rfl T.g_narrower T.F_narrower.kp T.b_narrower .nil pass0 (pa_cons (pe_ix (ix_listA (K := K) rfl) (pv 3) (pv 4) (fun _ _ => rfl)) (pa_cons (pe_call (ok_added T) (hr.mono (by decide)) rfl T.g_added T.F_added.kp T.b_added .nil pass0 (pa_cons (pe_ix (ix_listA (K := K) rfl) (pv 3) (pv 1) (fun _ _ => rfl)) (pa_cons (pe_ix (ix_listA (K := K) rfl) (pv 2) (pv 4) (fun _ _ => rfl)) pa_nil))) pa_nil))) (pg_sub (pv 3) (pv 4) set_list))))) pss_nil))))), ?_⟩
    refine seq_step ?_
    walk_at "rd"
    obtain ⟨w, ew, ew2, hw⟩ := z.get hk
    refine ix_l (.of z.top) (by omega) (by rw [Int.toNat_natCast]; exact ew2) ?_
    walk_at "rd"
    refine for_li ?_
    walk_at "rd"
    refine forL_by (xs := as.map V.ref) (fun i σ' H' => ∃ v3 v4, σ' = [some (.ref p), some (.int k), some (.ref w), v3, v4] ∧ ZAt H' p as n (iter (rowst n k) i M) ∧ (∀ b o, b ∉ as → H b = some o → H' b = some o)) ⟨_, _, rfl, z, fun _ _ _ e => e⟩ (fun i σ H' _ ⟨_, _, _, z', _⟩ => .of z'.top) ?_ ?_
    · rintro i x σ' H1 hi ⟨v3, v4, rfl, z1, kp⟩
      have hin : i < n := by
        have := (List.getElem?_eq_some_iff.mp hi).1
        rw [List.length_map, z.len] at this; exact this
      obtain ⟨r, er, er2, hr1⟩ := z1.get hin
      obtain rfl : x = .ref r := Option.some.inj (hi.symm.trans er2)
      have hsi : SzM (sz + 2 * n * i) (iter (rowst n k) i M) := iter_sz (fun _ _ _ h => rowst_sz h) hs i
      have hmul : 2 * n * i + 2 * n ≤ 2 * n * n := by
        rw [← Nat.mul_succ]; exact Nat.mul_le_mul_left _ hin
      generalize hM1 : iter (rowst n k) i M = M1 at *
      have hgoal : iter (rowst n k) (i + 1) M = rowst n k i M1 := by rw [← hM1]; rfl
      rw [hgoal]
      walk_at "rd"
      refine ix_l (.of hr1) (by omega) (by rw [Int.toNat_natCast]; exact zrow_get _ hk) ?_
      walk_at "rd"
      cases hMk : M1 i k with
      | none =>
        rw [show rowst n k i M1 = M1 by unfold rowst; rw [if_pos hMk]]
        simp only [oV_none]
        walk_at "rd"
        exact ⟨z1, kp⟩
      | some d =>
        rw [show rowst n k i M1 = iter (cell1 k i) n M1 by unfold rowst; rw [if_neg (by rw [hMk]; exact fun z => by cases z)]]
        simp only [oV_some]
        walk_at "rd"
        refine for_rg ?_
        walk_at "rd"
        refine ⟨_, .inl (.of (z1.row k w ew)), (rg_ok (by rw [zrow_len]; omega)).1, (rg_ok (by rw [zrow_len]; omega)).2, ?_⟩
        rw [zrow_len, Int.toNat_natCast]
        refine forR_by (fun j σ' H' => ∃ v4, σ' = [some (.ref p), some (.int k), some (.ref w), some (.ref r), v4] ∧ ZAt H' p as n (iter (cell1 k i) j M1) ∧ (∀ b o, b ∉ as → H b = some o → H' b = some o)) ⟨_, rfl, z1, kp⟩ ?_ ?_
        · rintro j σ' H2 hj ⟨v4', rfl, z2, kp2⟩
          have hsj : SzM (sz + 2 * n * i + 2 * j) (iter (cell1 k i) j M1) := iter_sz (fun _ _ _ h => cell1_sz h) hsi j
          generalize hM2 : iter (cell1 k i) j M1 = M2 at *
          have hgoal2 : iter (cell1 k i) (j + 1) M1 = cell1 k i j M2 := by rw [← hM2]; rfl
          rw [hgoal2]
          walk_at "rd"
          refine ix_row (z2.row i r er) hj ?_
          refine ix_row (z2.row i r er) hk ?_
          refine ix_row (z2.row k w ew) hj ?_
          walk_at "rd"
          refine ⟨_, _, rfl, fun a b ea eb => half_sz (hsj _ _ _ ea) (hsj _ _ _ eb) (by omega), ?_⟩
          refine ⟨_, _, rfl, ?_⟩
          walk_at "rd"
          refine set_at (K := K) (z2.row i r er) hj ?_
          walk_at "rd"
          refine ⟨z2.set _ er, fun b o hb e => ?_⟩
          rw [upd_ne (fun z => hb (by rw [z]; exact List.mem_of_getElem? er))]
          exact kp2 b o hb e
        · rintro σ' H2 ⟨v4', rfl, z2, kp2⟩
          exact ⟨_, _, rfl, z2, kp2⟩
    · rintro σ' H1 ⟨v3, v4, rfl, z1, kp⟩
      rw [List.length_map, z.len] at z1
      exact q H1 z1 kp
def spNarrowest (K : PySem.W.Frag) : Sp := fun vs H Q _ => ∃ (p : Addr) (as : List Addr) (n : Nat) (M : Mx) (s : Nat), vs = [.ref p] ∧ ZAt H p as n M ∧ n ≤ 60 ∧ 1 ≤ s ∧ SzM s M ∧ s + 2 * n * n * n ≤ 9000 ∧
  ((∃ i d, i < n ∧ nrw n M i i = some d ∧ d < 1) → ∀ H', Same H H' → Q .non H') ∧
  ((∀ i, i < n → ∃ d, nrw n M i i = some d ∧ 1 ≤ d) → ∀ p' as' H', Same H H' → ZAt H' p' as' n (nrw n M) → H p' = none → (∀ a ∈ as', H a = none) → Q (.ref p') H')
theorem ok_narrowest (T : Top K mg) : FnOk P w K mg base CX0 3 T.f_narrowest T.d_narrowest ["zone"] (spNarrowest K) := by
  refine T.F_narrowest.ok sc_narrowest (fun vs H Q E h => ?_) (fun cdv A outer s H vs Q E hr h => ?_)
  · obtain ⟨p, as, n, M, s, rfl, _⟩ := h; rfl
  · obtain ⟨p, as, n, M, sz, rfl, z, hn, hs1, hs, hb, q1, q2⟩ := h
    refine ⟨_, (pss_cons (lc_vsS (vs := [4]) (ps_setLc (i := 1) (own := [("row", 4)]) (g := gName 4) (tt := tYes) rfl sc_narrowest.nd rfl rfl (sw_true rfl rfl rfl (by decide +kernel)) (pi_listA (K := K) rfl (pv 0)) (blkOk_by (own := [("row", 4)]) (N := ["zone", "rows", "i", "k", "row"]) (sc := defScope s_narrowest) (by decide +kernel)) (fun _ _ _ _ _ => (pg_name (i := 4) sc_narrowest.nd rfl (.inl rfl))) (fun _ _ _ _ _ => pts_nil) (fun _ _ _ _ _ => (pe_callTy (call_listA (K := K) rfl) (by rfl) T.m_list (by decide +kernel) (pa_cons (pv 4) pa_nil)))) rfl)
      (pss_cons (ps_for PassesOwn.never rfl (pi_range1 (by rfl) T.m_range (pa_cons (pe_callB call_len_seq (by rfl) T.m_len (by decide +kernel) (pa_cons (pv 1) pa_nil)) pa_nil)) (pg_name (i := 2) sc_narrowest.nd rfl (.inl rfl)) (pss_cons (ps_asg (pe_call (ok_narrower T) (hr.mono (by decide)) rfl T.g_narrower T.F_narrower.kp T.b_narrower .nil pass0 (pa_cons (pe_ix (ix_listA (K := K) rfl) (pe_ix (ix_listA (K := K) rfl) (pv 1) (pv 2) (fun _ _ => rfl)) (pv 2) (fun _ _ => rfl)) (pa_cons (pe_glob (v := .int 1) rfl T.g_NOUGHT ⟨_, rfl⟩) pa_nil))) (pg_sub (pe_ix (ix_listA (K := K) rfl) (pv 1) (pv 2) (fun _ _ => rfl)) (pv 2) set_list))
      (pss_one (ps_asg (pe_call (ok_narrower T) (hr.mono (by decide)) rfl T.g_narrower T.F_narrower.kp T.b_narrower .nil pass0 (pa_cons (pe_ix (ix_listA (K := K) rfl) (pe_ix (ix_listA (K := K) rfl) (pv 1) pe_int (fun _ _ => rfl)) (pv 2) (fun _ _ => rfl)) (pa_cons (pe_glob (v := .int 1) rfl T.g_NOUGHT ⟨_, rfl⟩) pa_nil))) (pg_sub (pe_ix (ix_listA (K := K) rfl) (pv 1) pe_int (fun _ _ => rfl)) (pv 2) set_list)))))
      (pss_cons (ps_for PassesOwn.never rfl (pi_range1 (by rfl) T.m_range (pa_cons (pe_callB call_len_seq (by rfl) T.m_len (by decide +kernel) (pa_cons (pv 1) pa_nil)) pa_nil)) (pg_name (i := 3) sc_narrowest.nd rfl (.inl rfl)) (pss_one (ps_expr (pe_call (ok_through_zones T) (hr.mono (by decide)) rfl T.g_through_zones T.F_through_zones.kp T.b_through_zones .nil pass0 (pa_cons (pv 1) (pa_cons (pv 3) pa_nil))))))
      (pss_cons (ps_for PassesOwn.never rfl (pi_range1 (by rfl) T.m_range (pa_cons (pe_callB call_len_seq (by rfl) T.m_len (by decide +kernel) (pa_cons (pv 1) pa_nil)) pa_nil)) (pg_name (i := 2) sc_narrowest.nd rfl (.inl rfl)) (pss_one (ps_if (pt_cmpR op_lt (pe_ix (ix_listA (K := K) rfl) (pe_ix (ix_listA (K := K) rfl) (pv 1) (pv 2) (fun _ _ => rfl)) (pv 2) (fun _ _ => rfl)) (pe_glob (v := .int 1) rfl T.g_NOUGHT ⟨_, rfl⟩) (nomark _)) (pss_one (ps_ret pe_non)) pss_nil)))
      (pss_one (ps_ret (pv 1))))))), ?_⟩
    refine seq_step ?_
    walk_at "rd"
    refine lc_copy z hn rfl (by simp) fun D as' H1 s1 z1 fD fa => ?_
    refine seq_step ?_
    refine for_rg ?_
    walk_at "rd"
    refine ⟨_, .inl (.of z1.top), ?_⟩
    rw [List.length_map, z1.len]
    refine ⟨(rg_ok (by omega)).1, (rg_ok (by omega)).2, ?_⟩
    rw [Int.toNat_natCast]
    refine forR_by (fun i σ' H' => ∃ v2, σ' = [some (.ref p), some (.ref D), v2, none, none] ∧ ZAt H' D as' n (iter diag1 i M) ∧ Same H H') ⟨_, rfl, z1, s1⟩ ?_ ?_
    · rintro i σ' H2 hi ⟨v2, rfl, z2, s2⟩
      generalize hM2 : iter diag1 i M = M2 at *
      rw [show iter diag1 (i + 1) M = diag1 i M2 by rw [← hM2]; rfl]
      walk_at "rd"
      refine seq_step ?_
      walk_at "rd"
      refine ix_top z2 hi fun r er hr1 => ?_
      refine ix_row hr1 hi ?_
      walk_at "rd"
      refine ⟨_, some 1, rfl, ?_⟩
      refine ix_top z2 hi fun r' er' hr1' => ?_
      obtain rfl : r = r' := Option.some.inj (er.symm.trans er')
      walk_at "rd"
      refine set_at (K := K) hr1 hi ?_
      have z3 := z2.set (j := i) (narO (M2 i i) (some 1)) er
      have s3 : Same H (upd H2 r (.lst ((zrow n (M2 i)).set i (oV (narO (M2 i i) (some 1)))))) := same_updN (fa r (List.mem_of_getElem? er)) s2
      generalize upd H2 r (.lst ((zrow n (M2 i)).set i (oV (narO (M2 i i) (some 1))))) = H3 at *
      unfold diag1
      generalize up2 M2 i i (narO (M2 i i) (some 1)) = M3 at *
      have h0 : 0 < n := by omega
      walk_at "rd"
      refine ix_top (i := 0) z3 h0 fun r0 er0 hr0 => ?_
      refine ix_row hr0 hi ?_
      walk_at "rd"
      refine ⟨_, some 1, rfl, ?_⟩
      refine ix_top (i := 0) z3 h0 fun r' er' hr1' => ?_
      obtain rfl : r0 = r' := Option.some.inj (er0.symm.trans er')
      walk_at "rd"
      refine set_at (K := K) hr0 hi ?_
      exact ⟨z3.set (j := i) _ er0, same_updN (fa r0 (List.mem_of_getElem? er0)) s3⟩
    · rintro σ' H2 ⟨v2, rfl, z2, s2⟩
      refine seq_step ?_
      walk_at "rd"
      refine for_rg ?_
      walk_at "rd"
      refine ⟨_, .inl (.of z2.top), ?_⟩
      rw [List.length_map, z2.len]
      refine ⟨(rg_ok (by omega)).1, (rg_ok (by omega)).2, ?_⟩
      rw [Int.toNat_natCast]
      refine forR_by (fun i σ' H' => ∃ v3, σ' = [some (.ref p), some (.ref D), v2, v3, none] ∧ ZAt H' D as' n (iter (thr n) i (iter diag1 n M)) ∧ Same H H') ⟨_, rfl, z2, s2⟩ ?_ ?_
      · rintro k σ' H3 hk ⟨v3, rfl, z3, s3⟩
        have hsk := nrw_sz (n := n) (m := k) hs1 hs
        have hmul : 2 * n * n * k + 2 * n * n ≤ 2 * n * n * n := by
          rw [← Nat.mul_succ]; exact Nat.mul_le_mul_left _ hk
        walk_at "rd"
        refine ⟨D, as', n, _, k, _, rfl, z3, hk, hn, hsk, by omega, fun H4 z4 kp => ?_⟩
        walk_at "rd"
        exact ⟨z4, fun b o e => kp b o (fun hb => by rw [fa b hb] at e; cases e) (s3 b o e)⟩
      · rintro σ' H3 ⟨v3, rfl, z3, s3⟩
        have zN : ZAt H3 D as' n (nrw n M) := z3
        refine seq_step ?_
        walk_at "rd"
        refine for_rg ?_
        walk_at "rd"
        refine ⟨_, .inl (.of zN.top), ?_⟩
        rw [List.length_map, zN.len]
        refine ⟨(rg_ok (by omega)).1, (rg_ok (by omega)).2, ?_⟩
        rw [Int.toNat_natCast]
        refine forR_by (fun i σ' H' => ∃ v2, σ' = [some (.ref p), some (.ref D), v2, v3, none] ∧ H' = H3 ∧ ∀ j, j < i → ∃ d, nrw n M j j = some d ∧ 1 ≤ d) ⟨_, rfl, rfl, fun j h => by omega⟩ ?_ ?_
        · rintro i σ' H4 hi ⟨v2', rfl, rfl, hd⟩
          walk_at "rd"
          refine ix_top zN hi fun r er hr1 => ?_
          refine ix_row hr1 hi ?_
          obtain ⟨d, ed⟩ := has_nrw (M := M) hi
          rw [ed]
          simp only [oV_some]
          walk_at "rd"
          refine ite_d (fun c => q1 ⟨i, d, hi, ed, c⟩ _ s3) (fun c j hj => ?_)
          by_cases cj : j = i
          · subst cj; exact ⟨d, ed, by omega⟩
          · exact hd j (by omega)
        · rintro σ' H4 ⟨v2', rfl, rfl, hd⟩
          walk_at "rd"
          exact q2 hd D as' _ s3 zN fD fa
def spEvery (K : PySem.W.Frag) : Sp := fun vs H Q _ => ∃ m : Nat, vs = [.int m] ∧ m ≤ 8 ∧ ∀ (p : Addr) (as : List Addr) (H' : Hp), Same H H' → ZAt H' p as (m + 1) evM → H p = none → (∀ a ∈ as, H a = none) → Q (.ref p) H'
def EvInv (H : Hp) (m : Nat) (l : Addr) (i : Nat) (σ' : L2.St) (H' : Hp) : Prop := ∃ (as : List Addr) (v2 v3 : Option V), σ' = [some (.int m), some (.ref l), v2, v3] ∧ Same H H' ∧ Grow H H' l as (i + 1) (m + 1) evM
theorem ok_everywhere (T : Top K mg) : FnOk P w K mg base CX0 1 T.f_everywhere T.d_everywhere ["many"] (spEvery K) := by
  refine T.F_everywhere.ok sc_everywhere (fun vs H Q E h => ?_) (fun cdv A outer s H vs Q E hr h => ?_)
  · obtain ⟨m, rfl, _⟩ := h; rfl
  · obtain ⟨m, rfl, hm, q⟩ := h
    refine ⟨_, (pss_cons (ps_set (i := 1) sc_everywhere.nd rfl (.inl rfl) (pe_lstN (pa_cons (pe_op op_repN (pe_lstN (pa_cons (pe_glob (v := .int 1) rfl T.g_NOUGHT ⟨_, rfl⟩) pa_nil)) (pe_op op_add (pv 0) pe_int)) pa_nil)))
      (pss_cons (ps_for PassesOwn.never rfl (pi_range2 (by rfl) T.m_range (pa_cons pe_int (pa_cons (pe_op op_add (pv 0) pe_int) pa_nil))) (pg_name (i := 2) sc_everywhere.nd rfl (.inl rfl)) (pss_cons (ps_set (i := 3) sc_everywhere.nd rfl (.inl rfl) (pe_op op_repN (pe_lstN (pa_cons pe_non pa_nil)) (pe_op op_add (pv 0) pe_int)))
      (pss_cons (ps_asg (pe_glob (v := .int 1) rfl T.g_NOUGHT ⟨_, rfl⟩) (pg_sub (pv 3) (pv 2) set_list))
      (pss_one (ps_expr (pe_bm PySem.F.plainAttrs_list PySem.F.slot_list_append PySem.F.type_list_append mt_append (pv 1) (pa_cons (pv 3) pa_nil)))))))
      (pss_one (ps_ret (pv 1))))), ?_⟩
    refine seq_step ?_
    walk_at "rd"
    intro p1 H1 s1 _ e1
    refine ⟨_, e1, by omega, by omega, small1000' (by simp; omega), fun r0 H2 s2 f2 e2 => ?_⟩
    intro l H3 s3 fl e3
    refine seq_step ?_
    refine for_rg2 ?_
    walk_at "rd"
    refine ⟨by omega, by omega, ?_⟩
    rw [show ((m : Int) + 1 - 1).toNat = m by omega]
    have z0 : (List.replicate ((m : Int) + 1).toNat [V.int 1]).flatten = zrow (m + 1) (evM 0) := by
      rw [show ((m : Int) + 1).toNat = m + 1 by omega]
      exact (zrow_rep (m + 1) (some 1)).trans (zrow_congr fun j _ => by simp [evM])
    rw [z0] at e2
    have s13 : Same H H2 := s1.trans s2
    have nl0 : r0 ≠ l := ne_of_none e2 fl
    refine forR2_by (EvInv H m l) ⟨[r0], _, _, rfl, s13.trans s3, e3, rfl, by simp, (fun a h => by
        have : a = r0 := by simpa using h
        rw [this]; exact ⟨s1.free f2, nl0⟩), fun j a h => by
        cases j with
        | zero => cases h; exact s3 _ _ e2
        | succ j => cases h⟩ ?_ ?_
    · rintro i σ' H4 hi ⟨as, v2, v3, rfl, s4, g⟩
      walk_at "rd"
      refine seq_step ?_
      walk_at "rd"
      intro p5 H5 s5 _ e5
      refine ⟨_, e5, by omega, by omega, small1000' (by simp; omega), fun r H6 s6 fr e6 => ?_⟩
      walk_at "rd"
      have s46 := s5.trans s6
      have er : H6 r = some (.lst (zrow (m + 1) (fun _ => none))) := by
        rw [e6, show ((m : Int) + 1).toNat = m + 1 by omega]
        exact congrArg (fun x => some (HO.lst x)) (zrow_rep (m + 1) none)
      refine seq_step ?_
      walk_at "rd"
      rw [show (1 : Int) + (i : Int) = ((i + 1 : Nat) : Int) by omega]
      refine set_at (K := K) (x := some 1) er (by omega) ?_
      walk_at "rd"
      have g6 : Grow H H6 l as (i + 1) (m + 1) evM := g.keep fun b o e _ => s46 _ _ e
      have eset : (zrow (m + 1) fun _ => none).set (i + 1) (oV (some 1)) = zrow (m + 1) (evM (i + 1)) := by
        exact (zrow_set (i := i + 1) (j := i + 1) (fun _ _ => none : Mx) (some 1)).trans (zrow_congr fun j _ => by simp [up2, evM, eq_comm])
      rw [eset]
      have nl : r ≠ l := fun e => by rw [e, s5 _ _ g.top] at fr; cases fr
      have nr : r ∉ as := fun hm => by
        obtain ⟨j, hj, e⟩ := List.mem_iff_getElem.mp hm
        have := s5 _ _ (g.row j r (by rw [List.getElem?_eq_getElem hj, e]))
        rw [fr] at this; cases this
      have fr0 : H r = none := (s4.trans s5).free fr
      have g7 : Grow H (upd H6 r (.lst (zrow (m + 1) (evM (i + 1))))) l as (i + 1) (m + 1) evM := g6.keep fun b o e hb => by
        rw [upd_ne (fun z => by rcases hb with h | h; exact nl (z ▸ h); exact nr (z ▸ h))]; exact e
      have s7 : Same H (upd H6 r (.lst (zrow (m + 1) (evM (i + 1))))) := same_updN fr0 (s4.trans s46)
      have e7 : upd H6 r (.lst (zrow (m + 1) (evM (i + 1)))) r = some (.lst (zrow (m + 1) (evM (i + 1)))) := upd_same
      generalize upd H6 r (.lst (zrow (m + 1) (evM (i + 1)))) = H7 at *
      refine ⟨.ref l, rfl, .inl ⟨rfl, _, .of g7.top⟩, ?_⟩
      walk_at "rd"
      refine app_at g7.top (by rw [List.length_map, g7.len]; omega) ?_
      refine ⟨as ++ [r], _, _, rfl, same_updN (s13.free fl) s7, (g7.snoc e7 fr0 nr nl).to fun a b ha hb => ?_⟩
      show (if a = i + 1 then evM (i + 1) b else evM a b) = evM a b
      split
      · rename_i e; rw [e]
      · rfl
    · rintro σ' H4 ⟨as, v2, v3, rfl, s4, g⟩
      walk_at "rd"
      exact q l as H4 s4 g.done (s13.free fl) fun a h => (g.fr a h).1
def spNought (K : PySem.W.Frag) : Sp := fun vs H Q _ => ∃ m : Nat, vs = [.int m] ∧ m ≤ 8 ∧ ∀ (p : Addr) (as : List Addr) (H' : Hp), Same H H' → ZAt H' p as (m + 1) oneM → H p = none → (∀ a ∈ as, H a = none) → Q (.ref p) H'
theorem ok_nought (T : Top K mg) : FnOk P w K mg base CX0 1 T.f_nought T.d_nought ["many"] (spNought K) := by
  refine T.F_nought.ok sc_nought (fun vs H Q E h => ?_) (fun cdv A outer s H vs Q E hr h => ?_)
  · obtain ⟨m, rfl, _⟩ := h; rfl
  · obtain ⟨m, rfl, hm, q⟩ := h
    refine ⟨_, (pss_one (ps_ret (lc_vs (vs := [1]) (pe_lc (own := [("i", 1)]) (g := gName 1) (tt := tYes) rfl sc_nought.nd (pi_range1 (by rfl) T.m_range (pa_cons (pe_op op_add (pv 0) pe_int) pa_nil)) (blkOk_by (own := [("i", 1)]) (N := ["many", "i"]) (sc := defScope s_nought) (by decide +kernel)) (fun _ _ _ _ _ => (pg_name (i := 1) sc_nought.nd rfl (.inl rfl))) (fun _ _ _ _ _ => pts_nil) (fun _ _ _ _ _ => (pe_op op_repN (pe_lstN (pa_cons (pe_glob (v := .int 1) rfl T.g_NOUGHT ⟨_, rfl⟩) pa_nil)) (pe_op op_add (pv 0) pe_int)))) rfl))), ?_⟩
    walk_at "rd"
    refine lc_rowsR (n := m + 1) (M := oneM) (by omega) (by simp) (fun Q1 h => ?_) (fun i H1 Q1 hi h => ?_) q
    · walk_at "rd"
      exact h
    · walk_at "rd"
      intro p5 H5 s5 _ e5
      refine ⟨_, e5, by omega, by omega, small1000' (by simp; omega), fun r H6 s6 fr e6 => ?_⟩
      refine h r H6 (s5.trans s6) (s5.free fr) ?_
      rw [e6, show ((m : Int) + 1).toNat = m + 1 by omega]
      exact congrArg (fun x => some (HO.lst x)) (zrow_rep (m + 1) (some 1))
theorem widerB_iff : ∀ {x y : Option Int}, widerB x y = false ↔ leO x y
  | x, none => by cases x <;> exact ⟨fun _ => trivial, fun _ => rfl⟩
  | none, some b => ⟨fun h => (by cases h), fun h => h.elim⟩
  | some a, some b => ⟨fun h => (by
      have h := of_decide_eq_false h
      show a ≤ b
      omega), fun h => wider_no h⟩
def spWithin (K : PySem.W.Frag) : Sp := fun vs H Q _ => ∃ (p1 p2 : Addr) (a1 a2 : List Addr) (n : Nat) (M1 M2 : Mx), vs = [.ref p1, .ref p2] ∧ ZAt H p1 a1 n M1 ∧ ZAt H p2 a2 n M2 ∧ n ≤ 60 ∧
  ∀ (r : Bool) (H' : Hp), Same H H' → (r = true ↔ ∀ i j, i < n → j < n → leO (M1 i j) (M2 i j)) → Q (.bl r) H'
def WiInv1 (Hb : Hp) (p1 p2 : Addr) (n : Nat) (M1 M2 : Mx) (i : Nat) (σ' : L2.St) (H' : Hp) : Prop := ∃ (v2 v3 v4 v5 : Option V), σ' = [some (.ref p1), some (.ref p2), v2, v3, v4, v5] ∧ Same Hb H' ∧ ∀ a b, a < i → b < n → leO (M1 a b) (M2 a b)
def WiInv2 (Hb : Hp) (p1 p2 r1 r2 : Addr) (n : Nat) (M1 M2 : Mx) (i j : Nat) (σ' : L2.St) (H' : Hp) : Prop := ∃ (v4 v5 : Option V), σ' = [some (.ref p1), some (.ref p2), some (.ref r1), some (.ref r2), v4, v5] ∧ Same Hb H' ∧ (∀ a b, a < i → b < n → leO (M1 a b) (M2 a b)) ∧ ∀ b, b < j → leO (M1 i b) (M2 i b)
theorem ok_within (T : Top K mg) : FnOk P w K mg base CX0 2 T.f_within T.d_within ["one", "other"] (spWithin K) := by
  refine T.F_within.ok sc_within (fun vs H Q E h => ?_) (fun cdv A outer s H vs Q E hr h => ?_)
  · obtain ⟨p1, p2, a1, a2, n, M1, M2, rfl, _⟩ := h; rfl
  · obtain ⟨p1, p2, a1, a2, n, M1, M2, rfl, z1, z2, hn, q⟩ := h
    refine ⟨_, (pss_cons (ps_for PassesOwn.never rfl (pi_zipK (K := K) rfl (by rfl) T.m_zip (pa_wk (pa_cons (pv 0) (pa_cons (pv 1) pa_nil)))) (pg_tupA (K := K) (n := 2) rfl (by rfl) (pgs_cons (pg_name (i := 2) sc_within.nd rfl (.inl rfl)) (pgs_cons (pg_name (i := 3) sc_within.nd rfl (.inl rfl)) pgs_nil))) (pss_one (ps_for PassesOwn.never rfl (pi_zipK (K := K) rfl (by rfl) T.m_zip (pa_wk (pa_cons (pv 2) (pa_cons (pv 3) pa_nil)))) (pg_tupA (K := K) (n := 2) rfl (by rfl) (pgs_cons (pg_name (i := 4) sc_within.nd rfl (.inl rfl)) (pgs_cons (pg_name (i := 5) sc_within.nd rfl (.inl rfl)) pgs_nil))) (pss_one (ps_if (pt_val (pe_call (ok_wider T) (hr.mono (by decide)) rfl T.g_wider T.F_wider.kp T.b_wider .nil pass0 (pa_cons (pv 4) (pa_cons (pv 5) pa_nil)))) (pss_one (ps_ret pe_bl)) pss_nil)))))
      (pss_one (ps_ret pe_bl))), ?_⟩
    refine seq_step ?_
    refine for_zp ?_
    walk_at "rd"
    refine forZ_by (.of z1.top) (.of z2.top) (by simp [z1.len, z2.len]) (WiInv1 H p1 p2 n M1 M2) ⟨_, _, _, _, rfl, Same.refl _, fun a b h => by omega⟩ (fun i σ H' ⟨_, _, _, _, _, s, _⟩ => ⟨.of (s _ _ z1.top), .of (s _ _ z2.top)⟩) ?_ ?_
    · rintro i x y t σ' H1 H2 hx hy ⟨v2, v3, v4, v5, rfl, s1, hl⟩ s2 et
      have hin : i < n := by
        have := (List.getElem?_eq_some_iff.mp hx).1
        rw [List.length_map, z1.len] at this; exact this
      have s12 := s1.trans s2
      obtain ⟨r1, er1, er2, hr1⟩ := (z1.keep s12).get hin
      obtain ⟨r2, er3, er4, hr2⟩ := (z2.keep s12).get hin
      obtain rfl : x = .ref r1 := Option.some.inj (hx.symm.trans er2)
      obtain rfl : y = .ref r2 := Option.some.inj (hy.symm.trans er4)
      refine gTup_of (sqt et) rfl ?_
      walk_at "rd"
      refine for_zp ?_
      walk_at "rd"
      refine forZ_by (.of hr1) (.of hr2) (by simp [zrow_len]) (WiInv2 H2 p1 p2 r1 r2 n M1 M2 i) ⟨_, _, rfl, Same.refl _, hl, fun b h => by omega⟩ (fun i σ H' ⟨_, _, _, s, _⟩ => ⟨.of (s _ _ hr1), .of (s _ _ hr2)⟩) ?_ ?_
      · rintro j x y t2 σ' H3 H4 hx hy ⟨v4, v5, rfl, s3, hl3, hl4⟩ s4 et2
        have hjn : j < n := by
          have := (List.getElem?_eq_some_iff.mp hx).1
          rwa [zrow_len] at this
        rw [zrow_get _ hjn] at hx hy
        obtain rfl := Option.some.inj hx
        obtain rfl := Option.some.inj hy
        refine gTup_of (sqt et2) rfl ?_
        walk_at "rd"
        refine ⟨_, _, rfl, ?_⟩
        walk_at "rd"
        cases hw : widerB (M1 i j) (M2 i j) with
        | true =>
          walk_at "rd"
          refine q false _ (s12.trans (s3.trans s4)) ⟨(fun h => by cases h), fun h => ?_⟩
          rw [widerB_iff.mpr (h i j hin hjn)] at hw
          cases hw
        | false =>
          walk_at "rd"
          refine ⟨_, _, rfl, s3.trans s4, hl3, fun b hb => ?_⟩
          by_cases c : b = j
          · subst c; exact widerB_iff.mp hw
          · exact hl4 b (by omega)
      · rintro σ' H3 ⟨v4, v5, rfl, s3, hl3, hl4⟩
        walk_at "rd"
        rw [zrow_len] at hl4
        refine ⟨_, _, _, _, rfl, s12.trans s3, fun a b ha hb => ?_⟩
        by_cases c : a = i
        · subst c; exact hl4 b hb
        · exact hl3 a b (by omega) hb
    · rintro σ' H1 ⟨v2, v3, v4, v5, rfl, s1, hl⟩
      walk_at "rd"
      rw [List.length_map, z1.len] at hl
      exact q true _ s1 ⟨fun _ a b ha hb => hl a b ha hb, fun _ => rfl⟩
def spCopied (K : PySem.W.Frag) : Sp := fun vs H Q _ => ∃ (p : Addr) (as : List Addr) (n : Nat) (M : Mx), vs = [.ref p] ∧ ZAt H p as n M ∧ n ≤ 60 ∧ ∀ D as' H', Same H H' → ZAt H' D as' n M → H D = none → (∀ a ∈ as', H a = none) → Q (.ref D) H'
theorem ok_copied (T : Top K mg) : FnOk P w K mg base CX0 1 T.f_copied T.d_copied ["zone"] (spCopied K) := by
  refine T.F_copied.ok sc_copied (fun vs H Q E h => ?_) (fun cdv A outer s H vs Q E hr h => ?_)
  · obtain ⟨p, as, n, M, rfl, _⟩ := h; rfl
  · obtain ⟨p, as, n, M, rfl, z, hn, q⟩ := h
    refine ⟨_, (pss_one (ps_ret (lc_vs (vs := [1]) (pe_lc (own := [("row", 1)]) (g := gName 1) (tt := tYes) rfl sc_copied.nd (pi_listA (K := K) rfl (pv 0)) (blkOk_by (own := [("row", 1)]) (N := ["zone", "row"]) (sc := defScope s_copied) (by decide +kernel)) (fun _ _ _ _ _ => (pg_name (i := 1) sc_copied.nd rfl (.inl rfl))) (fun _ _ _ _ _ => pts_nil) (fun _ _ _ _ _ => (pe_callTy (call_listA (K := K) rfl) (by rfl) T.m_list (by decide +kernel) (pa_cons (pv 1) pa_nil)))) rfl))), ?_⟩
    walk_at "rd"
    exact lc_copy z hn rfl (by simp) q
def spAt_most : Sp := fun vs H Q _ => ∃ n : Int, vs = [.int n] ∧ Sz 10000 n ∧ Q (.int (2 * n + 1)) H
theorem ok_at_most (T : Top K mg) : FnOk P w K mg base CX0 1 T.f_at_most T.d_at_most ["number"] spAt_most := by
  refine T.F_at_most.ok sc_at_most (fun vs H Q E h => ?_) (fun cdv A outer s H vs Q E hr h => ?_)
  · obtain ⟨n, rfl, _⟩ := h; rfl
  · obtain ⟨n, rfl, hn, q⟩ := h
    refine ⟨_, (pss_one (ps_ret (pe_op op_add (pe_op op_mulW pe_int (pv 0)) pe_int))), ?_⟩
    walk_at "rd"
    exact ⟨Sz.mulW (a := 2) (by unfold Sz; decide) hn (by omega), q⟩
def spBelow (K : PySem.W.Frag) : Sp := fun vs H Q _ => ∃ n : Int, vs = [.int n] ∧ Sz 10000 n ∧ Q (.int (2 * n)) H
theorem ok_below (T : Top K mg) : FnOk P w K mg base CX0 1 T.f_below T.d_below ["number"] (spBelow K) := by
  refine T.F_below.ok sc_below (fun vs H Q E h => ?_) (fun cdv A outer s H vs Q E hr h => ?_)
  · obtain ⟨n, rfl, _⟩ := h; rfl
  · obtain ⟨n, rfl, hn, q⟩ := h
    refine ⟨_, (pss_one (ps_ret (pe_op op_mulW pe_int (pv 0)))), ?_⟩
    walk_at "rd"
    exact ⟨Sz.mulW (a := 2) (by unfold Sz; decide) hn (by omega), q⟩
theorem kp_upd {Hb H : Hp} {as : List Addr} {i : Nat} {r : Addr} {o : HO} (er : as[i]? = some r) (kp : ∀ b o, b ∉ as → Hb b = some o → H b = some o) : ∀ b x, b ∉ as → Hb b = some x → (upd H r o) b = some x := fun b x hb e => by
  rw [upd_ne (fun z => hb (by rw [z]; exact List.mem_of_getElem? er))]; exact kp b x hb e
theorem ZAt.setK {Hb H : Hp} {p a : Addr} {as : List Addr} {n i j : Nat} {M : Mx} (z : ZAt H p as n M) (kp : ∀ b o, b ∉ as → Hb b = some o → H b = some o) (c : Int) (ha : as[i]? = some a) : ZAt (upd H a (.lst ((zrow n (M i)).set j (oV (narO (M i j) (some c)))))) p as n (up2 M i j (narO (M i j) (some c))) ∧ ∀ b x, b ∉ as → Hb b = some x → (upd H a (.lst ((zrow n (M i)).set j (oV (narO (M i j) (some c)))))) b = some x := ⟨z.set _ ha, kp_upd ha kp⟩
theorem kp_same {Hb H H' : Hp} {as : List Addr} (s : Same H H') (kp : ∀ b o, b ∉ as → Hb b = some o → H b = some o) : ∀ b x, b ∉ as → Hb b = some x → H' b = some x := fun b x hb e => s _ _ (kp b x hb e)
def MtInv (Hb : Hp) (pz pg D : Addr) (as : List Addr) (n : Nat) (N : Mx) (ls : List Look) (i : Nat) (σ' : L2.St) (H' : Hp) : Prop := ∃ (v3 v4 v5 : Option V), σ' = [some (.ref pz), some (.ref pg), some (.ref D), v3, v4, v5] ∧ ZAt H' D as n (lookM N (ls.take i)) ∧ ∀ b o, b ∉ as → Hb b = some o → H' b = some o
def spMet (K : PySem.W.Frag) : Sp := fun vs H Q _ => ∃ (pz pg : Addr) (az : List Addr) (n : Nat) (N : Mx) (ls : List Look), vs = [.ref pz, .ref pg] ∧ ZAt H pz az n N ∧ LkAt H pg ls ∧ ls.length ≤ 60 ∧ (∀ l ∈ ls, l.1 + 1 < n ∧ Sz 250 l.2.2) ∧ 1 ≤ n ∧ n ≤ 8 ∧ SzM 7000 N ∧
  ((∃ i d, i < n ∧ nrw n (lookM N ls) i i = some d ∧ d < 1) → ∀ H', Same H H' → Q .non H') ∧
  ((∀ i, i < n → ∃ d, nrw n (lookM N ls) i i = some d ∧ 1 ≤ d) → ∀ p as H', Same H H' → ZAt H' p as n (nrw n (lookM N ls)) → Q (.ref p) H')
theorem ok_met (T : Top K mg) : FnOk P w K mg base CX0 4 T.f_met T.d_met ["zone", "guard"] (spMet K) := by
  refine T.F_met.ok sc_met (fun vs H Q E h => ?_) (fun cdv A outer s H vs Q E hr h => ?_)
  · obtain ⟨pz, pg, az, n, N, ls, rfl, _⟩ := h; rfl
  · obtain ⟨pz, pg, az, n, N, ls, rfl, z, hl, hls, ok, hn1, hn, sN, q1, q2⟩ := h
    refine ⟨_, (pss_cons (ps_set (i := 2) sc_met.nd rfl (.inl rfl) (pe_call (ok_copied T) (hr.mono (by decide)) rfl T.g_copied T.F_copied.kp T.b_copied .nil pass0 (pa_cons (pv 0) pa_nil)))
      (pss_cons (ps_for PassesOwn.never rfl (pi_listA (K := K) rfl (pv 1)) (pg_tupA (K := K) (n := 3) rfl (by rfl) (pgs_cons (pg_name (i := 3) sc_met.nd rfl (.inl rfl)) (pgs_cons (pg_name (i := 4) sc_met.nd rfl (.inl rfl)) (pgs_cons (pg_name (i := 5) sc_met.nd rfl (.inl rfl)) pgs_nil)))) (pss_cons (ps_if (pt_cmpR op_eq (pv 4) pe_str (nomark _)) (pss_one (ps_asg (pe_call (ok_narrower T) (hr.mono (by decide)) rfl T.g_narrower T.F_narrower.kp T.b_narrower .nil pass0 (pa_cons (pe_ix (ix_listA (K := K) rfl) (pe_ix (ix_listA (K := K) rfl) (pv 2) (pv 3) (fun _ _ => rfl)) pe_int (fun _ _ => rfl)) (pa_cons (pe_call (ok_below T) (hr.mono (by decide)) rfl T.g_below T.F_below.kp T.b_below .nil pass0 (pa_cons (pv 5) pa_nil)) pa_nil))) (pg_sub (pe_ix (ix_listA (K := K) rfl) (pv 2) (pv 3) (fun _ _ => rfl)) pe_int set_list))) pss_nil)
      (pss_cons (ps_if (pt_cmpR (op_in_seqA (K := K) rfl) (pv 4) (pe_tupN (pa_cons pe_str (pa_cons pe_str pa_nil))) (by rfl)) (pss_one (ps_asg (pe_call (ok_narrower T) (hr.mono (by decide)) rfl T.g_narrower T.F_narrower.kp T.b_narrower .nil pass0 (pa_cons (pe_ix (ix_listA (K := K) rfl) (pe_ix (ix_listA (K := K) rfl) (pv 2) (pv 3) (fun _ _ => rfl)) pe_int (fun _ _ => rfl)) (pa_cons (pe_call (ok_at_most T) (hr.mono (by decide)) rfl T.g_at_most T.F_at_most.kp T.b_at_most .nil pass0 (pa_cons (pv 5) pa_nil)) pa_nil))) (pg_sub (pe_ix (ix_listA (K := K) rfl) (pv 2) (pv 3) (fun _ _ => rfl)) pe_int set_list))) pss_nil)
      (pss_cons (ps_if (pt_cmpR op_eq (pv 4) pe_str (nomark _)) (pss_one (ps_asg (pe_call (ok_narrower T) (hr.mono (by decide)) rfl T.g_narrower T.F_narrower.kp T.b_narrower .nil pass0 (pa_cons (pe_ix (ix_listA (K := K) rfl) (pe_ix (ix_listA (K := K) rfl) (pv 2) pe_int (fun _ _ => rfl)) (pv 3) (fun _ _ => rfl)) (pa_cons (pe_call (ok_below T) (hr.mono (by decide)) rfl T.g_below T.F_below.kp T.b_below .nil pass0 (pa_cons (pe_op op_sub pe_int (pv 5)) pa_nil)) pa_nil))) (pg_sub (pe_ix (ix_listA (K := K) rfl) (pv 2) pe_int (fun _ _ => rfl)) (pv 3) set_list))) pss_nil)
      (pss_one (ps_if (pt_cmpR (op_in_seqA (K := K) rfl) (pv 4) (pe_tupN (pa_cons pe_str (pa_cons pe_str pa_nil))) (by rfl)) (pss_one (ps_asg (pe_call (ok_narrower T) (hr.mono (by decide)) rfl T.g_narrower T.F_narrower.kp T.b_narrower .nil pass0 (pa_cons (pe_ix (ix_listA (K := K) rfl) (pe_ix (ix_listA (K := K) rfl) (pv 2) pe_int (fun _ _ => rfl)) (pv 3) (fun _ _ => rfl)) (pa_cons (pe_call (ok_at_most T) (hr.mono (by decide)) rfl T.g_at_most T.F_at_most.kp T.b_at_most .nil pass0 (pa_cons (pe_op op_sub pe_int (pv 5)) pa_nil)) pa_nil))) (pg_sub (pe_ix (ix_listA (K := K) rfl) (pv 2) pe_int (fun _ _ => rfl)) (pv 3) set_list))) pss_nil))))))
      (pss_one (ps_ret (pe_call (ok_narrowest T) (hr.mono (by decide)) rfl T.g_narrowest T.F_narrowest.kp T.b_narrowest .nil pass0 (pa_cons (pv 2) pa_nil)))))), ?_⟩
    refine seq_step ?_
    walk_at "rd"
    refine ⟨pz, az, n, N, rfl, z, by omega, fun D as H1 s1 z1 fD ff => ?_⟩
    obtain ⟨qs, la, lb, lc⟩ := hl.keep s1
    have npg : ∀ b x, H b = some x → b ∉ as := fun b x e hb => by rw [ff b hb] at e; cases e
    obtain ⟨qs0, la0, lb0, lc0⟩ := hl
    have two : Sz 2 2 := by unfold Sz; decide
    refine seq_step ?_
    refine for_li ?_
    walk_at "rd"
    refine forL_by (xs := qs.map V.ref) (MtInv H1 pz pg D as n N ls) ⟨_, _, _, rfl, z1, fun _ _ _ e => e⟩ (fun i σ H' _ ⟨_, _, _, _, _, kp⟩ => .of (kp _ _ (npg _ _ la0) la)) ?_ ?_
    · rintro i x σ' H2 hi ⟨v3, v4, v5, rfl, zM, kp⟩
      obtain ⟨qa, hqa, rfl⟩ : ∃ qa, qs[i]? = some qa ∧ x = .ref qa := by
        rw [List.getElem?_map] at hi
        obtain ⟨qa, h1, h2⟩ := Option.map_eq_some_iff.mp hi
        exact ⟨qa, h1, h2.symm⟩
      have hal := (List.getElem?_eq_some_iff.mp hqa).1
      have hla := List.getElem?_eq_getElem (l := ls) (i := i) (by omega)
      have ol := ok _ (List.mem_of_getElem? hla)
      have e1 := lc i qa _ hqa hla
      have eqs : qs0 = qs := by
        have h := s1 _ _ la0
        rw [la] at h
        have h : qs.map V.ref = qs0.map V.ref := by injection h with h; injection h
        exact ((List.map_inj_right (fun a b h => by cases h; rfl)).mp h).symm
      have el := kp _ _ (npg qa _ (lc0 i qa _ (by rw [eqs]; exact hqa) hla)) e1
      generalize ls[i] = l at *
      obtain ⟨p, wd, k⟩ := l
      have hpn : p + 1 < n := ol.1
      have hn0 : 0 < n := by omega
      have sk : Sz 250 k := ol.2
      refine gTup_of (sqt el) rfl ?_
      walk_at "rd"
      cases wd with
      | lt =>
        have stp : lookM N (ls.take (i + 1)) = lookStep (lookM N (ls.take i)) (p, .lt, k) := lookM_snoc N hla
        refine seq_step ?_
        walk_at "rd"
        refine if_t (by decide +kernel) ?_
        walk_at "rd"
        refine ix_top (i := p + 1) zM hpn fun r er hr1 => ?_
        refine ix_row (j := 0) hr1 hn0 ?_
        refine ⟨_, rfl, sk.mono (by omega), ?_⟩
        refine ⟨_, some (2 * k), rfl, ?_⟩
        refine ix_top (i := p + 1) zM hpn fun r' er' hr' => ?_
        obtain rfl : r = r' := Option.some.inj (er.symm.trans er')
        refine set_at (K := K) (j := 0) hr1 hn0 ?_
        obtain ⟨zM, kp⟩ := zM.setK (j := 0) kp (2 * k) er
        refine seq_step ?_
        walk_at "rd"
        intro pt1 Ht1 st1 _ et1
        have zM := zM.keep st1
        have kp := kp_same st1 kp
        refine ⟨pt1, _, rfl, .inr (.of et1), rfl, rfl, ?_⟩
        refine ⟨_, rfl, ?_⟩
        refine if_f (by decide +kernel) ?_
        refine seq_step ?_
        walk_at "rd"
        refine if_f (by decide +kernel) ?_
        walk_at "rd"
        intro pt3 Ht3 st3 _ et3
        have zM := zM.keep st3
        have kp := kp_same st3 kp
        refine ⟨pt3, _, rfl, .inr (.of et3), rfl, rfl, ?_⟩
        refine ⟨_, rfl, ?_⟩
        refine if_f (by decide +kernel) ?_
        exact ⟨_, _, _, rfl, stp ▸ zM, kp⟩
      | le =>
        have stp : lookM N (ls.take (i + 1)) = lookStep (lookM N (ls.take i)) (p, .le, k) := lookM_snoc N hla
        refine seq_step ?_
        walk_at "rd"
        refine if_f (by decide +kernel) ?_
        refine seq_step ?_
        walk_at "rd"
        intro pt1 Ht1 st1 _ et1
        have zM := zM.keep st1
        have kp := kp_same st1 kp
        refine ⟨pt1, _, rfl, .inr (.of et1), rfl, rfl, ?_⟩
        refine ⟨_, rfl, ?_⟩
        refine if_t (by decide +kernel) ?_
        walk_at "rd"
        refine ix_top (i := p + 1) zM hpn fun r er hr1 => ?_
        refine ix_row (j := 0) hr1 hn0 ?_
        refine ⟨_, rfl, sk.mono (by omega), ?_⟩
        refine ⟨_, some (2 * k + 1), rfl, ?_⟩
        refine ix_top (i := p + 1) zM hpn fun r' er' hr' => ?_
        obtain rfl : r = r' := Option.some.inj (er.symm.trans er')
        refine set_at (K := K) (j := 0) hr1 hn0 ?_
        obtain ⟨zM, kp⟩ := zM.setK (j := 0) kp (2 * k + 1) er
        refine seq_step ?_
        walk_at "rd"
        refine if_f (by decide +kernel) ?_
        walk_at "rd"
        intro pt3 Ht3 st3 _ et3
        have zM := zM.keep st3
        have kp := kp_same st3 kp
        refine ⟨pt3, _, rfl, .inr (.of et3), rfl, rfl, ?_⟩
        refine ⟨_, rfl, ?_⟩
        refine if_f (by decide +kernel) ?_
        exact ⟨_, _, _, rfl, stp ▸ zM, kp⟩
      | gt =>
        have stp : lookM N (ls.take (i + 1)) = lookStep (lookM N (ls.take i)) (p, .gt, k) := lookM_snoc N hla
        refine seq_step ?_
        walk_at "rd"
        refine if_f (by decide +kernel) ?_
        refine seq_step ?_
        walk_at "rd"
        intro pt1 Ht1 st1 _ et1
        have zM := zM.keep st1
        have kp := kp_same st1 kp
        refine ⟨pt1, _, rfl, .inr (.of et1), rfl, rfl, ?_⟩
        refine ⟨_, rfl, ?_⟩
        refine if_f (by decide +kernel) ?_
        refine seq_step ?_
        walk_at "rd"
        refine if_t (by decide +kernel) ?_
        walk_at "rd"
        refine ix_top (i := 0) zM hn0 fun r er hr1 => ?_
        refine ix_row (j := p + 1) hr1 hpn ?_
        refine ⟨_, rfl, Sz.le (j := k) (by omega) (sk.mono (by omega)), ?_⟩
        refine ⟨_, some (2 * (0 - k)), rfl, ?_⟩
        refine ix_top (i := 0) zM hn0 fun r' er' hr' => ?_
        obtain rfl : r = r' := Option.some.inj (er.symm.trans er')
        refine set_at (K := K) (j := p + 1) hr1 hpn ?_
        obtain ⟨zM, kp⟩ := zM.setK (j := p + 1) kp (2 * (0 - k)) er
        walk_at "rd"
        intro pt3 Ht3 st3 _ et3
        have zM := zM.keep st3
        have kp := kp_same st3 kp
        refine ⟨pt3, _, rfl, .inr (.of et3), rfl, rfl, ?_⟩
        refine ⟨_, rfl, ?_⟩
        refine if_f (by decide +kernel) ?_
        exact ⟨_, _, _, rfl, stp ▸ zM, kp⟩
      | ge =>
        have stp : lookM N (ls.take (i + 1)) = lookStep (lookM N (ls.take i)) (p, .ge, k) := lookM_snoc N hla
        refine seq_step ?_
        walk_at "rd"
        refine if_f (by decide +kernel) ?_
        refine seq_step ?_
        walk_at "rd"
        intro pt1 Ht1 st1 _ et1
        have zM := zM.keep st1
        have kp := kp_same st1 kp
        refine ⟨pt1, _, rfl, .inr (.of et1), rfl, rfl, ?_⟩
        refine ⟨_, rfl, ?_⟩
        refine if_f (by decide +kernel) ?_
        refine seq_step ?_
        walk_at "rd"
        refine if_f (by decide +kernel) ?_
        walk_at "rd"
        intro pt3 Ht3 st3 _ et3
        have zM := zM.keep st3
        have kp := kp_same st3 kp
        refine ⟨pt3, _, rfl, .inr (.of et3), rfl, rfl, ?_⟩
        refine ⟨_, rfl, ?_⟩
        refine if_t (by decide +kernel) ?_
        walk_at "rd"
        refine ix_top (i := 0) zM hn0 fun r er hr1 => ?_
        refine ix_row (j := p + 1) hr1 hpn ?_
        refine ⟨_, rfl, Sz.le (j := k) (by omega) (sk.mono (by omega)), ?_⟩
        refine ⟨_, some (2 * (0 - k) + 1), rfl, ?_⟩
        refine ix_top (i := 0) zM hn0 fun r' er' hr' => ?_
        obtain rfl : r = r' := Option.some.inj (er.symm.trans er')
        refine set_at (K := K) (j := p + 1) hr1 hpn ?_
        obtain ⟨zM, kp⟩ := zM.setK (j := p + 1) kp (2 * (0 - k) + 1) er
        exact ⟨_, _, _, rfl, stp ▸ zM, kp⟩
      | eq =>
        have stp : lookM N (ls.take (i + 1)) = lookStep (lookM N (ls.take i)) (p, .eq, k) := lookM_snoc N hla
        refine seq_step ?_
        walk_at "rd"
        refine if_f (by decide +kernel) ?_
        refine seq_step ?_
        walk_at "rd"
        intro pt1 Ht1 st1 _ et1
        have zM := zM.keep st1
        have kp := kp_same st1 kp
        refine ⟨pt1, _, rfl, .inr (.of et1), rfl, rfl, ?_⟩
        refine ⟨_, rfl, ?_⟩
        refine if_t (by decide +kernel) ?_
        walk_at "rd"
        refine ix_top (i := p + 1) zM hpn fun r er hr1 => ?_
        refine ix_row (j := 0) hr1 hn0 ?_
        refine ⟨_, rfl, sk.mono (by omega), ?_⟩
        refine ⟨_, some (2 * k + 1), rfl, ?_⟩
        refine ix_top (i := p + 1) zM hpn fun r' er' hr' => ?_
        obtain rfl : r = r' := Option.some.inj (er.symm.trans er')
        refine set_at (K := K) (j := 0) hr1 hn0 ?_
        obtain ⟨zM, kp⟩ := zM.setK (j := 0) kp (2 * k + 1) er
        refine seq_step ?_
        walk_at "rd"
        refine if_f (by decide +kernel) ?_
        walk_at "rd"
        intro pt3 Ht3 st3 _ et3
        have zM := zM.keep st3
        have kp := kp_same st3 kp
        refine ⟨pt3, _, rfl, .inr (.of et3), rfl, rfl, ?_⟩
        refine ⟨_, rfl, ?_⟩
        refine if_t (by decide +kernel) ?_
        walk_at "rd"
        refine ix_top (i := 0) zM hn0 fun r er hr1 => ?_
        refine ix_row (j := p + 1) hr1 hpn ?_
        refine ⟨_, rfl, Sz.le (j := k) (by omega) (sk.mono (by omega)), ?_⟩
        refine ⟨_, some (2 * (0 - k) + 1), rfl, ?_⟩
        refine ix_top (i := 0) zM hn0 fun r' er' hr' => ?_
        obtain rfl : r = r' := Option.some.inj (er.symm.trans er')
        refine set_at (K := K) (j := p + 1) hr1 hpn ?_
        obtain ⟨zM, kp⟩ := zM.setK (j := p + 1) kp (2 * (0 - k) + 1) er
        exact ⟨_, _, _, rfl, stp ▸ zM, kp⟩
    · rintro σ' H2 ⟨v3, v4, v5, rfl, zM, kp⟩
      walk_at "rd"
      rw [List.length_map, lb, List.take_length] at zM
      have sH : Same H H2 := fun b o e => kp b o (npg b o e) (s1 _ _ e)
      have cub := cube_le (n := n) (by omega)
      refine ⟨D, as, n, _, 7000, rfl, zM, by omega, by omega, look_sz ls N sN (by omega) (fun l h => (ok l h).2), by omega, fun h H' s' => q1 h H' (sH.trans s'), fun h p' as' H' s' z' _ _ => q2 h p' as' H' (sH.trans s') z'⟩
def spWaited (K : PySem.W.Frag) : Sp := fun vs H Q _ => ∃ (pz : Addr) (az : List Addr) (n : Nat) (N : Mx), vs = [.ref pz] ∧ ZAt H pz az n N ∧ 1 ≤ n ∧ n ≤ 8 ∧ ∀ (p : Addr) (as : List Addr) (H' : Hp), Same H H' → H p = none → (∀ a ∈ as, H a = none) → ZAt H' p as n (waitM N) → Q (.ref p) H'
/-- the first i rows are turned by f -/
def rowsM (N T : Mx) (i : Nat) : Mx := fun a b => if a < i then T a b else N a b
theorem ok_waited (T : Top K mg) : FnOk P w K mg base CX0 2 T.f_waited T.d_waited ["zone"] (spWaited K) := by
  refine T.F_waited.ok sc_waited (fun vs H Q E h => ?_) (fun cdv A outer s H vs Q E hr h => ?_)
  · obtain ⟨pz, az, n, N, rfl, _⟩ := h; rfl
  · obtain ⟨pz, az, n, N, rfl, z, hn1, hn, q⟩ := h
    refine ⟨_, (pss_cons (ps_set (i := 1) sc_waited.nd rfl (.inl rfl) (pe_call (ok_copied T) (hr.mono (by decide)) rfl T.g_copied T.F_copied.kp T.b_copied .nil pass0 (pa_cons (pv 0) pa_nil)))
      (pss_cons (ps_for PassesOwn.never rfl (pi_listA (K := K) rfl (pe_slice (sl_listA (K := K) rfl) (pv 1) (po_some pe_int) po_none)) (pg_name (i := 2) sc_waited.nd rfl (.inl rfl)) (pss_one (ps_asg pe_non (pg_sub (pv 2) pe_int set_list))))
      (pss_one (ps_ret (pv 1))))), ?_⟩
    refine seq_step ?_
    walk_at "rd"
    refine ⟨pz, az, n, N, rfl, z, by omega, fun D as H1 s1 z1 fD ff => ?_⟩
    refine seq_step ?_
    refine for_li ?_
    walk_at "rd"
    refine ⟨_, .of z1.top, fun pl H2 s2 fl el => ?_⟩
    have cut : cutV (as.map V.ref) (some 1) none = (as.drop 1).map V.ref := by
      rw [List.map_drop]
      exact cut_from (k := 1) (by rw [List.length_map, z1.len]; omega)
    rw [cut] at el
    have z2 := z1.keep s2
    have npl : pl ∉ as := fun hm => by
      obtain ⟨j, hj, e⟩ := List.mem_iff_getElem.mp hm
      have h := z1.row j pl (by rw [List.getElem?_eq_getElem hj, e])
      rw [fl] at h; cases h
    refine forL_by (xs := (as.drop 1).map V.ref) (fun i σ' H' => ∃ v2, σ' = [some (.ref pz), some (.ref D), v2] ∧ ZAt H' D as n (rowsM N (waitM N) (i + 1)) ∧ ∀ b o, b ∉ as → H2 b = some o → H' b = some o) ⟨_, rfl, z2.to fun a b ha hb => ?_, fun _ _ _ e => e⟩ (fun i σ H' _ ⟨_, _, _, kp⟩ => .of (kp _ _ npl el)) ?_ ?_
    · unfold rowsM waitM
      split
      · rw [if_neg (by omega)]
      · rfl
    · rintro i x σ' H3 hi ⟨v2, rfl, zM, kp⟩
      rw [List.getElem?_map, List.getElem?_drop] at hi
      obtain ⟨r, er, rfl⟩ := Option.map_eq_some_iff.mp hi
      have hin : 1 + i < n := by rw [← zM.len]; exact (List.getElem?_eq_some_iff.mp er).1
      have hr1 := zM.row (1 + i) r er
      walk_at "rd"
      refine set_at (K := K) (x := none) (j := 0) hr1 (by omega) ?_
      refine ⟨(zM.set (j := 0) none er).to fun a b ha hb => ?_, kp_upd er kp⟩
      unfold up2 rowsM waitM
      repeat' split
      all_goals first | rfl | (exfalso; omega)
    · rintro σ' H3 ⟨v2, rfl, zM, kp⟩
      walk_at "rd"
      refine q D as H3 (fun b o e => kp b o (fun hb => by rw [ff b hb] at e; cases e) (s2 _ _ (s1 _ _ e))) fD ff (zM.to fun a b ha hb => if_pos ?_)
      rw [List.length_map, List.length_drop, z1.len]
      omega
/-- the rows are put, the first i of them have their place p by place 0 -/
def colM (p : Nat) (N : Mx) (i : Nat) : Mx := fun a b => if b = p ∧ a < i then N (sg p a) 0 else N (sg p a) b
theorem ZAt.putRow {H : Hp} {D l : Addr} {as : List Addr} {n p : Nat} {N : Mx} (z : ZAt H D as n N) (hp : p < n) (el : H l = some (.lst (zrow n (N 0)))) (nl : l ∉ as) (nD : l ≠ D) :
    ZAt (upd H D (.lst ((as.map V.ref).set p (.ref l)))) D (as.set p l) n (fun a b => N (sg p a) b) := by
  have h0 : 0 < n := by omega
  refine ⟨by rw [upd_same, List.map_set], by rw [List.length_set]; exact z.len, fun i a e => ?_, ?_⟩
  · rw [List.getElem?_set] at e
    by_cases c : p = i
    · rw [if_pos c, if_pos (by rw [z.len]; exact hp)] at e
      cases e
      rw [upd_ne nD, el]
      show _ = some (HO.lst (zrow n (N (sg p i))))
      rw [show sg p i = 0 by unfold sg; rw [if_pos c.symm]]
    · rw [if_neg c] at e
      have na : a ≠ D := fun h => z.np (by rw [← h]; exact List.mem_of_getElem? e)
      rw [upd_ne na, z.row i a e]
      show _ = some (HO.lst (zrow n (N (sg p i))))
      rw [show sg p i = i by unfold sg; rw [if_neg (fun h => c h.symm)]]
  · have nd : ∀ (i j : Nat) (hi : i < as.length) (hj : j < as.length), i < j → as[i] ≠ as[j] := List.pairwise_iff_getElem.mp z.nd
    have mem : ∀ (k : Nat) (hk : k < as.length), as[k] ≠ l := fun k hk h => nl (by rw [← h]; exact List.getElem_mem hk)
    show List.Pairwise (· ≠ ·) (as.set p l)
    rw [List.pairwise_iff_getElem]
    intro i j hi hj hij
    rw [List.length_set] at hi hj
    rw [List.getElem_set, List.getElem_set]
    by_cases c1 : p = i
    · rw [if_pos c1, if_neg (by omega)]
      exact fun e => mem j hj e.symm
    · rw [if_neg c1]
      by_cases c2 : p = j
      · rw [if_pos c2]
        exact mem i hi
      · rw [if_neg c2]
        exact nd i j hi hj hij
theorem colM_all (p n : Nat) (N : Mx) : ∀ a b, a < n → colM p N n a b = putM p N a b := fun a b ha => by
  unfold colM putM
  by_cases c : b = p
  · rw [if_pos ⟨c, ha⟩, show sg p b = 0 by unfold sg; rw [if_pos c]]
  · rw [if_neg (by omega), show sg p b = b by unfold sg; rw [if_neg c]]
/-- by all the places, one behind the other -/
def putsM (N : Mx) (ps : List Nat) : Mx := ps.foldl (fun M p => putM p M) N
theorem putsM_snoc (N : Mx) {ps : List Nat} {i p : Nat} (h : ps[i]? = some p) : putsM N (ps.take (i + 1)) = putM p (putsM N (ps.take i)) := by
  unfold putsM
  rw [List.take_add_one, h]
  simp [List.foldl_append]
def PbInv (Hb : Hp) (pz pp D : Addr) (n : Nat) (N : Mx) (ps : List Nat) (i : Nat) (σ' : L2.St) (H' : Hp) : Prop := ∃ (as : List Addr) (v3 v4 : Option V), σ' = [some (.ref pz), some (.ref pp), some (.ref D), v3, v4] ∧ ZAt H' D as n (putsM N (ps.take i)) ∧ Same Hb H' ∧ ∀ a ∈ as, Hb a = none
def PbInv2 (Hb : Hp) (pz pp D : Addr) (as : List Addr) (n p : Nat) (N : Mx) (i : Nat) (σ' : L2.St) (H' : Hp) : Prop := ∃ (v4 : Option V), σ' = [some (.ref pz), some (.ref pp), some (.ref D), some (.int p), v4] ∧ ZAt H' D as n (colM p N i) ∧ Same Hb H'
def spPutBack (K : PySem.W.Frag) : Sp := fun vs H Q _ => ∃ (pz pp : Addr) (az : List Addr) (n : Nat) (N : Mx) (ps : List Nat), vs = [.ref pz, .ref pp] ∧ ZAt H pz az n N ∧ H pp = some (.lst (ps.map fun p : Nat => V.int (p : Int))) ∧ ps.length ≤ 60 ∧ (∀ p ∈ ps, p < n) ∧ 1 ≤ n ∧ n ≤ 8 ∧ ∀ (q : Addr) (as : List Addr) (H' : Hp), Same H H' → H q = none → (∀ a ∈ as, H a = none) → ZAt H' q as n (putsM N ps) → Q (.ref q) H'
theorem ok_put_back (T : Top K mg) : FnOk P w K mg base CX0 2 T.f_put_back T.d_put_back ["zone", "places"] (spPutBack K) := by
  refine T.F_put_back.ok sc_put_back (fun vs H Q E h => ?_) (fun cdv A outer s H vs Q E hr h => ?_)
  · obtain ⟨pz, pp, az, n, N, ps, rfl, _⟩ := h; rfl
  · obtain ⟨pz, pp, az, n, N, ps, rfl, z, ep, hps, okp, hn1, hn, q⟩ := h
    refine ⟨_, (pss_cons (ps_set (i := 2) sc_put_back.nd rfl (.inl rfl) (pe_call (ok_copied T) (hr.mono (by decide)) rfl T.g_copied T.F_copied.kp T.b_copied .nil pass0 (pa_cons (pv 0) pa_nil)))
      (pss_cons (ps_for PassesOwn.never rfl (pi_listA (K := K) rfl (pv 1)) (pg_name (i := 3) sc_put_back.nd rfl (.inl rfl)) (pss_cons (ps_asg (pe_callTy (call_listA (K := K) rfl) (by rfl) T.m_list (by decide +kernel) (pa_cons (pe_ix (ix_listA (K := K) rfl) (pv 2) pe_int (fun _ _ => rfl)) pa_nil)) (pg_sub (pv 2) (pv 3) set_list))
      (pss_one (ps_for PassesOwn.never rfl (pi_listA (K := K) rfl (pv 2)) (pg_name (i := 4) sc_put_back.nd rfl (.inl rfl)) (pss_one (ps_asg (pe_ix (ix_listA (K := K) rfl) (pv 4) pe_int (fun _ _ => rfl)) (pg_sub (pv 4) (pv 3) set_list)))))))
      (pss_one (ps_ret (pv 2))))), ?_⟩
    refine seq_step ?_
    walk_at "rd"
    refine ⟨pz, az, n, N, rfl, z, by omega, fun D as H1 s1 z1 fD ff => ?_⟩
    refine seq_step ?_
    refine for_li ?_
    walk_at "rd"
    refine forL_by (xs := ps.map fun p : Nat => V.int (p : Int)) (PbInv H pz pp D n N ps) ⟨as, _, _, rfl, z1, s1, ff⟩ (fun i σ H' _ ⟨_, _, _, _, _, s, _⟩ => .of (s _ _ ep)) ?_ ?_
    · rintro i x σ' H3 hi ⟨as, v3, v4, rfl, zM, s3, ff⟩
      rw [List.getElem?_map] at hi
      obtain ⟨p, hp, rfl⟩ := Option.map_eq_some_iff.mp hi
      have hpn := okp p (List.mem_of_getElem? hp)
      rw [show PbInv H pz pp D n N ps (i + 1) = fun σ' H' => ∃ (as : List Addr) (v3 v4 : Option V), σ' = [some (.ref pz), some (.ref pp), some (.ref D), v3, v4] ∧ ZAt H' D as n (putM p (putsM N (ps.take i))) ∧ Same H H' ∧ ∀ a ∈ as, H a = none by unfold PbInv; rw [putsM_snoc N hp]]
      generalize putsM N (ps.take i) = M at *
      walk_at "rd"
      refine seq_step ?_
      walk_at "rd"
      refine ix_top (i := 0) zM (by omega) fun r0 er0 hr0 => ?_
      walk_at "rd"
      refine ⟨_, .inl (.of hr0), fun l H4 s4 fl el => ?_⟩
      have nl : l ∉ as := fun hm => by
        obtain ⟨j, hj, e⟩ := List.mem_iff_getElem.mp hm
        have h := zM.row j l (by rw [List.getElem?_eq_getElem hj, e])
        rw [fl] at h; cases h
      have nD : l ≠ D := fun e => by rw [e, zM.top] at fl; cases fl
      have z4 := zM.keep s4
      have z5 := z4.putRow hpn el nl nD
      have s5 : Same H (upd H4 D (.lst ((as.map V.ref).set p (.ref l)))) := same_updN fD (s3.trans s4)
      have ff5 : ∀ a ∈ as.set p l, H a = none := fun a ha => by
        rcases List.mem_or_eq_of_mem_set ha with h | h
        · exact ff a h
        · rw [h]; exact s3.free fl
      refine ⟨D, _, p, p, rfl, rfl, z4.top, by unfold ixN; rw [if_pos (by omega), if_pos (by rw [List.length_map, z4.len]; omega), Int.toNat_natCast], ?_⟩
      generalize upd H4 D (.lst ((as.map V.ref).set p (.ref l))) = H5 at *
      generalize as.set p l = as' at *
      refine for_li ?_
      walk_at "rd"
      refine forL_by (xs := as'.map V.ref) (PbInv2 H pz pp D as' n p M) ⟨_, rfl, z5.to fun a b _ _ => (if_neg (by omega)).symm, s5⟩ (fun i σ H' _ ⟨_, _, z', _⟩ => .of z'.top) ?_ ?_
      · rintro j x σ' H6 hj ⟨v4', rfl, z6, s6⟩
        rw [List.getElem?_map] at hj
        obtain ⟨r, er, rfl⟩ := Option.map_eq_some_iff.mp hj
        have hjn : j < n := by rw [← z6.len]; exact (List.getElem?_eq_some_iff.mp er).1
        have hr1 := z6.row j r er
        walk_at "rd"
        refine ix_row (j := 0) hr1 (by omega) ?_
        refine set_at (K := K) (j := p) hr1 hpn ?_
        refine ⟨_, rfl, (z6.set (j := p) _ er).to fun a b ha hb => ?_, same_updN (ff5 r (List.mem_of_getElem? er)) s6⟩
        unfold up2 colM
        by_cases c : a = j ∧ b = p
        · rw [if_pos c, if_neg (by omega), if_pos (by omega), c.1]
        · rw [if_neg c]
          by_cases d : b = p ∧ a < j
          · rw [if_pos d, if_pos (by omega)]
          · rw [if_neg d, if_neg (by omega)]
      · rintro σ' H6 ⟨v4', rfl, z6, s6⟩
        rw [List.length_map, z6.len] at z6
        exact ⟨as', _, _, rfl, z6.to fun a b ha _ => colM_all p n M a b ha, s6, ff5⟩
    · rintro σ' H3 ⟨as, v3, v4, rfl, zM, s3, ff⟩
      walk_at "rd"
      rw [List.length_map, List.take_length] at zM
      exact q D as H3 s3 fD ff zM
/-! ### facts carried along the chain of heaps -/
class Kp2 {α : Type} (R : Hp → Addr → α → Prop) : Prop where
  keep : ∀ (H H' : Hp) (q : Addr) (x : α), Same H H' → R H q x → R H' q x
theorem SeqOf.kept {α : Type} {R : Hp → Addr → α → Prop} [k : Kp2 R] {H H' : Hp} {p : Addr} {xs : List α} (h : SeqOf R H p xs) (s : Same H H') : SeqOf R H' p xs := SeqOf.keep (fun q x => k.keep _ _ q x s) s h
instance : Kp2 RqAt := ⟨fun _ _ _ _ s h => RqAt.keep s h⟩
instance : Kp2 LqAt := ⟨fun _ _ _ _ s h => LqAt.keep s h⟩
instance {C : Addr} : Kp2 (DoorAt C) := ⟨fun _ _ _ _ s h => DoorAt.keep s h⟩
theorem Rf {a b : Hp} (s : Same a b) {p : Addr} {o : HO} (h : a p = some o) : b p = some o := s _ _ h
theorem ZAt.kp {H H' : Hp} {p : Addr} {as : List Addr} {n : Nat} {M : Mx} (s : Same H H') (z : ZAt H p as n M) : ZAt H' p as n M := z.keep s
theorem SeqOf.kp {α : Type} {R : Hp → Addr → α → Prop} [k : Kp2 R] {H H' : Hp} {p : Addr} {xs : List α} (s : Same H H') (h : SeqOf R H p xs) : SeqOf R H' p xs := h.kept s
theorem SqL.kp {K : PySem.W.Frag} {H H' : Hp} {a : Addr} {xs : List V} (s : Same H H') (h : SqL K H a xs) : SqL K H' a xs := s.seq h
local macro_rules | `(tactic| walk_at "hp") => `(tactic| first | assumption | exact Same.refl _ | (refine ZW.Rf (by assumption) ?_; walk_at "hp") | (refine ZW.ZAt.kp (by assumption) ?_; walk_at "hp") | (refine ZW.SeqOf.kp (by assumption) ?_; walk_at "hp") | (refine ZW.MachAt.keep (by assumption) ?_; walk_at "hp") | (refine ZW.SqL.kp (by assumption) ?_; walk_at "hp") | (refine Same.trans ?_ (by assumption); walk_at "hp"))
local macro_rules | `(‹_›) => `(by walk_at "hp")
/-! ### papers: plain -/
def wdOf (s : Str) : Wd := if s = "<" then .lt else if s = "<=" then .le else if s = ">" then .gt else if s = ">=" then .ge else .eq
theorem wdOf_s {s : Str} (h : s ∈ WORDS) : (wdOf s).s = s := by
  simp only [List.mem_cons, List.not_mem_nil, or_false] at h
  rcases h with rfl | rfl | rfl | rfl | rfl <;> decide +kernel
def lks (ws : List Str) (ls : List Lq) : List Look := ls.map fun l => (ws.idxOf l.1, wdOf l.2.1, numOf l.2.2)
def SzL (ls : List Lq) : Prop := ∀ l ∈ ls, Sz 250 (numOf l.2.2)
def MSz (M : MachD) : Prop := (∀ r ∈ M.rooms, SzL r.2) ∧ ∀ d ∈ M.doors, SzL d.looks
theorem look_parts {ws watches : List Str} {l : Lq} (h : lookOk ws watches l = true) : l.1 ∈ watches ∧ l.2.1 ∈ ws ∧ ∃ n : Int, l.2.2 = .int n ∧ 0 ≤ n := by
  unfold lookOk at h
  rw [Bool.and_eq_true, Bool.and_eq_true] at h
  refine ⟨of_decide_eq_true h.1.1, of_decide_eq_true h.1.2, ?_⟩
  have := h.2
  cases hv : l.2.2 <;> rw [hv] at this <;> first | exact ⟨_, rfl, of_decide_eq_true this⟩ | cases this
theorem lk_of {H : Hp} {p : Addr} {ws : List Str} {ls : List Lq} (h : SeqOf (PlAt ws) H p ls) (gk : guardOk WORDS ws ls = true) : LkAt H p (lks ws ls) := by
  obtain ⟨qs, a, b, c⟩ := h
  refine ⟨qs, a, by rw [b]; unfold lks; rw [List.length_map], fun i q l h1 h2 => ?_⟩
  unfold lks at h2
  rw [List.getElem?_map] at h2
  obtain ⟨x, hx, rfl⟩ := Option.map_eq_some_iff.mp h2
  obtain ⟨n, e, hq⟩ := c i q x h1 hx
  have k := look_parts (List.all_eq_true.mp gk x (List.mem_of_getElem? hx))
  show H q = some (.tup [.int ((ws.idxOf x.1 + 1 : Nat) : Int), .str (wdOf x.2.1).s, .int (numOf x.2.2)])
  rw [wdOf_s k.2.1, hq, e]; rfl
theorem lks_ok {ws : List Str} {ls : List Lq} (gk : guardOk WORDS ws ls = true) (sz : SzL ls) : ∀ l ∈ lks ws ls, l.1 + 1 < ws.length + 1 ∧ Sz 250 l.2.2 := fun l hl => by
  obtain ⟨x, hx, rfl⟩ := List.mem_map.mp hl
  have k := look_parts (List.all_eq_true.mp gk x hx)
  exact ⟨by have := List.idxOf_lt_length_iff.mpr k.1; show ws.idxOf x.1 + 1 < _; omega, sz x hx⟩
def PosAll (n : Nat) (X : Mx) : Prop := ∀ i, i < n → Pos X i
open Classical in
noncomputable def nrwO (n : Nat) (M : Mx) : Option Mx := if PosAll n (nrw n M) then some (nrw n M) else none
noncomputable def metO (n : Nat) (N : Mx) (ls : List Look) : Option Mx := nrwO n (lookM N ls)
theorem pos_get {n i : Nat} {M : Mx} (h : i < n) (p : Pos (nrw n M) i) : ∃ d, nrw n M i i = some d ∧ 1 ≤ d := by
  obtain ⟨d, hd⟩ := has_nrw (M := M) h
  refine ⟨d, hd, ?_⟩
  unfold Pos at p
  rw [hd] at p
  exact p
theorem nrwO_some {n : Nat} {M X : Mx} (h : nrwO n M = some X) : X = nrw n M ∧ PosAll n (nrw n M) := by
  unfold nrwO at h
  split at h
  · rename_i c; exact ⟨(Option.some.inj h).symm, c⟩
  · cases h
theorem nrwO_none {n : Nat} {M : Mx} (h : nrwO n M = none) : ¬ PosAll n (nrw n M) := by
  unfold nrwO at h
  split at h
  · cases h
  · assumption
theorem nrwO_pos {n : Nat} {M : Mx} (h : PosAll n (nrw n M)) : nrwO n M = some (nrw n M) := by
  unfold nrwO; rw [if_pos h]
theorem nrwO_no {n : Nat} {M : Mx} (h : ¬ PosAll n (nrw n M)) : nrwO n M = none := by
  unfold nrwO; rw [if_neg h]
theorem nrw_szf {n s : Nat} {M : Mx} (hn : n ≤ 8) (hs : 1 ≤ s) (h : SzM s M) : SzM (s + 1024) (nrw n M) :=
  (nrw_sz (n := n) (m := n) hs h).mono (by have := cube_le hn; omega)
def LeN (n : Nat) (A B : Mx) : Prop := ∀ i j, i < n → j < n → leO (A i j) (B i j)
open Classical in
noncomputable def leB (n : Nat) (A B : Mx) : Bool := decide (LeN n A B)
theorem leB_iff {n : Nat} {A B : Mx} : leB n A B = true ↔ LeN n A B := by unfold leB; exact @decide_eq_true_iff _ (Classical.propDecidable _)
def CovP (n : Nat) (Zs : List Mx) (X : Option Mx) : Prop := ∀ Y, X = some Y → ∃ Z ∈ Zs, LeN n Y Z
/-- zones on the heap -/
def ZoAt (n : Nat) (H : Hp) (q : Addr) (Z : Mx) : Prop := ∃ as, ZAt H q as n Z
theorem ZoAt.keep {n : Nat} : ∀ (H H' : Hp) (q : Addr) (Z : Mx), Same H H' → ZoAt n H q Z → ZoAt n H' q Z := fun _ _ _ _ s ⟨as, h⟩ => ⟨as, h.keep s⟩
def stayOf (M : MachD) (r : Str) : List Lq := (M.rooms.find? fun x => decide (x.1 = r)).elim [] (·.2)
theorem stayOf_at {M : MachD} (nd : (M.rooms.map (·.1)).Nodup) {r : Rq} (h : r ∈ M.rooms) : stayOf M r.1 = r.2 := by
  unfold stayOf
  cases hf : M.rooms.find? fun x => decide (x.1 = r.1) with
  | none =>
    have := List.find?_eq_none.mp hf r h
    simp at this
  | some x =>
    have h1 := List.mem_of_find?_eq_some hf
    have h2 : x.1 = r.1 := by simpa using List.find?_some hf
    have : x = r := by
      obtain ⟨i, hi, rfl⟩ := List.mem_iff_getElem.mp h1
      obtain ⟨j, hj, rfl⟩ := List.mem_iff_getElem.mp h
      have e : (M.rooms.map (·.1))[i]? = (M.rooms.map (·.1))[j]? := by rw [List.getElem?_map, List.getElem?_map, List.getElem?_eq_getElem hi, List.getElem?_eq_getElem hj]; exact congrArg some h2
      have := (List.getElem?_inj (by rw [List.length_map]; exact hi) nd).mp e
      subst this; rfl
    rw [this]; rfl
def dimM (M : MachD) : Nat := M.watches.length + 1
noncomputable def stayO (M : MachD) (r : Str) (N : Mx) : Option Mx := metO (dimM M) N (lks M.watches (stayOf M r))
def backsN (M : MachD) (d : DoorD) : List Nat := d.backs.map fun x => M.watches.idxOf x + 1
noncomputable def thruO (M : MachD) (N : Mx) (d : DoorD) : Option Mx := (metO (dimM M) N (lks M.watches d.looks)).map fun X => putsM X (backsN M d)
def ClosedP (M : MachD) (zs : Str → List Mx) (r : Str) (N : Mx) : Prop := CovP (dimM M) (zs r) (stayO M r (waitM N)) ∧ ∀ d ∈ M.doors, d.st = r → d.sg = "" → ∀ X, thruO M N d = some X → CovP (dimM M) (zs d.en) (stayO M d.en X)
def HitP (M : MachD) (goal : List Rq) (r : Str) (N : Mx) : Prop := ∃ g ∈ goal, g.1 = r ∧ metO (dimM M) N (lks M.watches g.2) ≠ none
noncomputable def zonesP (n : Nat) (paper : List (Str × Mx)) (r : Str) : List Mx := paper.filterMap fun x => if x.1 = r then nrwO n x.2 else none
def LetsP (M : MachD) (goal : List Rq) (paper : List (Str × Mx)) : Prop := CovP (dimM M) (zonesP (dimM M) paper (M.rooms.headD ("", [])).1) (stayO M (M.rooms.headD ("", [])).1 oneM) ∧ ∀ r ∈ M.rooms, ∀ N ∈ zonesP (dimM M) paper r.1, ¬ HitP M goal r.1 N ∧ ClosedP M (zonesP (dimM M) paper) r.1 N
theorem guard_words {ws : List Str} {ls : List Lq} (h : guardOk ["<", "<="] ws ls = true) : guardOk WORDS ws ls = true := List.all_eq_true.mpr fun l hl => by
  have := List.all_eq_true.mp h l hl
  unfold lookOk at this ⊢
  rw [Bool.and_eq_true, Bool.and_eq_true] at this ⊢
  refine ⟨⟨this.1.1, decide_eq_true ?_⟩, this.2⟩
  have m := of_decide_eq_true this.1.2
  simp only [List.mem_cons, List.not_mem_nil, or_false] at m ⊢
  rcases m with h | h
  · exact .inl h
  · exact .inr (.inl h)
/-- a dict from names to lists -/
def kvz : List Str → List Addr → List (Key × V)
  | n :: ns, l :: ls => (.inr n, .ref l) :: kvz ns ls
  | _, _ => []
theorem kvz_len : ∀ {ns : List Str} {ls : List Addr}, ns.length = ls.length → (kvz ns ls).length = ns.length
  | [], _, _ => by cases ‹List Addr› <;> rfl
  | n :: ns, [], h => by cases h
  | n :: ns, l :: ls, h => by show (kvz ns ls).length + 1 = ns.length + 1; rw [kvz_len (by simpa using h)]
theorem kvz_snoc : ∀ {ns : List Str} {ls : List Addr} {n : Str} {l : Addr}, ns.length = ls.length → kvz (ns ++ [n]) (ls ++ [l]) = kvz ns ls ++ [(.inr n, .ref l)]
  | [], [], _, _, _ => rfl
  | [], _ :: _, _, _, h => by cases h
  | _ :: _, [], _, _, h => by cases h
  | a :: ns, b :: ls, n, l, h => by
    show (Sum.inr a, V.ref b) :: kvz (ns ++ [n]) (ls ++ [l]) = _
    rw [kvz_snoc (by simpa using h)]; rfl
theorem kvz_no : ∀ {ns : List Str} {ls : List Addr} {n : Str}, n ∉ ns → valV (kvz ns ls) (.inr n : Key) = none
  | [], _, _, _ => by cases ‹List Addr› <;> rfl
  | a :: ns, [], _, _ => rfl
  | a :: ns, b :: ls, n, h => by
    have h1 : ¬ (a = n) := fun e => h (by rw [e]; exact List.mem_cons_self)
    show valV ((.inr a, .ref b) :: kvz ns ls) _ = none
    rw [valV_neg (fun e => h1 (by injection e))]
    exact kvz_no fun m => h (List.mem_cons_of_mem _ m)
theorem kvz_at : ∀ {ns : List Str} {ls : List Addr} {i : Nat} {n : Str} {l : Addr}, ns.Nodup → ns[i]? = some n → ls[i]? = some l → valV (kvz ns ls) (.inr n : Key) = some (.ref l)
  | [], _, _, _, _, _, h, _ => by simp at h
  | a :: ns, [], _, _, _, _, _, h => by simp at h
  | a :: ns, b :: ls, 0, n, l, _, h1, h2 => by
    rw [List.getElem?_cons_zero] at h1 h2
    cases h1; cases h2
    exact valV_pos rfl
  | a :: ns, b :: ls, i + 1, n, l, nd, h1, h2 => by
    rw [List.getElem?_cons_succ] at h1 h2
    rw [List.nodup_cons] at nd
    have h3 : ¬ (a = n) := fun e => nd.1 (by rw [e]; exact List.mem_of_getElem? h1)
    show valV ((.inr a, .ref b) :: kvz ns ls) _ = _
    rw [valV_neg (fun e => h3 (by injection e))]
    exact kvz_at nd.2 h1 h2
theorem kvz_get : ∀ {ns : List Str} {ls : List Addr} {i : Nat} {k : Key} {v : V}, (kvz ns ls)[i]? = some (k, v) → ∃ n l, ns[i]? = some n ∧ ls[i]? = some l ∧ k = .inr n ∧ v = .ref l
  | [], _, _, _, _, h => by cases ‹List Addr› <;> simp [kvz] at h
  | a :: ns, [], _, _, _, h => by simp [kvz] at h
  | a :: ns, b :: ls, 0, k, v, h => by
    have h : ((.inr a : Key), V.ref b) = (k, v) := by simpa [kvz] using h
    injection h with h1 h2
    exact ⟨a, b, rfl, rfl, h1.symm, h2.symm⟩
  | a :: ns, b :: ls, i + 1, k, v, h => by
    have h : (kvz ns ls)[i]? = some (k, v) := by simpa [kvz] using h
    obtain ⟨n, l, h1, h2, h3⟩ := kvz_get h
    exact ⟨n, l, by simpa using h1, by simpa using h2, h3⟩
def PpAt (n : Nat) (H : Hp) (q : Addr) (x : Str × Mx) : Prop := ∃ pz, H q = some (.tup [.str x.1, .ref pz]) ∧ ZoAt n H pz x.2
theorem PpAt.keep {n : Nat} : ∀ (H H' : Hp) (q : Addr) (x : Str × Mx), Same H H' → PpAt n H q x → PpAt n H' q x := fun _ _ _ _ s ⟨pz, a, b⟩ => ⟨pz, s _ _ a, ZoAt.keep _ _ _ _ s b⟩
theorem ZAt.rem {H : Hp} {U : Addr → Prop} {p : Addr} {as : List Addr} {n : Nat} {M : Mx} (z : ZAt H p as n M) (h1 : ¬ U p) (h2 : ∀ a ∈ as, ¬ U a) : ZAt (remU U H) p as n M := ⟨rem_at h1 z.top, z.len, fun i a h => rem_at (h2 a (List.mem_of_getElem? h)) (z.row i a h), z.nd⟩
/-- a dict of lists of zones, by the rooms' names -/
def ZdAt (n : Nat) (H : Hp) (pd : Addr) (names : List Str) (zs : Str → List Mx) : Prop := ∃ ls, names.length = ls.length ∧ Rd H pd (.dK (kvz names ls)) ∧ ∀ (i : Nat) (nm : Str) (l : Addr), names[i]? = some nm → ls[i]? = some l → SeqOf (ZoAt n) H l (zs nm)
theorem ZdAt.keep {n : Nat} {H H' : Hp} {pd : Addr} {names : List Str} {zs : Str → List Mx} (s : Same H H') (h : ZdAt n H pd names zs) : ZdAt n H' pd names zs := by
  obtain ⟨ls, a, b, c⟩ := h
  exact ⟨ls, a, b.elim (fun e => .inl (s _ _ e)) (fun ⟨o, e⟩ => .inr ⟨o, s _ _ e⟩), fun i nm l h1 h2 => SeqOf.keep (fun _ _ => ZoAt.keep _ _ _ _ s) s (c i nm l h1 h2)⟩
theorem take_snocP {α : Type} {xs : List α} {i : Nat} {x : α} (h : xs[i]? = some x) : xs.take (i + 1) = xs.take i ++ [x] := by rw [List.take_add_one, h]; rfl
theorem putsM_sz {s : Nat} : ∀ (ps : List Nat) (N : Mx), SzM s N → SzM s (putsM N ps)
  | [], _, h => h
  | p :: ps, N, h => putsM_sz ps (putM p N) (put_sz h)
theorem thruO_sz {M : MachD} {N X : Mx} {d : DoorD} {s : Nat} (w7 : M.watches.length ≤ 7) (hs : 300 ≤ s) (gk : guardOk WORDS M.watches d.looks = true) (sz : SzL d.looks) (h : SzM s N) (e : thruO M N d = some X) : SzM (s + 1024) X := by
  unfold thruO at e
  obtain ⟨Y, hY, rfl⟩ := Option.map_eq_some_iff.mp e
  rw [(nrwO_some hY).1]
  exact putsM_sz _ _ (nrw_szf (by unfold dimM; omega) (by omega) (look_sz _ _ h (by omega) fun l hl => (lks_ok gk sz l hl).2))
/-- a zone or None -/
def OzAt (n : Nat) (H : Hp) (v : V) (X : Option Mx) : Prop := (X = none ∧ v = .non) ∨ ∃ p as N, X = some N ∧ v = .ref p ∧ ZAt H p as n N
theorem OzAt.keep {n : Nat} {H H' : Hp} {v : V} {X : Option Mx} (s : Same H H') (h : OzAt n H v X) : OzAt n H' v X := by
  rcases h with h | ⟨p, as, N, h1, h2, h3⟩
  · exact .inl h
  · exact .inr ⟨p, as, N, h1, h2, h3.keep s⟩
theorem not_take {xs : List Str} {i : Nat} {x : Str} (nd : xs.Nodup) (h : xs[i]? = some x) : x ∉ xs.take i := fun hm => by
  have := nd.sublist (List.take_sublist (i + 1) xs)
  rw [take_snocP h, List.nodup_append] at this
  exact this.2.2 x hm x (by simp) rfl
theorem zonesP_snoc (n : Nat) {ps : List (Str × Mx)} {i : Nat} {x : Str × Mx} (h : ps[i]? = some x) (r : Str) : zonesP n (ps.take (i + 1)) r = zonesP n (ps.take i) r ++ (if x.1 = r then (nrwO n x.2).toList else []) := by
  unfold zonesP
  rw [take_snocP h, List.filterMap_append]
  congr 1
  by_cases c : x.1 = r
  · rw [if_pos c]
    cases hn : nrwO n x.2 <;> simp [c, hn]
  · rw [if_neg c]; simp [c]
theorem one_szP {s : Nat} (h : 1 ≤ s) : SzM s oneM := fun i j v e => by
  have e : some (1 : Int) = some v := e
  cases e
  exact (show Sz 1 1 by unfold Sz; decide).mono h
theorem ZoAt.lists {n : Nat} {H H' : Hp} {q : Addr} {Z : Mx} (k : ∀ b xs, H b = some (.lst xs) → H' b = some (.lst xs)) (h : ZoAt n H q Z) : ZoAt n H' q Z := by
  obtain ⟨as, z⟩ := h
  exact ⟨as, k _ _ z.top, z.len, fun i a e => k _ _ (z.row i a e), z.nd⟩
theorem ev_szD : SzM 200 evM := fun i j v e => by
  unfold evM at e
  split at e
  · cases e; exact (show Sz 1 1 by unfold Sz; decide).mono (by decide)
  · cases e
instance {n : Nat} : Kp2 (ZoAt n) := ⟨ZoAt.keep⟩
instance {n : Nat} : Kp2 (PpAt n) := ⟨PpAt.keep⟩
instance {ws : List Str} : Kp2 (PlAt ws) := ⟨fun _ _ _ _ s ⟨k, h1, h2⟩ => ⟨k, h1, s _ _ h2⟩⟩
theorem RqAt.kpq {H H' : Hp} {q : Addr} {r : Rq} (s : Same H H') (h : RqAt H q r) : RqAt H' q r := h.keep s
theorem ZoAt.kpq {n : Nat} {H H' : Hp} {q : Addr} {Z : Mx} (s : Same H H') (h : ZoAt n H q Z) : ZoAt n H' q Z := ZoAt.keep _ _ _ _ s h
theorem OzAt.kp {n : Nat} {H H' : Hp} {v : V} {X : Option Mx} (s : Same H H') (h : OzAt n H v X) : OzAt n H' v X := h.keep s
theorem LkAt.kp {H H' : Hp} {p : Addr} {ls : List Look} (s : Same H H') (h : LkAt H p ls) : LkAt H' p ls := h.keep s
local macro_rules | `(tactic| walk_at "hp") => `(tactic| first | (refine ZW.OzAt.kp (by assumption) ?_; walk_at "hp") | (refine ZW.ZoAt.kpq (by assumption) ?_; walk_at "hp") | (refine ZW.RqAt.kpq (by assumption) ?_; walk_at "hp") | (refine ZW.DoorAt.keep (by assumption) ?_; walk_at "hp") | (refine ZW.LkAt.kp (by assumption) ?_; walk_at "hp"))
def spCovered (K : PySem.W.Frag) : Sp := fun vs H Q _ => ∃ (pz : Addr) (v : V) (n : Nat) (Zs : List Mx), vs = [.ref pz, v] ∧ SeqOf (ZoAt n) H pz Zs ∧ n ≤ 60 ∧ Zs.length ≤ 800 ∧ ∃ X, OzAt n H v X ∧ ∀ (r : Bool) (H' : Hp), Same H H' → (r = true ↔ CovP n Zs X) → Q (.bl r) H'
theorem ok_covered (T : Top K mg) : FnOk P w K mg base CX0 3 T.f_covered T.d_covered ["zones", "zone"] (spCovered K) := by
  refine T.F_covered.ok sc_covered (fun vs H Q E h => ?_) (fun cdv A outer s H vs Q E hr h => ?_)
  · obtain ⟨pz, v, n, Zs, rfl, _⟩ := h; rfl
  · obtain ⟨pz, v, n, Zs, rfl, ⟨qs, z1, z2, z3⟩, hn, hl, X, hX, q⟩ := h
    refine ⟨_, (pss_one (ps_ret (pe_or (pe_cmpR op_isN (pv 1) pe_non (nomark _)) (pe_one (pe_callB (cr_any rfl) (by rfl) T.m_any (by decide +kernel) (pa_cons (lc_vs (vs := [2]) (pe_lc (own := [("other", 2)]) (g := gName 2) (tt := tYes) rfl sc_covered.nd (pi_listA (K := K) rfl (pv 0)) (blkOk_by (own := [("other", 2)]) (N := ["zones", "zone", "other"]) (sc := defScope s_covered) (by decide +kernel)) (fun _ _ _ _ _ => (pg_name (i := 2) sc_covered.nd rfl (.inl rfl))) (fun _ _ _ _ _ => pts_nil) (fun _ _ _ _ _ => (pe_call (ok_within T) (hr.mono (by decide)) rfl T.g_within T.F_within.kp T.b_within .nil pass0 (pa_cons (pv 1) (pa_cons (pv 2) pa_nil))))) rfl) pa_nil)))))), ?_⟩
    rcases hX with ⟨rfl, rfl⟩ | ⟨p, as, N, rfl, rfl, zN⟩
    · walk_at "rd"
      exact q true H (Same.refl _) ⟨fun _ Y h => by (cases h), fun _ => rfl⟩
    · walk_at "rd"
      refine lcg_src ?_
      walk_at "rd"
      refine ⟨⟨_, .of z1⟩, ?_⟩
      refine lcF (F := fun Z : Mx => V.bl (leB n N Z)) (zs := Zs) z1 (by simp [z2]) (by simp; omega) (fun i x Z H1 Yes hx hz s1 hy => ?_) (fun c1 H1 s1 f1 e1 => ?_)
      · rw [List.getElem?_map] at hx
        obtain ⟨qi, h1, rfl⟩ := Option.map_eq_some_iff.mp hx
        obtain ⟨bs, zi⟩ := z3 i qi Z h1 hz
        walk_at "rd"
        refine ⟨p, qi, as, bs, n, N, Z, rfl, zN.keep s1, zi.keep s1, hn, fun r H2 s2 hr2 => ?_⟩
        have : r = leB n N Z := by rw [Bool.eq_iff_iff, leB_iff]; exact hr2
        rw [this]
        exact hy H2 s2
      · refine ⟨c1, Zs.map fun Z => leB n N Z, rfl, .of (e1.trans (by rw [List.map_map]; rfl)), ?_⟩
        refine q _ H1 s1 ?_
        rw [List.any_eq_true]
        constructor
        · rintro ⟨b, hb, e⟩ Y hY
          obtain ⟨Z, hZ, rfl⟩ := List.mem_map.mp hb
          cases hY
          exact ⟨Z, hZ, leB_iff.mp e⟩
        · intro h
          obtain ⟨Z, hZ, l⟩ := h N rfl
          exact ⟨_, List.mem_map_of_mem hZ, leB_iff.mpr l⟩
def spInStay (K : PySem.W.Frag) (CM CD : Addr) : Sp := fun vs H Q _ => ∃ (pm pz : Addr) (az : List Addr) (M : MachD) (r : Rq) (N : Mx), vs = [.ref pm, .str r.1, .ref pz] ∧ MachAt CM CD H pm M ∧ MachOk M ∧ r ∈ M.rooms ∧ SzL r.2 ∧ ZAt H pz az (dimM M) N ∧ SzM 7000 N ∧
  ∀ v H', Same H H' → OzAt (dimM M) H' v (stayO M r.1 N) → Q v H'
theorem ok_in_stay (T : Top K mg) : FnOk P w K mg base CX0 5 T.f_in_stay T.d_in_stay ["machine", "room", "zone"] (spInStay K T.C_Machine T.C_Door) := by
  refine T.F_in_stay.ok sc_in_stay (fun vs H Q E h => ?_) (fun cdv A outer s H vs Q E hr h => ?_)
  · obtain ⟨pm, pz, az, M, r, N, rfl, _⟩ := h; rfl
  · obtain ⟨pm, pz, az, M, r, N, rfl, hm, ok, hr1, szr, zN, sN, q⟩ := h
    refine ⟨_, (pss_one (ps_ret (pe_call (ok_met T) (hr.mono (by decide)) rfl T.g_met T.F_met.kp T.b_met .nil pass0 (pa_cons (pv 2) (pa_cons (pe_call (ok_placed T) (hr.mono (by decide)) rfl T.g_placed T.F_placed.kp T.b_placed .nil passL (pa_cons (pv 0) (pa_cons (pe_meth (pv 0) T.cl_Machine T.m_Machine_stay (ok_Machine_stay T) (hr.mono (by decide)) T.b_Machine_stay .nil pass0 (pa_cons (pv 1) pa_nil)) pa_nil))) pa_nil))))), ?_⟩
    obtain ⟨dx, wn, rn, sl, dl, a, _⟩ := id hm
    have gk : guardOk WORDS M.watches r.2 = true := by
      have := List.all_eq_true.mp ok.rok r hr1
      unfold roomOk at this
      exact guard_words (Bool.and_eq_true_iff.mp this).2
    have r60 := ok.rsz r hr1
    have w7 := ok.w7
    unfold stayO at q
    rw [stayOf_at ok.rnd hr1] at q
    walk_at "rd"
    refine ⟨_, rfl, pm, dx, _, rfl, a, mach_no (by decide +kernel) (by decide +kernel) (by decide +kernel) (by decide +kernel), ?_⟩
    walk_at "rd"
    refine ⟨pm, M, r, rfl, hm, hr1, ok.rnd, fun gq H1 s1 f1 e1 => ?_⟩
    refine .inl ⟨pm, gq, M, r.2, rfl, hm.keep s1, e1, r60, .inl ⟨gk, fun pg H2 s2 f2 e2 => ?_⟩⟩
    have s12 := s1.trans s2
    refine ⟨pz, pg, az, dimM M, N, lks M.watches r.2, rfl, zN.keep s12, lk_of e2 gk, by unfold lks; rw [List.length_map]; exact r60, lks_ok gk szr, by unfold dimM; omega, by unfold dimM; omega, sN, fun h H3 s3 => ?_, fun h p as H3 s3 z3 => ?_⟩
    · refine q .non H3 (s12.trans s3) (.inl ⟨nrwO_no fun c => ?_, rfl⟩)
      obtain ⟨i, d, hi, hd, d1⟩ := h
      obtain ⟨d', hd', d2⟩ := pos_get hi (c i hi)
      rw [hd] at hd'; cases hd'; omega
    · refine q (.ref p) H3 (s12.trans s3) (.inr ⟨p, as, _, nrwO_pos fun i hi => ?_, rfl, z3⟩)
      obtain ⟨d, hd, d1⟩ := h i hi
      unfold Pos; rw [hd]; exact d1
def spThruS (K : PySem.W.Frag) (CM CD : Addr) : Sp := fun vs H Q _ => ∃ (pm pz pd : Addr) (az : List Addr) (M : MachD) (d : DoorD) (N : Mx), vs = [.ref pm, .ref pz, .ref pd] ∧ MachAt CM CD H pm M ∧ MachOk M ∧ DoorAt CD H pd d ∧ d ∈ M.doors ∧ SzL d.looks ∧ ZAt H pz az (dimM M) N ∧ SzM 7000 N ∧
  ∀ v H', Same H H' → OzAt (dimM M) H' v (thruO M N d) → Q v H'
theorem ok_through_search (T : Top K mg) : FnOk P w K mg base CX0 5 T.f_through_search T.d_through_search ["machine", "zone", "door"] (spThruS K T.C_Machine T.C_Door) := by
  refine T.F_through_search.ok sc_through_search (fun vs H Q E h => ?_) (fun cdv A outer s H vs Q E hr h => ?_)
  · obtain ⟨pm, pz, pd, az, M, d, N, rfl, _⟩ := h; rfl
  · obtain ⟨pm, pz, pd, az, M, d, N, rfl, hm, ok, hd, hdm, szd, zN, sN, q⟩ := h
    refine ⟨_, (pss_cons (ps_set (i := 1) sc_through_search.nd rfl (.inl rfl) (pe_call (ok_met T) (hr.mono (by decide)) rfl T.g_met T.F_met.kp T.b_met .nil pass0 (pa_cons (pv 1) (pa_cons (pe_call (ok_placed T) (hr.mono (by decide)) rfl T.g_placed T.F_placed.kp T.b_placed .nil passL (pa_cons (pv 0) (pa_cons (pe_meth0 (pv 2) T.cl_Door T.m_Door_asks (ok_Door_asks T) (hr.mono (by decide)) T.b_Door_asks .nil pass0) pa_nil))) pa_nil))))
      (pss_cons (ps_if (pt_cmpR op_isN (pv 1) pe_non (nomark _)) (pss_one (ps_ret pe_non)) pss_nil)
      (pss_one (ps_ret (pe_call (ok_put_back T) (hr.mono (by decide)) rfl T.g_put_back T.F_put_back.kp T.b_put_back .nil pass0 (pa_cons (pv 1) (pa_cons (lc_vs (vs := [3]) (pe_lc (own := [("watch", 3)]) (g := gName 3) (tt := tYes) rfl sc_through_search.nd (pi_listA (K := K) rfl (pe_meth0 (pv 2) T.cl_Door T.m_Door_sets (ok_Door_sets T) (hr.mono (by decide)) T.b_Door_sets .nil pass0)) (blkOk_by (own := [("watch", 3)]) (N := ["machine", "zone", "door", "watch"]) (sc := defScope s_through_search) (by decide +kernel)) (fun _ _ _ _ _ => (pg_name (i := 3) sc_through_search.nd rfl (.inl rfl))) (fun _ _ _ _ _ => pts_nil) (fun _ _ _ _ _ => (pe_meth (pv 0) T.cl_Machine T.m_Machine_watch_number (ok_Machine_watch_number T) (hr.mono (by decide)) T.b_Machine_watch_number .nil pass0 (pa_cons (pv 3) pa_nil)))) rfl) pa_nil))))))), ?_⟩
    obtain ⟨dx, wn, rn, sl, dl, a, _⟩ := id hm
    obtain ⟨ddx, dg, dn, da, _⟩ := id hd
    have dk := ok.door hdm
    have gk : guardOk WORDS M.watches d.looks = true := dk.2.2.2.1
    have d60 := ok.dsz d hdm
    have w7 := ok.w7
    have dno : ∀ {m : Str}, ¬ m = "start" → ¬ m = "end" → ¬ m = "sign" → ¬ m = "looks" → ¬ m = "backs" → (doorF d.st d.en d.sg dg dn).lookup m = none := fun h1 h2 h3 h4 h5 => door_no h1 h2 h3 h4 h5
    refine seq_step ?_
    walk_at "rd"
    refine ⟨_, rfl, pd, ddx, _, rfl, da, dno (by decide +kernel) (by decide +kernel) (by decide +kernel) (by decide +kernel) (by decide +kernel), pd, d, rfl, hd, fun gq H1 s1 f1 e1 => ?_⟩
    refine .inl ⟨pm, gq, M, d.looks, rfl, hm.keep s1, e1, d60, .inl ⟨gk, fun pg H2 s2 f2 e2 => ?_⟩⟩
    have s12 := s1.trans s2
    refine ⟨pz, pg, az, dimM M, N, lks M.watches d.looks, rfl, zN.keep s12, lk_of e2 gk, by unfold lks; rw [List.length_map]; exact d60, lks_ok gk szd, by unfold dimM; omega, by unfold dimM; omega, sN, fun h H3 s3 => ?_, fun h p as H3 s3 z3 => ?_⟩
    · walk_at "rd"
      refine seq_step ?_
      walk_at "rd"
      refine q .non H3 (s12.trans s3) (.inl ⟨?_, rfl⟩)
      unfold thruO metO
      rw [nrwO_no fun c => ?_]; rfl
      obtain ⟨i, d, hi, hd, d1⟩ := h
      obtain ⟨d', hd', d2⟩ := pos_get hi (c i hi)
      rw [hd] at hd'; cases hd'; omega
    · have e : thruO M N d = some (putsM (nrw (dimM M) (lookM N (lks M.watches d.looks))) (backsN M d)) := by
        unfold thruO metO
        rw [nrwO_pos fun i hi => ?_]; rfl
        obtain ⟨d, hd, d1⟩ := h i hi
        unfold Pos; rw [hd]; exact d1
      walk_at "rd"
      refine seq_step ?_
      walk_at "rd"
      have s13 := s12.trans s3
      refine lcg_src ?_
      walk_at "rd"
      refine ⟨_, rfl, pd, ddx, _, rfl, s13 _ _ da, dno (by decide +kernel) (by decide +kernel) (by decide +kernel) (by decide +kernel) (by decide +kernel), pd, d, rfl, hd.keep s13, fun bq H4 s4 f4 e4 => ?_⟩
      have s14 := s13.trans s4
      have b7 := dk.2.2.2.2.2.2
      refine ⟨bq, rfl, ⟨_, .of e4⟩, ?_⟩
      refine lcF (F := fun x : Str => V.int ((M.watches.idxOf x + 1 : Nat) : Int)) (zs := d.backs) e4 (by simp) (by simp; omega) (fun i x z H5 Yes hx hz s5 hy => ?_) (fun c5 H5 s5 f5 e5 => ?_)
      · rw [List.getElem?_map, hz] at hx
        obtain rfl : x = .str z := by simpa using hx.symm
        walk_at "rd"
        refine ⟨_, rfl, pm, dx, _, rfl, (s14.trans s5) _ _ a, mach_no (by decide +kernel) (by decide +kernel) (by decide +kernel) (by decide +kernel), ?_⟩
        walk_at "rd"
        exact ⟨pm, M, z, rfl, hm.keep (s14.trans s5), dk.2.2.2.2.1 z (List.mem_of_getElem? hz), hy _ (Same.refl _)⟩
      · refine ⟨p, c5, as, dimM M, _, backsN M d, rfl, z3.keep (s4.trans s5), ?_, by unfold backsN; rw [List.length_map]; omega, fun k hk => ?_, by unfold dimM; omega, by unfold dimM; omega, fun p' as' H6 s6 f6 _ z6 => q (.ref p') H6 (s14.trans (s5.trans s6)) (.inr ⟨p', as', _, e, rfl, z6⟩)⟩
        · rw [e5]; unfold backsN; rw [List.map_map]; rfl
        · obtain ⟨x, hx, rfl⟩ := List.mem_map.mp hk
          have := List.idxOf_lt_length_iff.mpr (dk.2.2.2.2.1 x hx)
          unfold dimM; omega
def spHit (K : PySem.W.Frag) (CM CD : Addr) : Sp := fun vs H Q _ => ∃ (pm pg pz : Addr) (az : List Addr) (M : MachD) (gs : List Rq) (r : Str) (N : Mx), vs = [.ref pm, .ref pg, .str r, .ref pz] ∧ MachAt CM CD H pm M ∧ MachOk M ∧ RsAt H pg gs ∧ gs.all (markOk M) = true ∧ (∀ g ∈ gs, g.2.length ≤ 60 ∧ SzL g.2) ∧ ZAt H pz az (dimM M) N ∧ SzM 7000 N ∧
  (¬ HitP M gs r N → ∀ H', Same H H' → Q .non H') ∧ (HitP M gs r N → ∀ g H', Same H H' → Q (.ref g) H')
theorem ok_hit_by (T : Top K mg) : FnOk P w K mg base CX0 5 T.f_hit_by T.d_hit_by ["machine", "goal", "room", "zone"] (spHit K T.C_Machine T.C_Door) := by
  refine T.F_hit_by.ok sc_hit_by (fun vs H Q E h => ?_) (fun cdv A outer s H vs Q E hr h => ?_)
  · obtain ⟨pm, pg, pz, az, M, gs, r, N, rfl, _⟩ := h; rfl
  · obtain ⟨pm, pg, pz, az, M, gs, r, N, rfl, hm, ok, hg, gok, gsz, zN, sN, q1, q2⟩ := h
    refine ⟨_, (pss_cons (ps_for PassesOwn.never rfl (pi_listA (K := K) rfl (pv 1)) (pg_tupA (K := K) (n := 2) rfl (by rfl) (pgs_cons (pg_name (i := 4) sc_hit_by.nd rfl (.inl rfl)) (pgs_cons (pg_name (i := 5) sc_hit_by.nd rfl (.inl rfl)) pgs_nil))) (pss_one (ps_if (PW.pt (pw_and (pt_cmpR op_eq (pv 4) (pv 2) (nomark _)) (pw_and1 (pt_cmpR op_notN (pe_call (ok_met T) (hr.mono (by decide)) rfl T.g_met T.F_met.kp T.b_met .nil pass0 (pa_cons (pv 3) (pa_cons (pe_call (ok_placed T) (hr.mono (by decide)) rfl T.g_placed T.F_placed.kp T.b_placed .nil passL (pa_cons (pv 0) (pa_cons (pv 5) pa_nil))) pa_nil))) pe_non (nomark _))))) (pss_one (ps_ret (pv 5))) pss_nil)))
      (pss_one (ps_ret pe_non))), ?_⟩
    obtain ⟨qs, g1, g2, g3⟩ := id hg
    have w7 := ok.w7
    refine seq_step ?_
    refine for_li ?_
    walk_at "rd"
    obtain ⟨Iv, hIv⟩ : ∃ Iv : Nat → L2.St → Hp → Prop, ∀ i σ' H', Iv i σ' H' ↔ (∃ v4 v5, σ' = [some (.ref pm), some (.ref pg), some (.str r), some (.ref pz), v4, v5] ∧ Same H H' ∧ ∀ g ∈ gs.take i, ¬ (g.1 = r ∧ metO (dimM M) N (lks M.watches g.2) ≠ none)) := ⟨_, fun _ _ _ => Iff.rfl⟩
    refine forL_by (xs := qs.map V.ref) Iv ((hIv _ _ _).mpr ⟨_, _, rfl, Same.refl _, fun g h => by simp at h⟩) (fun i σ H' _ h => (fun (⟨_, _, _, k, _⟩ : ∃ _ _, _ ∧ Same _ _ ∧ _) => .of (k _ _ g1)) ((hIv _ _ _).mp h)) ?_ ?_
    · rintro i x σ' H1 hi hinv
      obtain ⟨v4, v5, rfl, s1, no⟩ := (hIv _ _ _).mp hinv
      rw [List.getElem?_map] at hi
      obtain ⟨qi, h1, rfl⟩ := Option.map_eq_some_iff.mp hi
      have hil := (List.getElem?_eq_some_iff.mp h1).1
      obtain ⟨z, hz⟩ : ∃ z, gs[i]? = some z := ⟨_, List.getElem?_eq_getElem (by omega)⟩
      have hzm := List.mem_of_getElem? hz
      obtain ⟨g, ez, hgz⟩ := (g3 i qi z h1 hz).keep s1
      have mk := List.all_eq_true.mp gok z hzm
      unfold markOk at mk
      have gk := (Bool.and_eq_true_iff.mp mk).2
      have zsz := gsz z hzm
      have next : ∀ (H2 : Hp), Same H1 H2 → ¬ (z.1 = r ∧ metO (dimM M) N (lks M.watches z.2) ≠ none) → Iv (i + 1) [some (.ref pm), some (.ref pg), some (.str r), some (.ref pz), some (.str z.1), some (.ref g)] H2 := fun H2 s2 h => (hIv _ _ _).mpr ⟨_, _, rfl, s1.trans s2, fun g' hg' => by
        rw [take_snocP hz] at hg'
        rcases List.mem_append.mp hg' with k | k
        · exact no g' k
        · rw [show g' = z by simpa using k]; exact h⟩
      refine gTup_of (sqt ez) rfl ?_
      walk_at "rd"
      by_cases c : z.1 = r
      rotate_left
      · refine if_f (decide_eq_false fun h => c (by injection h)) (next _ (Same.refl _) fun h => c h.1)
      refine if_t (decide_eq_true (by rw [c])) ?_
      refine .inl ⟨pm, g, M, z.2, rfl, hm.keep s1, hgz, zsz.1, .inl ⟨gk, fun lg H2 s2 f2 e2 => ?_⟩⟩
      have s12 := s1.trans s2
      refine ⟨pz, lg, az, dimM M, N, lks M.watches z.2, rfl, zN.keep s12, lk_of e2 gk, by unfold lks; rw [List.length_map]; exact zsz.1, lks_ok gk zsz.2, by unfold dimM; omega, by unfold dimM; omega, sN, fun h H3 s3 => ?_, fun h p as H3 s3 z3 => ?_⟩
      · walk_at "rd"
        refine next H3 (s2.trans s3) fun k => k.2 (nrwO_no fun c => ?_)
        obtain ⟨i, d, hi, hd, d1⟩ := h
        obtain ⟨d', hd', d2⟩ := pos_get hi (c i hi)
        rw [hd] at hd'; cases hd'; omega
      · walk_at "rd"
        refine q2 ⟨z, hzm, c, ?_⟩ g H3 (s12.trans s3)
        unfold metO
        rw [nrwO_pos fun i hi => ?_]
        · intro h; cases h
        · obtain ⟨d, hd, d1⟩ := h i hi
          unfold Pos; rw [hd]; exact d1
    · rintro σ' H1 hinv
      obtain ⟨v4, v5, rfl, s1, no⟩ := (hIv _ _ _).mp hinv
      rw [List.length_map, g2, List.take_length] at no
      walk_at "rd"
      exact q1 (fun ⟨g, hg, h⟩ => no g hg h) H1 s1
def spClosed (K : PySem.W.Frag) (CM CD : Addr) : Sp := fun vs H Q _ => ∃ (pm pd pz : Addr) (az : List Addr) (M : MachD) (zs : Str → List Mx) (r : Rq) (N : Mx), vs = [.ref pm, .ref pd, .str r.1, .ref pz] ∧ MachAt CM CD H pm M ∧ MachOk M ∧ MSz M ∧ r ∈ M.rooms ∧ ZdAt (dimM M) H pd (M.rooms.map (·.1)) zs ∧ (∀ x, (zs x).length ≤ 800) ∧ ZAt H pz az (dimM M) N ∧ SzM 5000 N ∧
  ∀ (b : Bool) (H' : Hp), Same H H' → (b = true ↔ ClosedP M zs r.1 N) → Q (.bl b) H'
theorem ok_is_closed (T : Top K mg) : FnOk P w K mg base CX0 6 T.f_is_closed T.d_is_closed ["machine", "zones", "room", "zone"] (spClosed K T.C_Machine T.C_Door) := by
  refine T.F_is_closed.ok sc_is_closed (fun vs H Q E h => ?_) (fun cdv A outer s H vs Q E hr h => ?_)
  · obtain ⟨pm, pd, pz, az, M, zs, r, N, rfl, _⟩ := h; rfl
  · obtain ⟨pm, pd, pz, az, M, zs, r, N, rfl, hm, ok, msz, hr1, hz, zl, zN, sN, q⟩ := h
    refine ⟨_, (pss_cons (ps_if (pt_not (pt_val (pe_call (ok_covered T) (hr.mono (by decide)) rfl T.g_covered T.F_covered.kp T.b_covered .nil pass0 (pa_cons (pe_dget (hu_of hr) (pv 1) (pv 2) (fun _ _ => rfl)) (pa_cons (pe_call (ok_in_stay T) (hr.mono (by decide)) rfl T.g_in_stay T.F_in_stay.kp T.b_in_stay .nil pass0 (pa_cons (pv 0) (pa_cons (pv 2) (pa_cons (pe_call (ok_waited T) (hr.mono (by decide)) rfl T.g_waited T.F_waited.kp T.b_waited .nil pass0 (pa_cons (pv 3) pa_nil)) pa_nil)))) pa_nil))))) (pss_one (ps_ret pe_bl)) pss_nil)
      (pss_cons (ps_for PassesOwn.never rfl (pi_listA (K := K) rfl (pe_meth0 (pv 0) T.cl_Machine T.m_Machine_doors (ok_Machine_doors T) (hr.mono (by decide)) T.b_Machine_doors .nil pass0)) (pg_name (i := 4) sc_is_closed.nd rfl (.inl rfl)) (pss_one (ps_if (PW.pt (pw_and (pt_cmpR op_eq (pe_fldA (K := K) rfl (pv 4) rfl) (pv 2) (nomark _)) (pw_and1 (pt_cmpR op_eq (pe_fldA (K := K) rfl (pv 4) rfl) pe_str (nomark _))))) (pss_cons (ps_set (i := 5) sc_is_closed.nd rfl (.inl rfl) (pe_call (ok_through_search T) (hr.mono (by decide)) rfl T.g_through_search T.F_through_search.kp T.b_through_search .nil pass0 (pa_cons (pv 0) (pa_cons (pv 3) (pa_cons (pv 4) pa_nil)))))
      (pss_one (ps_if (PW.pt (pw_and (pt_cmpR op_notN (pv 5) pe_non (nomark _)) (pw_and1 (pt_not (pt_val (pe_call (ok_covered T) (hr.mono (by decide)) rfl T.g_covered T.F_covered.kp T.b_covered .nil pass0 (pa_cons (pe_dget (hu_of hr) (pv 1) (pe_fldA (K := K) rfl (pv 4) rfl) (fun _ _ => rfl)) (pa_cons (pe_call (ok_in_stay T) (hr.mono (by decide)) rfl T.g_in_stay T.F_in_stay.kp T.b_in_stay .nil pass0 (pa_cons (pv 0) (pa_cons (pe_fldA (K := K) rfl (pv 4) rfl) (pa_cons (pv 5) pa_nil)))) pa_nil)))))))) (pss_one (ps_ret pe_bl)) pss_nil))) pss_nil)))
      (pss_one (ps_ret pe_bl)))), ?_⟩
    obtain ⟨dx, wn, rn, sl, dl, a, _⟩ := id hm
    have w7 := ok.w7
    have n8 : dimM M ≤ 8 := by unfold dimM; omega
    have n1 : 1 ≤ dimM M := by unfold dimM; omega
    have sN7 : SzM 7000 N := sN.mono (by omega)
    -- what is covered of a room's stay
    have look : ∀ {H1 : Hp} {x : Str}, Same H H1 → x ∈ M.rooms.map (·.1) → ∃ l, DGet H1 pd (.str x) (some (.ref l)) ∧ SeqOf (ZoAt (dimM M)) H1 l (zs x) := fun {H1 x} s1 h1 => by
      obtain ⟨ls, x1, x2, x3⟩ := hz.keep s1
      obtain ⟨i, hi, e⟩ := List.mem_iff_getElem.mp h1
      have h2 := List.getElem?_eq_getElem hi
      rw [e] at h2
      have h3 := List.getElem?_eq_getElem (l := ls) (i := i) (by omega)
      exact ⟨_, .inl ⟨_, .inr x, x2, rfl, (kvz_at ok.rnd h2 h3).symm⟩, x3 i _ _ h2 h3⟩
    refine seq_step ?_
    walk_at "rd"
    have wsz : SzM 7000 (waitM N) := wait_sz sN7
    obtain ⟨l, hl0, hl⟩ := look (Same.refl _) (List.mem_map_of_mem hr1)
    refine ⟨_, hl0, ?_⟩
    refine ⟨pz, az, dimM M, N, rfl, zN, n1, n8, fun wz wa H1 s1 f1 _ z1 => ?_⟩
    have s1' := s1
    refine ⟨pm, wz, wa, M, r, waitM N, rfl, hm.keep s1, ok, hr1, msz.1 r hr1, z1, wsz, fun v H2 s2 hX => ?_⟩
    have s12 := s1.trans s2
    refine ⟨l, v, dimM M, zs r.1, rfl, SeqOf.keep (fun _ _ => ZoAt.keep _ _ _ _ s12) s12 hl, by omega, zl _, _, hX, fun b1 H3 s3 hb1 => ?_⟩
    have s13 := s12.trans s3
    refine ⟨_, rfl, ?_⟩
    cases b1 with
    | false =>
      refine if_t rfl (q false H3 s13 ⟨fun h => (by cases h), fun h => ?_⟩)
      have := hb1.mpr h.1
      cases this
    | true =>
      refine if_f rfl ?_
      have cov1 := hb1.mp rfl
      refine seq_step ?_
      refine for_li ?_
      walk_at "rd"
      refine ⟨_, rfl, pm, dx, _, rfl, s13 _ _ a, mach_no (by decide +kernel) (by decide +kernel) (by decide +kernel) (by decide +kernel), pm, M, rfl, hm.keep s13, fun dq H4 dqs s4 f4 e4 l4 d4 => ?_⟩
      have d4 := d4 H s13 hm
      have s14 := s13.trans s4
      have d200 := ok.d200
      obtain ⟨Iv, hIv⟩ : ∃ Iv : Nat → L2.St → Hp → Prop, ∀ i σ' H', Iv i σ' H' ↔ (∃ v4 v5, σ' = [some (.ref pm), some (.ref pd), some (.str r.1), some (.ref pz), v4, v5] ∧ Same H4 H' ∧ ∀ d ∈ M.doors.take i, d.st = r.1 → d.sg = "" → ∀ X, thruO M N d = some X → CovP (dimM M) (zs d.en) (stayO M d.en X)) := ⟨_, fun _ _ _ => Iff.rfl⟩
      refine ⟨dq, rfl, forL_by (xs := dqs.map V.ref) Iv ((hIv _ _ _).mpr ⟨_, _, rfl, Same.refl _, fun d h => by simp at h⟩) (fun i σ H' _ h => (fun (⟨_, _, _, k, _⟩ : ∃ _ _, _ ∧ Same _ _ ∧ _) => .of (k _ _ e4)) ((hIv _ _ _).mp h)) ?_ ?_⟩
      · rintro i x σ' H5 hi hinv
        obtain ⟨v4, v5, rfl, s5, cl⟩ := (hIv _ _ _).mp hinv
        rw [List.getElem?_map] at hi
        obtain ⟨qd, h1, rfl⟩ := Option.map_eq_some_iff.mp hi
        have hil := (List.getElem?_eq_some_iff.mp h1).1
        obtain ⟨d, hd⟩ : ∃ d, M.doors[i]? = some d := ⟨_, List.getElem?_eq_getElem (by omega)⟩
        have hdm := List.mem_of_getElem? hd
        have s15 := s14.trans s5
        have dd := (d4 i qd d h1 hd).keep s15
        obtain ⟨ddx, dg, dn, da, _⟩ := id dd
        have next : ∀ (v5 : Option V) (H6 : Hp), Same H5 H6 → (d.st = r.1 → d.sg = "" → ∀ X, thruO M N d = some X → CovP (dimM M) (zs d.en) (stayO M d.en X)) → Iv (i + 1) [some (.ref pm), some (.ref pd), some (.str r.1), some (.ref pz), some (.ref qd), v5] H6 := fun v5 H6 s6 h => (hIv _ _ _).mpr ⟨_, _, rfl, s5.trans s6, fun d' hd' => by
          rw [take_snocP hd] at hd'
          rcases List.mem_append.mp hd' with k | k
          · exact cl d' k
          · rw [show d' = d by simpa using k]; exact h⟩
        have gk : guardOk WORDS M.watches d.looks = true := (ok.door hdm).2.2.2.1
        walk_at "rd"
        refine ⟨_, rfl, qd, _, ddx, _, _, rfl, da, T.cl_Door, T.n_Door_start, door_start, ?_⟩
        refine ⟨rfl, ?_⟩
        by_cases c1 : d.st = r.1
        rotate_left
        · refine if_f (decide_eq_false fun h => c1 (by injection h)) (next _ _ (Same.refl _) fun h => absurd h c1)
        refine if_t (decide_eq_true (by rw [c1])) ?_
        refine ⟨_, rfl, qd, _, ddx, _, _, rfl, da, T.cl_Door, T.n_Door_sign, door_sign, ?_⟩
        refine ⟨rfl, ?_⟩
        by_cases c2 : d.sg = ""
        rotate_left
        · refine if_f (decide_eq_false fun h => c2 (by injection h)) (next _ _ (Same.refl _) fun _ h => absurd h c2)
        refine if_t (decide_eq_true (by rw [c2])) ?_
        refine seq_step ?_
        walk_at "rd"
        refine ⟨pm, pz, qd, az, M, d, N, rfl, hm.keep s15, ok, dd, hdm, msz.2 d hdm, zN.keep s15, sN7, fun v H6 s6 hX => ?_⟩
        have s16 := s15.trans s6
        walk_at "rd"
        rcases hX with ⟨hX, rfl⟩ | ⟨p, as, X, hX, rfl, zX⟩
        · walk_at "rd"
          exact next _ _ s6 fun _ _ Y hY => by rw [hX] at hY; cases hY
        · walk_at "rd"
          have sX := thruO_sz w7 (by decide) gk (msz.2 d hdm) sN hX
          obtain ⟨l2, hl20, hl2⟩ := look s16 (ok.door hdm).2.2.1
          obtain ⟨r2, hr2, er2⟩ := List.mem_map.mp (ok.door hdm).2.2.1
          refine ⟨_, rfl, qd, _, ddx, _, _, rfl, s6 _ _ da, T.cl_Door, T.n_Door_end, door_end, ?_⟩
          refine ⟨_, hl20, ?_⟩
          refine ⟨_, rfl, qd, _, ddx, _, _, rfl, s6 _ _ da, T.cl_Door, T.n_Door_end, door_end, ?_⟩
          refine ⟨pm, p, as, M, r2, X, by rw [er2], hm.keep s16, ok, hr2, msz.1 r2 hr2, zX, sX.mono (by omega), fun v H7 s7 hY => ?_⟩
          rw [er2] at hY
          refine ⟨l2, v, dimM M, zs d.en, rfl, SeqOf.keep (fun _ _ => ZoAt.keep _ _ _ _ s7) s7 hl2, by omega, zl _, _, hY, fun b2 H8 s8 hb2 => ?_⟩
          refine ⟨_, rfl, ?_⟩
          cases b2 with
          | false =>
            refine if_t rfl (q false H8 (s16.trans (s7.trans s8)) ⟨fun h => (by cases h), fun h => ?_⟩)
            have := hb2.mpr (h.2 d hdm c1 c2 X hX)
            cases this
          | true =>
            refine if_f rfl (next _ _ (s6.trans (s7.trans s8)) fun _ _ Y hY' => ?_)
            rw [hX] at hY'; cases hY'
            exact hb2.mp rfl
      · rintro σ' H5 hinv
        obtain ⟨v4, v5, rfl, s5, cl⟩ := (hIv _ _ _).mp hinv
        rw [List.length_map, l4, List.take_length] at cl
        walk_at "rd"
        exact q true H5 (s14.trans s5) ⟨fun _ => ⟨cov1, cl⟩, fun _ => rfl⟩
def spNarrowZ (K : PySem.W.Frag) (CM CD CR : Addr) : Sp := fun vs H Q E => ∃ (pm pp : Addr) (M : MachD) (ps : List (Str × Mx)), vs = [.ref pm, .ref pp] ∧ MachAt CM CD H pm M ∧ MachOk M ∧ SeqOf (PpAt (dimM M)) H pp ps ∧ ps.length ≤ 800 ∧ (∀ x ∈ ps, SzM 3000 x.2) ∧
  ((∀ x ∈ ps, x.1 ∈ M.rooms.map (·.1)) → ∀ q H', Same H H' → H q = none → ZdAt (dimM M) H' q (M.rooms.map (·.1)) (zonesP (dimM M) ps) → (∃ ls, M.rooms.length = ls.length ∧ H' q = some (.dK (kvz (M.rooms.map (·.1)) ls))) → Q (.ref q) H') ∧
  ((∃ x ∈ ps, x.1 ∉ M.rooms.map (·.1)) → ∀ H', Same H H' → E (.ref CR) none H')
theorem ok_narrow_zones (T : Top K mg) : FnOk P w K mg base (L2.CX P w) 4 T.f_narrow_zones T.d_narrow_zones ["machine", "paper"] (spNarrowZ K T.C_Machine T.C_Door T.C_NoRoom) := by
  refine T.F_narrow_zones.okX sc_narrow_zones (fun vs H Q E h => ?_) (fun cdv A outer s H vs Q E hr h => ?_)
  · obtain ⟨pm, pp, M, ps, rfl, _⟩ := h; rfl
  · obtain ⟨pm, pp, M, ps, rfl, hm, ok, hp, p800, psz, q1, q2⟩ := h
    refine ⟨_, (pss_cons (ps_set (i := 2) sc_narrow_zones.nd rfl (.inl rfl) pe_dnewN)
      (pss_cons (ps_for (passes_of rfl) rfl (pi_listA (K := K) rfl (pe_meth0 (pv 0) T.cl_Machine T.m_Machine_rooms (ok_Machine_rooms T) (hr.mono (by decide)) T.b_Machine_rooms .nil pass0)) (pg_name (i := 3) sc_narrow_zones.nd rfl (.inl rfl)) (pss_one (ps_dput (hu_of hr) (pv 2) (pv 3) (pe_lstN pa_nil) rfl)))
      (pss_cons (ps_for (passes_of rfl) rfl (pi_listA (K := K) rfl (pv 1)) (pg_tupA (K := K) (n := 2) rfl (by rfl) (pgs_cons (pg_name (i := 3) sc_narrow_zones.nd rfl (.inl rfl)) (pgs_cons (pg_name (i := 4) sc_narrow_zones.nd rfl (.inl rfl)) pgs_nil))) (pss_cons (ps_if (pt_cmp (pc_dnotin (hu_of hr) (pv 3) (pv 2))) (pss_one (ps_raise rfl (takes_of rfl rfl rfl rfl) (pmk_own PySem.F.excBase_ValueError T.x_NoRoom T.g_NoRoom T.k_NoRoom (raises_own T.b_NoRoom T.t_NoRoom) rfl))) pss_nil)
      (pss_cons (ps_set (i := 4) sc_narrow_zones.nd rfl (.inl rfl) (pe_call (ok_narrowest T) (hr.mono (by decide)) rfl T.g_narrowest T.F_narrowest.kp T.b_narrowest .nil pass0 (pa_cons (pv 4) pa_nil)))
      (pss_one (ps_if (pt_cmpR op_notN (pv 4) pe_non (nomark _)) (pss_one (ps_expr (pe_bm PySem.F.plainAttrs_list PySem.F.slot_list_append PySem.F.type_list_append mt_append (pe_dget (hu_of hr) (pv 2) (pv 3) (fun _ _ => rfl)) (pa_cons (pv 4) pa_nil)))) pss_nil)))))
      (pss_one (ps_ret (pv 2)))))), ?_⟩
    obtain ⟨dx, wn, rn, sl, dl, a, _⟩ := id hm
    obtain ⟨pqs, p1, p2, p3⟩ := id hp
    have w7 := ok.w7
    have r64 := ok.r64
    have n8 : dimM M ≤ 8 := by unfold dimM; omega
    have cub := cube_le n8
    have rnd := ok.rnd
    have nl : (M.rooms.map (·.1)).length = M.rooms.length := List.length_map _
    generalize hNS : M.rooms.map (·.1) = NS at *
    refine seq_step ?_
    walk_at "rd"
    intro pd H1 s1 f1 e1
    refine seq_step ?_
    refine for_li ?_
    walk_at "rd"
    refine ⟨_, rfl, pm, dx, _, rfl, s1 _ _ a, mach_no (by decide +kernel) (by decide +kernel) (by decide +kernel) (by decide +kernel), pm, M, rfl, hm.keep s1, fun rq H2 s2 f2 e2 => ?_⟩
    rw [hNS] at e2
    have s12 := s1.trans s2
    have e12 := s2 _ _ e1
    have rqd : rq ≠ pd := fun y => by rw [y, e1] at f2; cases f2
    obtain ⟨Iv1, hIv1⟩ : ∃ Iv : Nat → L2.St → Hp → Prop, ∀ i σ' H', Iv i σ' H' ↔ (∃ v3 v4 ls, σ' = [some (.ref pm), some (.ref pp), some (.ref pd), v3, v4] ∧ Same H H' ∧ H' rq = some (.lst (NS.map V.str)) ∧ ls.length = i ∧ H' pd = some (.dK (kvz (NS.take i) ls)) ∧ ls.Nodup ∧ pd ∉ ls ∧ ∀ l ∈ ls, H l = none ∧ H' l = some (.lst [])) := ⟨_, fun _ _ _ => Iff.rfl⟩
    refine ⟨rq, rfl, forL_by (xs := NS.map V.str) Iv1 ((hIv1 _ _ _).mpr ⟨_, _, [], rfl, s12, e2, rfl, e12, List.nodup_nil, by simp, fun l h => by cases h⟩) (fun i σ H' _ h => (fun (⟨_, _, _, _, _, k, _⟩ : ∃ _ _ _, _ ∧ _ ∧ _ ∧ _) => .of k) ((hIv1 _ _ _).mp h)) ?_ ?_⟩
    · rintro i x σ' H3 hi hinv
      obtain ⟨v3, v4, ls, rfl, s3, k3, ll, e3, lnd, lpd, lz⟩ := (hIv1 _ _ _).mp hinv
      rw [List.getElem?_map] at hi
      obtain ⟨nm, h1, rfl⟩ := Option.map_eq_some_iff.mp hi
      have hil := (List.getElem?_eq_some_iff.mp h1).1
      walk_at "rd"
      intro l H4 s4 f4 e4
      have e34 := s4 _ _ e3
      have lnew : l ∉ ls := fun h => by have := (lz l h).2; rw [f4] at this; cases this
      have lpd' : l ≠ pd := fun y => by rw [y, e3] at f4; cases f4
      have tl : (NS.take i).length = ls.length := by rw [List.length_take, ll]; omega
      refine ⟨_, DPut.k (k := .inr nm) e34 (small1000 (by rw [kvz_len tl, List.length_take]; omega)), ?_⟩
      rw [putK_new _ (kvz_no (not_take rnd h1)), ← kvz_snoc tl, ← take_snocP h1]
      have rqk : rq ≠ pd := rqd
      refine (hIv1 _ _ _).mpr ⟨_, _, ls ++ [l], rfl, same_updN f1 (s3.trans s4), by rw [upd_ne rqk]; exact s4 _ _ k3, by rw [List.length_append, ll]; rfl, upd_same, ?_, ?_, fun l' hl' => ?_⟩
      · refine List.nodup_append.mpr ⟨lnd, by simp, fun a ha b hb e => lnew ?_⟩
        have hb' : b = l := by simpa using hb
        rw [← hb', ← e]; exact ha
      · intro h
        rcases List.mem_append.mp h with h | h
        · exact lpd h
        · have h' : pd = l := by simpa using h
          exact lpd' h'.symm
      · rcases List.mem_append.mp hl' with h | h
        · have := lz l' h
          exact ⟨this.1, by rw [upd_ne (fun y => lpd (by rw [← y]; exact h))]; exact s4 _ _ this.2⟩
        · obtain rfl : l' = l := by simpa using h
          exact ⟨s3.free f4, by rw [upd_ne lpd']; exact e4⟩
    · rintro σ' H3 hinv
      obtain ⟨v3, v4, ls, rfl, s3, k3, ll, e3, lnd, lpd, lz⟩ := (hIv1 _ _ _).mp hinv
      rw [List.length_map, List.take_length] at e3
      rw [List.length_map] at ll
      walk_at "rd"
      refine seq_step ?_
      refine for_li ?_
      walk_at "rd"
      obtain ⟨Iv2, hIv2⟩ : ∃ Iv : Nat → L2.St → Hp → Prop, ∀ i σ' H', Iv i σ' H' ↔ (∃ v3 v4, σ' = [some (.ref pm), some (.ref pp), some (.ref pd), v3, v4] ∧ Same H H' ∧ H' pd = some (.dK (kvz NS ls)) ∧ (∀ x ∈ ps.take i, x.1 ∈ NS) ∧ ∀ (j : Nat) (nm : Str) (l : Addr), NS[j]? = some nm → ls[j]? = some l → ∃ qs : List Addr, H' l = some (.lst (qs.map V.ref)) ∧ qs.length = (zonesP (dimM M) (ps.take i) nm).length ∧ ∀ (k : Nat) (q : Addr) (Z : Mx), qs[k]? = some q → (zonesP (dimM M) (ps.take i) nm)[k]? = some Z → ZoAt (dimM M) (remU (fun b => b ∈ ls) H') q Z) := ⟨_, fun _ _ _ => Iff.rfl⟩
      refine forL_by (xs := pqs.map V.ref) Iv2 ((hIv2 _ _ _).mpr ⟨_, _, rfl, s3, e3, fun x h => by simp at h, fun j nm l h1 h2 => ⟨[], (lz l (List.mem_of_getElem? h2)).2, by simp [zonesP], fun k q Z h => by simp at h⟩⟩) (fun i σ H' _ h => (fun (⟨_, _, _, k, _⟩ : ∃ _ _, _ ∧ Same _ _ ∧ _) => .of (k _ _ p1)) ((hIv2 _ _ _).mp h)) ?_ ?_
      · rintro i x σ' H4 hi hinv
        obtain ⟨v3, v4, rfl, s4, e4, inn, zl⟩ := (hIv2 _ _ _).mp hinv
        rw [List.getElem?_map] at hi
        obtain ⟨qi, h1, rfl⟩ := Option.map_eq_some_iff.mp hi
        have hil := (List.getElem?_eq_some_iff.mp h1).1
        obtain ⟨x, hx⟩ : ∃ x, ps[i]? = some x := ⟨_, List.getElem?_eq_getElem (by omega)⟩
        have hxm := List.mem_of_getElem? hx
        obtain ⟨pz, ez, az, zz⟩ := PpAt.keep _ _ _ _ s4 (p3 i qi x h1 hx)
        refine gTup_of (sqt ez) rfl ?_
        walk_at "rd"
        refine seq_step ?_
        walk_at "rd"
        by_cases m : x.1 ∈ NS
        rotate_left
        · exact ⟨none, .inl ⟨_, .inr x.1, .inl e4, rfl, (kvz_no m).symm⟩, if_t rfl (q2 ⟨x, hxm, m⟩ H4 s4)⟩
        obtain ⟨j, hj, ej⟩ := List.mem_iff_getElem.mp m
        have hNj := List.getElem?_eq_getElem hj
        rw [ej] at hNj
        obtain ⟨l, hlj⟩ : ∃ l, ls[j]? = some l := ⟨_, List.getElem?_eq_getElem (by omega)⟩
        refine ⟨some (.ref l), .inl ⟨_, .inr x.1, .inl e4, rfl, (kvz_at rnd hNj hlj).symm⟩, if_f rfl ?_⟩
        refine seq_step ?_
        walk_at "rd"
        have inn' : ∀ y ∈ ps.take (i + 1), y.1 ∈ NS := fun y hy => by
          rw [take_snocP hx] at hy
          rcases List.mem_append.mp hy with h | h
          · exact inn y h
          · rw [show y = x by simpa using h]; exact m
        have zsn := fun r => zonesP_snoc (dimM M) hx r
        have lpl : ∀ l ∈ ls, l ≠ pd := fun l hl y => lpd (by rw [← y]; exact hl)
        refine ⟨pz, az, dimM M, x.2, 3000, rfl, zz, by omega, by decide, psz x hxm, by omega, fun hneg H5 s5 => ?_, fun hpos p' as' H5 s5 z5 f5 ff5 => ?_⟩
        · walk_at "rd"
          have en : nrwO (dimM M) x.2 = none := nrwO_no fun c => by
            obtain ⟨i, d, hi, hd, d1⟩ := hneg
            obtain ⟨d', hd', d2⟩ := pos_get hi (c i hi)
            rw [hd] at hd'; cases hd'; omega
          refine (hIv2 _ _ _).mpr ⟨_, _, rfl, s4.trans s5, s5 _ _ e4, inn', fun j' nm l' h1 h2 => ?_⟩
          rw [zsn nm, en, Option.toList_none, ite_self, List.append_nil]
          obtain ⟨qs, a1, a2, a3⟩ := zl j' nm l' h1 h2
          exact ⟨qs, s5 _ _ a1, a2, fun k q Z h1 h2 => ZoAt.keep _ _ _ _ (rem_same s5) (a3 k q Z h1 h2)⟩
        · walk_at "rd"
          have en : nrwO (dimM M) x.2 = some (nrw (dimM M) x.2) := nrwO_pos fun i hi => by
            obtain ⟨d, hd, d1⟩ := hpos i hi
            unfold Pos; rw [hd]; exact d1
          obtain ⟨qs, a1, a2, a3⟩ := zl j x.1 l hNj hlj
          have a15 := s5 _ _ a1
          have lls : ∀ b, b ∈ ls → ∃ o, H4 b = some o := fun b hb => by
            obtain ⟨j', hj', e'⟩ := List.mem_iff_getElem.mp hb
            have h3 := List.getElem?_eq_getElem hj'
            rw [e'] at h3
            obtain ⟨nm', hnm'⟩ : ∃ nm', NS[j']? = some nm' := ⟨_, List.getElem?_eq_getElem (by omega)⟩
            obtain ⟨_, w, _⟩ := zl j' nm' b hnm' h3
            exact ⟨_, w⟩
          have newls : ∀ {b : Addr}, H4 b = none → b ∉ ls := fun f hb => by obtain ⟨o, e⟩ := lls _ hb; rw [f] at e; cases e
          refine ⟨_, rfl, _, rfl, pd, _, rfl, .inl ⟨_, .inr x.1, .inl (s5 _ _ e4), rfl, (kvz_at rnd hNj hlj).symm⟩, .inl ⟨rfl, _, .of a15⟩, ?_⟩
          walk_at "rd"
          have qle : qs.length ≤ 800 := by
            rw [a2]
            unfold zonesP
            exact Nat.le_trans (List.length_filterMap_le _ _) (by rw [List.length_take]; omega)
          refine app_at a15 (by rw [List.length_map]; omega) ?_
          have hlm := List.mem_of_getElem? hlj
          have fl : H l = none := (lz l hlm).1
          refine (hIv2 _ _ _).mpr ⟨_, _, rfl, same_updN fl (s4.trans s5), by rw [upd_ne (Ne.symm (lpl l hlm))]; exact s5 _ _ e4, inn', fun j' nm l' h1 h2 => ?_⟩
          have keepU : Same (remU (fun b => b ∈ ls) H4) (remU (fun b => b ∈ ls) (upd H5 l (.lst (qs.map V.ref ++ [.ref p'])))) := fun b o e => by
            have := rem_of e
            refine rem_at this.1 ?_
            rw [upd_ne (fun y => this.1 (by rw [y]; exact hlm))]
            exact s5 _ _ this.2
          rw [zsn nm]
          by_cases c : j' = j
          · subst c
            rw [hNj] at h1; cases h1
            rw [hlj] at h2; cases h2
            rw [if_pos rfl, en]
            refine ⟨qs ++ [p'], by rw [upd_same, List.map_append]; rfl, by rw [List.length_append, List.length_append, a2]; rfl, fun k q Z h1 h2 => ?_⟩
            by_cases ck : k < qs.length
            · rw [List.getElem?_append_left ck] at h1
              rw [List.getElem?_append_left (by omega)] at h2
              exact ZoAt.keep _ _ _ _ keepU (a3 k q Z h1 h2)
            · rw [List.getElem?_append_right (by omega)] at h1
              rw [List.getElem?_append_right (by omega), ← a2] at h2
              have hk : k - qs.length = 0 := by
                have := (List.getElem?_eq_some_iff.mp h1).1
                simp at this; omega
              rw [hk] at h1 h2
              obtain rfl : p' = q := by simpa using h1
              obtain rfl : nrw (dimM M) x.2 = Z := by simpa using h2
              have zU := z5.rem (U := fun b => b ∈ ls) (newls f5) (fun a ha => newls (ff5 a ha))
              refine ⟨as', zU.keep fun b o e => ?_⟩
              have := rem_of e
              refine rem_at this.1 ?_
              rw [upd_ne (fun y => this.1 (by rw [y]; exact hlm))]
              exact this.2
          · have nmx : x.1 ≠ nm := fun e => c ((List.getElem?_inj (List.getElem?_eq_some_iff.mp h1).1 rnd).mp (by rw [h1, hNj, e]))
            have lne : l' ≠ l := fun e => c ((List.getElem?_inj (List.getElem?_eq_some_iff.mp h2).1 lnd).mp (by rw [h2, hlj, e]))
            rw [if_neg nmx, List.append_nil]
            obtain ⟨qs', b1, b2, b3⟩ := zl j' nm l' h1 h2
            exact ⟨qs', by rw [upd_ne lne]; exact s5 _ _ b1, b2, fun k q Z h1 h2 => ZoAt.keep _ _ _ _ keepU (b3 k q Z h1 h2)⟩
      · rintro σ' H4 hinv
        obtain ⟨v3, v4, rfl, s4, e4, inn, zl⟩ := (hIv2 _ _ _).mp hinv
        rw [List.length_map, p2, List.take_length] at inn zl
        walk_at "rd"
        refine q1 inn pd H4 s4 f1 ⟨ls, ll.symm, .inl e4, fun j nm l h1 h2 => ?_⟩ ⟨ls, by omega, e4⟩
        obtain ⟨qs, a1, a2, a3⟩ := zl j nm l h1 h2
        exact ⟨qs, a1, a2, fun k q Z h1 h2 => ZoAt.keep _ _ _ _ rem_sub (a3 k q Z h1 h2)⟩
def spLetsBy (K : PySem.W.Frag) (CM CD CN CR : Addr) : Sp := fun vs H Q E => ∃ (pm pg pp : Addr) (M : MachD), vs = [.ref pm, .ref pg, .ref pp] ∧ MachAt CM CD H pm M ∧ MachOk M ∧ MSz M ∧
  ((∃ (gs : List Rq) (ps : List (Str × Mx)), RsAt H pg gs ∧ gs.all (markOk M) = true ∧ (∀ g ∈ gs, g.2.length ≤ 60 ∧ SzL g.2) ∧ gs.length ≤ 900 ∧ SeqOf (PpAt (dimM M)) H pp ps ∧ ps.length ≤ 800 ∧ (∀ x ∈ ps, SzM 3000 x.2) ∧
    ((∀ x ∈ ps, x.1 ∈ M.rooms.map (·.1)) → ∀ (b : Bool) (H' : Hp), Same H H' → (b = true ↔ LetsP M gs ps) → Q (.bl b) H') ∧ ((∃ x ∈ ps, x.1 ∉ M.rooms.map (·.1)) → ∀ H', Same H H' → E (.ref CR) none H')) ∨
   (∃ gs k, BadGoal K H M pg gs k ∧ ∀ H', Same H H' → E (.ref CN) none H'))
theorem ok_lets_by (T : Top K mg) : FnOk P w K mg base (L2.CX P w) 7 T.f_lets_by T.d_lets_by ["machine", "goal", "paper"] (spLetsBy K T.C_Machine T.C_Door T.C_NoMark T.C_NoRoom) := by
  refine T.F_lets_by.okX sc_lets_by (fun vs H Q E h => ?_) (fun cdv A outer s H vs Q E hr h => ?_)
  · obtain ⟨pm, pg, pp, M, rfl, _⟩ := h; rfl
  · obtain ⟨pm, pg, pp, M, rfl, hm, ok, msz, q⟩ := h
    refine ⟨_, (pss_cons (ps_expr (pe_call (ok_checked_goal T) (hr.mono (by decide)) rfl T.g_checked_goal T.F_checked_goal.kp T.b_checked_goal .nil (passes_call (takes_of rfl rfl rfl rfl) (fun _ _ _ _ z => z)) (pa_cons (pv 0) (pa_cons (pv 1) pa_nil))))
      (pss_cons (ps_set (i := 3) sc_lets_by.nd rfl (.inl rfl) (pe_call (ok_narrow_zones T) (hr.mono (by decide)) rfl T.g_narrow_zones T.F_narrow_zones.kp T.b_narrow_zones .nil (passes_call (takes_of rfl rfl rfl rfl) (fun _ _ _ _ z => z)) (pa_cons (pv 0) (pa_cons (pv 2) pa_nil))))
      (pss_cons (ps_set (i := 4) sc_lets_by.nd rfl (.inl rfl) (pe_ix (ix_listA (K := K) rfl) (pe_meth0 (pv 0) T.cl_Machine T.m_Machine_rooms (ok_Machine_rooms T) (hr.mono (by decide)) T.b_Machine_rooms .nil pass0) pe_int (fun _ _ => rfl)))
      (pss_cons (ps_if (pt_not (pt_val (pe_call (ok_covered T) (hr.mono (by decide)) rfl T.g_covered T.F_covered.kp T.b_covered .nil pass0 (pa_cons (pe_dget (hu_of hr) (pv 3) (pv 4) (fun _ _ => rfl)) (pa_cons (pe_call (ok_in_stay T) (hr.mono (by decide)) rfl T.g_in_stay T.F_in_stay.kp T.b_in_stay .nil pass0 (pa_cons (pv 0) (pa_cons (pv 4) (pa_cons (pe_call (ok_nought T) (hr.mono (by decide)) rfl T.g_nought T.F_nought.kp T.b_nought .nil pass0 (pa_cons (pe_callB call_len_seq (by rfl) T.m_len (by decide +kernel) (pa_cons (pe_meth0 (pv 0) T.cl_Machine T.m_Machine_watches (ok_Machine_watches T) (hr.mono (by decide)) T.b_Machine_watches .nil pass0) pa_nil)) pa_nil)) pa_nil)))) pa_nil))))) (pss_one (ps_ret pe_bl)) pss_nil)
      (pss_cons (ps_lock (ps_for (passes_of rfl) rfl (pi_items (pv 3)) (pg_tupA (K := K) (n := 2) rfl (by rfl) (pgs_cons (pg_name (i := 4) sc_lets_by.nd rfl (.inl rfl)) (pgs_cons (pg_name (i := 5) sc_lets_by.nd rfl (.inl rfl)) pgs_nil))) (pss_one (ps_for (passes_of rfl) rfl (pi_listA (K := K) rfl (pv 5)) (pg_name (i := 6) sc_lets_by.nd rfl (.inl rfl)) (pss_one (ps_if (PW.pt (pw_or (pt_cmpR op_notN (pe_call (ok_hit_by T) (hr.mono (by decide)) rfl T.g_hit_by T.F_hit_by.kp T.b_hit_by .nil pass0 (pa_cons (pv 0) (pa_cons (pv 1) (pa_cons (pv 4) (pa_cons (pv 6) pa_nil))))) pe_non (nomark _)) (pw_or1 (pt_not (pt_val (pe_call (ok_is_closed T) (hr.mono (by decide)) rfl T.g_is_closed T.F_is_closed.kp T.b_is_closed .nil pass0 (pa_cons (pv 0) (pa_cons (pv 3) (pa_cons (pv 4) (pa_cons (pv 6) pa_nil)))))))))) (pss_one (ps_ret pe_bl)) pss_nil))))))
      (pss_one (ps_ret pe_bl))))))), ?_⟩
    obtain ⟨dx, wn, rn, sl, dl, a, _⟩ := id hm
    have w7 := ok.w7
    have r64 := ok.r64
    have n8 : dimM M ≤ 8 := by unfold dimM; omega
    refine seq_step ?_
    walk_at "rd"
    rcases q with ⟨gs, ps, hg, gok, gsz, g900, hp, p800, psz, q1, q2⟩ | ⟨gs, k, bad, q⟩
    rotate_left
    · exact .inr ⟨pm, pg, M, gs, k, rfl, hm, bad, fun H1 s1 => q H1 s1⟩
    refine .inl ⟨pm, pg, M, gs, rfl, hm, hg, fun r hr => (gsz r hr).1, g900, .inl ⟨gok, fun H1 s1 => ?_⟩⟩
    walk_at "rd"
    refine seq_step ?_
    walk_at "rd"
    refine ⟨pm, pp, M, ps, rfl, hm.keep s1, ok, SeqOf.keep (fun _ _ => PpAt.keep _ _ _ _ s1) s1 hp, p800, psz, fun inn pd H2 s2 f2 hz ⟨ls, ll, ed⟩ => ?_, fun h H2 s2 => q2 h H2 (s1.trans s2)⟩
    have q1 := q1 inn
    have s12 := s1.trans s2
    walk_at "rd"
    refine seq_step ?_
    walk_at "rd"
    refine ⟨_, rfl, pm, dx, _, rfl, s12 _ _ a, mach_no (by decide +kernel) (by decide +kernel) (by decide +kernel) (by decide +kernel), pm, M, rfl, hm.keep s12, fun rq H3 s3 f3 e3 => ?_⟩
    have s13 := s12.trans s3
    obtain ⟨r0, hr0⟩ : ∃ r0, M.rooms[0]? = some r0 := ⟨_, List.getElem?_eq_getElem (List.length_pos_iff.mpr ok.rne)⟩
    have hr0m := List.mem_of_getElem? hr0
    have hd0 : (M.rooms.headD ("", [])).1 = r0.1 := by rw [List.headD_eq_head?_getD, List.head?_eq_getElem?, hr0]; rfl
    refine ix_l (.of e3) (by decide) (by rw [show (0 : Int).toNat = 0 from rfl, List.getElem?_map, List.getElem?_map, hr0]; rfl) ?_
    have zlen : ∀ x, (zonesP (dimM M) ps x).length ≤ 800 := fun x => Nat.le_trans (List.length_filterMap_le _ _) p800
    have zsz : ∀ x, ∀ N ∈ zonesP (dimM M) ps x, SzM 5000 N := fun x N hN => by
      unfold zonesP at hN
      obtain ⟨y, hy, e⟩ := List.mem_filterMap.mp hN
      split at e
      · rw [(nrwO_some e).1]
        exact (nrw_szf n8 (by decide) (psz y hy)).mono (by decide)
      · cases e
    have look : ∀ {H1 : Hp} {x : Str}, Same H2 H1 → x ∈ M.rooms.map (·.1) → ∃ l, DGet H1 pd (.str x) (some (.ref l)) ∧ SeqOf (ZoAt (dimM M)) H1 l (zonesP (dimM M) ps x) := fun {H1 x} s1 h1 => by
      obtain ⟨ls, x1, x2, x3⟩ := hz.keep s1
      obtain ⟨i, hi, e⟩ := List.mem_iff_getElem.mp h1
      have h2 := List.getElem?_eq_getElem hi
      rw [e] at h2
      have h3 := List.getElem?_eq_getElem (l := ls) (i := i) (by omega)
      exact ⟨_, .inl ⟨_, .inr x, x2, rfl, (kvz_at ok.rnd h2 h3).symm⟩, x3 i _ _ h2 h3⟩
    refine seq_step ?_
    walk_at "rd"
    obtain ⟨l, hl0, hl⟩ := look s3 (List.mem_map_of_mem hr0m)
    refine ⟨_, hl0, ?_⟩
    refine ⟨_, rfl, pm, dx, _, rfl, s13 _ _ a, mach_no (by decide +kernel) (by decide +kernel) (by decide +kernel) (by decide +kernel), pm, M, rfl, hm.keep s13, fun wq H4 s4 f4 e4 => ?_⟩
    have s14 := s13.trans s4
    refine ⟨_, rfl, _, .inl (.of e4), ?_⟩
    rw [List.length_map]
    refine ⟨M.watches.length, rfl, by omega, fun nz na H5 s5 z5 _ _ => ?_⟩
    have s15 := s14.trans s5
    refine ⟨pm, nz, na, M, r0, oneM, rfl, hm.keep s15, ok, hr0m, msz.1 r0 hr0m, z5, one_szP (by decide), fun v H6 s6 hX => ?_⟩
    have s36 := s4.trans (s5.trans s6)
    refine ⟨l, v, dimM M, zonesP (dimM M) ps r0.1, rfl, SeqOf.keep (fun _ _ => ZoAt.keep _ _ _ _ s36) s36 hl, by omega, zlen _, _, hX, fun b1 H7 s7 hb1 => ?_⟩
    have s37 := s36.trans s7
    have s07 := s13.trans s37
    refine ⟨_, rfl, ?_⟩
    cases b1 with
    | false =>
      refine if_t rfl (q1 false H7 s07 ⟨fun h => (by cases h), fun h => ?_⟩)
      have := h.1
      rw [hd0] at this
      cases hb1.mpr this
    | true =>
      refine if_f rfl ?_
      have cov1 := hb1.mp rfl
      refine seq_step ?_
      have ed7 := (s3.trans s37) _ _ ed
      refine for_items rfl ed7 fun od => ?_
      have nsl : (M.rooms.map (·.1)).length = ls.length := by rw [List.length_map]; exact ll
      have klen := kvz_len nsl
      obtain ⟨ls', x1, _, x3⟩ := hz.keep (s3.trans s37)
      have sl : Same H (upd H7 pd (.frz od (.dK (kvz (M.rooms.map (·.1)) ls)))) := same_updN (s1.free f2) s07
      have kl : ∀ b xs, H7 b = some (.lst xs) → upd H7 pd (.frz od (.dK (kvz (M.rooms.map (·.1)) ls))) b = some (.lst xs) := fun b xs e => by rw [upd_ne (ne_of e ed7 (by intro z; cases z))]; exact e
      have hh : upd H7 pd (.frz od (.dK (kvz (M.rooms.map (·.1)) ls))) pd = some (.frz od (.dK (kvz (M.rooms.map (·.1)) ls))) := upd_same
      have ul : ∀ H', Same (upd H7 pd (.frz od (.dK (kvz (M.rooms.map (·.1)) ls)))) H' → Same H (upd H' pd (.dK (kvz (M.rooms.map (·.1)) ls))) := fun H' s => s07.trans (unlock_same ed7 s)
      have hzl : ∀ (i : Nat) (nm : Str) (l : Addr), (M.rooms.map (·.1))[i]? = some nm → ls[i]? = some l → SeqOf (ZoAt (dimM M)) (upd H7 pd (.frz od (.dK (kvz (M.rooms.map (·.1)) ls)))) l (zonesP (dimM M) ps nm) := fun i nm l h1 h2 => by
        obtain ⟨ls2, y1, y2, y3⟩ := hz.keep (s3.trans s37)
        have e2 : valV (kvz (M.rooms.map (·.1)) ls2) (.inr nm : Key) = valV (kvz (M.rooms.map (·.1)) ls) (.inr nm : Key) := by
          rcases y2 with y2 | ⟨o, y2⟩
          · rw [ed7] at y2
            have y2 : kvz (M.rooms.map (·.1)) ls = kvz (M.rooms.map (·.1)) ls2 := by simpa using y2
            rw [y2]
          · rw [ed7] at y2; cases y2
        obtain ⟨l2, hl2⟩ : ∃ l2, ls2[i]? = some l2 := ⟨_, List.getElem?_eq_getElem (by have := (List.getElem?_eq_some_iff.mp h1).1; omega)⟩
        rw [kvz_at ok.rnd h1 hl2, kvz_at ok.rnd h1 h2] at e2
        obtain rfl : l2 = l := by simpa using e2
        obtain ⟨qs, b1, b2, b3⟩ := y3 i nm l2 h1 hl2
        exact ⟨qs, kl _ _ b1, b2, fun k q Z h1 h2 => (b3 k q Z h1 h2).lists kl⟩
      generalize upd H7 pd (.frz od (.dK (kvz (M.rooms.map (·.1)) ls))) = Hl at *
      have hzd : ZdAt (dimM M) Hl pd (M.rooms.map (·.1)) (zonesP (dimM M) ps) := ⟨ls, nsl, .inr ⟨od, hh⟩, hzl⟩
      obtain ⟨Iv, hIv⟩ : ∃ Iv : Nat → L2.St → Hp → Prop, ∀ i σ' H', Iv i σ' H' ↔ (∃ v4 v5 v6, σ' = [some (.ref pm), some (.ref pg), some (.ref pp), some (.ref pd), v4, v5, v6] ∧ Same Hl H' ∧ ∀ r ∈ M.rooms.take i, ∀ N ∈ zonesP (dimM M) ps r.1, ¬ HitP M gs r.1 N ∧ ClosedP M (zonesP (dimM M) ps) r.1 N) := ⟨_, fun _ _ _ => Iff.rfl⟩
      refine forD_by Iv ((hIv _ _ _).mpr ⟨_, _, _, rfl, Same.refl _, fun r h => by simp at h⟩) (fun i σ H' h => (fun (⟨_, _, _, _, k, _⟩ : ∃ _ _ _, _ ∧ Same _ _ ∧ _) => k _ _ hh) ((hIv _ _ _).mp h)) ?_ ?_
      · rintro i key v t0 σ' H8 H9 hi hinv s9 et
        obtain ⟨v4, v5, v6, rfl, s8, don⟩ := (hIv _ _ _).mp hinv
        obtain ⟨nm, l, h1, h2, rfl, rfl⟩ := kvz_get hi
        rw [List.getElem?_map] at h1
        obtain ⟨r, hr, rfl⟩ := Option.map_eq_some_iff.mp h1
        have hrm := List.mem_of_getElem? hr
        obtain ⟨qs, b1, b2, b3⟩ := hzl i r.1 l (by rw [List.getElem?_map, hr]; rfl) h2
        have zl := zlen r.1
        have sl9 := s8.trans s9
        refine gTup_of (sqt et) rfl ?_
        walk_at "rd"
        refine for_li ?_
        walk_at "rd"
        obtain ⟨Iw, hIw⟩ : ∃ Iv : Nat → L2.St → Hp → Prop, ∀ m σ' H', Iv m σ' H' ↔ (∃ v6, σ' = [some (.ref pm), some (.ref pg), some (.ref pp), some (.ref pd), some (.str r.1), some (.ref l), v6] ∧ Same Hl H' ∧ ∀ N ∈ (zonesP (dimM M) ps r.1).take m, ¬ HitP M gs r.1 N ∧ ClosedP M (zonesP (dimM M) ps) r.1 N) := ⟨_, fun _ _ _ => Iff.rfl⟩
        refine forL_by (xs := qs.map V.ref) Iw ((hIw _ _ _).mpr ⟨_, rfl, sl9, fun N h => by simp at h⟩) (fun i σ H' _ h => (fun (⟨_, _, k, _⟩ : ∃ _, _ ∧ Same _ _ ∧ _) => .of (k _ _ b1)) ((hIw _ _ _).mp h)) ?_ ?_
        · rintro m x σ' Ha hm' hinv
          obtain ⟨v6, rfl, sa, dn⟩ := (hIw _ _ _).mp hinv
          rw [List.getElem?_map] at hm'
          obtain ⟨qz, h3, rfl⟩ := Option.map_eq_some_iff.mp hm'
          have hml := (List.getElem?_eq_some_iff.mp h3).1
          obtain ⟨N, hN⟩ : ∃ N, (zonesP (dimM M) ps r.1)[m]? = some N := ⟨_, List.getElem?_eq_getElem (by omega)⟩
          have hNm := List.mem_of_getElem? hN
          obtain ⟨az, zN⟩ := b3 m qz N h3 hN
          have s0a := sl.trans sa
          have sN := zsz r.1 N hNm
          have fail : ∀ H', Same Hl H' → ¬ (¬ HitP M gs r.1 N ∧ ClosedP M (zonesP (dimM M) ps) r.1 N) → H' pd = some (.frz od (.dK (kvz (M.rooms.map (·.1)) ls))) ∧ Q (.bl false) (upd H' pd (.dK (kvz (M.rooms.map (·.1)) ls))) := fun H' s h => ⟨s _ _ hh, q1 false _ (ul H' s) ⟨fun h => (by cases h), fun k => absurd (k.2 r hrm N hNm) h⟩⟩
          walk_at "rd"
          refine ⟨pm, pg, qz, az, M, gs, r.1, N, rfl, hm.keep s0a, ok, hg.keep s0a, gok, gsz, zN.keep sa, sN.mono (by decide), fun nh Hb sb => ?_, fun hit g Hb sb => ?_⟩
          · walk_at "rd"
            have sab := sa.trans sb
            refine ⟨pm, pd, qz, az, M, zonesP (dimM M) ps, r, N, rfl, hm.keep (sl.trans sab), ok, msz, hrm, hzd.keep sab, zlen, zN.keep sab, sN, fun b Hc sc hb => ?_⟩
            have sac := sab.trans sc
            refine ⟨_, rfl, ?_⟩
            cases b with
            | false => exact if_t rfl (fail Hc sac fun k => by cases hb.mpr k.2)
            | true =>
              refine if_f rfl ((hIw _ _ _).mpr ⟨_, rfl, sac, fun N' hN' => ?_⟩)
              rw [take_snocP hN] at hN'
              rcases List.mem_append.mp hN' with k | k
              · exact dn N' k
              · rw [show N' = N by simpa using k]; exact ⟨nh, hb.mp rfl⟩
          · walk_at "rd"
            exact fail Hb (sa.trans sb) fun k => k.1 hit
        · rintro σ' Ha hinv
          obtain ⟨v6, rfl, sa, dn⟩ := (hIw _ _ _).mp hinv
          rw [List.length_map, b2, List.take_length] at dn
          refine (hIv _ _ _).mpr ⟨_, _, _, rfl, sa, fun r' hr' => ?_⟩
          rw [take_snocP hr] at hr'
          rcases List.mem_append.mp hr' with k | k
          · exact don r' k
          · rw [show r' = r by simpa using k]; exact dn
      · rintro σ' H8 hinv
        obtain ⟨v4, v5, v6, rfl, s8, don⟩ := (hIv _ _ _).mp hinv
        rw [klen, List.length_map, List.take_length] at don
        refine ⟨s8 _ _ hh, ?_⟩
        walk_at "rd"
        exact q1 true _ (ul H8 s8) ⟨fun _ => ⟨by rw [hd0]; exact cov1, don⟩, fun _ => rfl⟩
/-- all that the watches are asked anywhere -/
def allG (M : MachD) (gs : List Rq) : List (List Lq) := M.rooms.map (·.2) ++ M.doors.map (·.looks) ++ gs.map (·.2)
abbrev lsKeep : ∀ (H H' : Hp) (q : Addr) (x : List Lq), Same H H' → LsAt H q x → LsAt H' q x := fun _ _ _ _ s h => LsAt.keep h s
def spGuards (K : PySem.W.Frag) (CM CD : Addr) : Sp := fun vs H Q _ => ∃ (pm pg : Addr) (M : MachD) (gs : List Rq), vs = [.ref pm, .ref pg] ∧ MachAt CM CD H pm M ∧ RsAt H pg gs ∧ (M.rooms.map (·.1)).Nodup ∧ M.rooms.length ≤ 64 ∧ M.doors.length ≤ 200 ∧ gs.length ≤ 600 ∧
  ∀ p H', Same H H' → SeqOf LsAt H' p (allG M gs) → Q (.ref p) H'
theorem ok_guards_of (T : Top K mg) : FnOk P w K mg base CX0 3 T.f_guards_of T.d_guards_of ["machine", "goal"] (spGuards K T.C_Machine T.C_Door) := by
  refine T.F_guards_of.ok sc_guards_of (fun vs H Q E h => ?_) (fun cdv A outer s H vs Q E hr h => ?_)
  · obtain ⟨pm, pg, M, ls, rfl, _⟩ := h; rfl
  · obtain ⟨pm, pg, M, gs, rfl, hm, hg, rnd, r64, d200, g600, q⟩ := h
    refine ⟨_, (pss_cons (lc_vsS (vs := [2]) (ps_setLc (i := 3) (own := [("room", 2)]) (g := gName 2) (tt := tYes) rfl sc_guards_of.nd rfl rfl (sw_true rfl rfl rfl (by decide +kernel)) (pi_listA (K := K) rfl (pe_meth0 (pv 0) T.cl_Machine T.m_Machine_rooms (ok_Machine_rooms T) (hr.mono (by decide)) T.b_Machine_rooms .nil pass0)) (blkOk_by (own := [("room", 2)]) (N := ["machine", "goal", "room", "found", "door", "guard"]) (sc := defScope s_guards_of) (by decide +kernel)) (fun _ _ _ _ _ => (pg_name (i := 2) sc_guards_of.nd rfl (.inl rfl))) (fun _ _ _ _ _ => pts_nil) (fun _ _ _ _ _ => (pe_meth (pv 0) T.cl_Machine T.m_Machine_stay (ok_Machine_stay T) (hr.mono (by decide)) T.b_Machine_stay .nil pass0 (pa_cons (pv 2) pa_nil)))) rfl)
      (pss_cons (ps_for PassesOwn.never rfl (pi_listA (K := K) rfl (pe_meth0 (pv 0) T.cl_Machine T.m_Machine_doors (ok_Machine_doors T) (hr.mono (by decide)) T.b_Machine_doors .nil pass0)) (pg_name (i := 4) sc_guards_of.nd rfl (.inl rfl)) (pss_one (ps_expr (pe_bm PySem.F.plainAttrs_list PySem.F.slot_list_append PySem.F.type_list_append mt_append (pv 3) (pa_cons (pe_meth0 (pv 4) T.cl_Door T.m_Door_asks (ok_Door_asks T) (hr.mono (by decide)) T.b_Door_asks .nil pass0) pa_nil)))))
      (pss_cons (ps_for PassesOwn.never rfl (pi_listA (K := K) rfl (pv 1)) (pg_tupA (K := K) (n := 2) rfl (by rfl) (pgs_cons (pg_name (i := 2) sc_guards_of.nd rfl (.inl rfl)) (pgs_cons (pg_name (i := 5) sc_guards_of.nd rfl (.inl rfl)) pgs_nil))) (pss_one (ps_expr (pe_bm PySem.F.plainAttrs_list PySem.F.slot_list_append PySem.F.type_list_append mt_append (pv 3) (pa_cons (pv 5) pa_nil)))))
      (pss_one (ps_ret (pv 3)))))), ?_⟩
    obtain ⟨dx, wn, rn, sl, dl, a, _⟩ := id hm
    obtain ⟨gqs, g1, g2, g3⟩ := id hg
    refine seq_step ?_
    walk_at "rd"
    refine lcg_src ?_
    refine ⟨_, rfl, pm, dx, _, rfl, a, mach_no (by decide +kernel) (by decide +kernel) (by decide +kernel) (by decide +kernel), pm, M, rfl, hm, fun rq H1 s1 f1 e1 => ?_⟩
    refine ⟨rq, rfl, ⟨_, .of e1⟩, ?_⟩
    refine lcMD (R := LsAt) lsKeep (F := fun r : Rq => r.2) (zs := M.rooms) e1 (by simp) (by simp; omega) (fun i x z H2 Yes hx hz s2 hy => ?_) (fun fq H2 s2 f2 e2 => ?_)
    · rw [List.getElem?_map, List.getElem?_map, hz] at hx
      obtain rfl : x = .str z.1 := by simpa using hx.symm
      have s12 := s1.trans s2
      walk_at "rd"
      refine ⟨_, rfl, pm, dx, _, rfl, s12 _ _ a, mach_no (by decide +kernel) (by decide +kernel) (by decide +kernel) (by decide +kernel), ?_⟩
      walk_at "rd"
      refine ⟨pm, M, z, rfl, hm.keep s12, List.mem_of_getElem? hz, rnd, fun r H3 s3 f3 e3 => hy r H3 s3 fun D acc fD eD => ?_⟩
      exact e3.del (fun z => by rw [z, eD] at f3; cases f3) (s3 _ _ eD)
    · have s12 := s1.trans s2
      have oldne : ∀ b o, H b = some o → b ≠ fq := fun b o e z => by rw [← z, s1 _ _ e] at f2; cases f2
      walk_at "rd"
      refine seq_step ?_
      refine for_li ?_
      refine ⟨_, rfl, pm, dx, _, rfl, s12 _ _ a, mach_no (by decide +kernel) (by decide +kernel) (by decide +kernel) (by decide +kernel), pm, M, rfl, hm.keep s12, fun dq H3 dqs s3 f3 d1 d2 d3 => ?_⟩
      have d3 := d3 H s12 hm
      have dne : dq ≠ fq := fun z => by
        obtain ⟨fs, w1, _⟩ := e2
        rw [z, w1] at f3; cases f3
      have sH3 := s12.trans s3
      refine ⟨dq, rfl, forL_by (xs := dqs.map V.ref) (fun i σ' H' => (∃ v2 v4 v5, σ' = [some (.ref pm), some (.ref pg), v2, some (.ref fq), v4, v5]) ∧ SeqD LsAt H' fq (M.rooms.map (·.2) ++ (M.doors.take i).map (·.looks)) ∧ ∀ b o, H3 b = some o → b ≠ fq → H' b = some o) ⟨⟨_, _, _, rfl⟩, by simpa using e2.keep lsKeep s3, fun _ _ e _ => e⟩ (fun i σ H' _ ⟨_, _, k⟩ => .of (k _ _ d1 dne)) ?_ ?_⟩
      · rintro i x σ' H' hi ⟨⟨v2, v4, v5, rfl⟩, sd, k⟩
        rw [List.getElem?_map] at hi
        obtain ⟨qi, h1, rfl⟩ := Option.map_eq_some_iff.mp hi
        have hil := (List.getElem?_eq_some_iff.mp h1).1
        have hz := List.getElem?_eq_getElem (l := M.doors) (i := i) (by omega)
        have kd : DoorAt T.C_Door H' qi M.doors[i] := (d3 i qi _ h1 hz).keep fun b o e => k b o (sH3 _ _ e) (oldne b o e)
        generalize M.doors[i] = z at *
        obtain ⟨zdx, zg, zn, z1, _⟩ := id kd
        obtain ⟨fs, w1, w2, w3⟩ := id sd
        walk_at "rd"
        refine ⟨_, rfl, .inl ⟨rfl, _, .of w1⟩, ?_⟩
        refine ⟨_, rfl, qi, zdx, _, rfl, z1, door_no (by decide +kernel) (by decide +kernel) (by decide +kernel) (by decide +kernel) (by decide +kernel), qi, z, rfl, kd, fun lg H4 s4 f4 e4 => ?_⟩
        obtain ⟨items, t1, t2, t3⟩ := (sd.keep lsKeep s4).app lsKeep (e4.del (fun y => by rw [y, w1] at f4; cases f4) (s4 _ _ w1))
        walk_at "rd"
        refine app_at t1 (by rw [t2, List.length_append, List.length_map, List.length_map, List.length_take]; omega) ?_
        walk_at "rd"
        refine ⟨⟨_, rfl⟩, ?_, fun b o e n => by rw [upd_ne n]; exact s4 _ _ (k b o e n)⟩
        rw [List.take_add_one, hz, List.map_append, ← List.append_assoc]
        exact t3
      · rintro σ' H' ⟨⟨v2, v4, v5, rfl⟩, sd, k⟩
        rw [List.length_map, d2, List.take_length] at sd
        walk_at "rd"
        refine seq_step ?_
        refine for_li ?_
        walk_at "rd"
        have k0 : ∀ b o, H b = some o → H' b = some o := fun b o e => k b o (sH3 _ _ e) (oldne b o e)
        refine forL_by (xs := gqs.map V.ref) (fun i σ' H' => (∃ v2 v4 v5, σ' = [some (.ref pm), some (.ref pg), v2, some (.ref fq), v4, v5]) ∧ SeqD LsAt H' fq (M.rooms.map (·.2) ++ M.doors.map (·.looks) ++ (gs.take i).map (·.2)) ∧ Same H H') ⟨⟨_, _, _, rfl⟩, by simpa using sd, k0⟩ (fun i σ H' _ ⟨_, _, k⟩ => .of (k _ _ g1)) ?_ ?_
        · rintro i x σ' H5 hi ⟨⟨v2, v4, v5, rfl⟩, sd, k⟩
          rw [List.getElem?_map] at hi
          obtain ⟨qi, h1, rfl⟩ := Option.map_eq_some_iff.mp hi
          have hil := (List.getElem?_eq_some_iff.mp h1).1
          have hz := List.getElem?_eq_getElem (l := gs) (i := i) (by omega)
          obtain ⟨g, ez, hgz⟩ := g3 i qi _ h1 hz
          generalize gs[i] = z at *
          obtain ⟨fs, w1, w2, w3⟩ := id sd
          have gne : g ≠ fq := by
            obtain ⟨_, y, _⟩ := id hgz
            exact oldne _ _ y
          refine gTup_of (sqt (k _ _ ez)) rfl ?_
          walk_at "rd"
          refine ⟨_, rfl, .inl ⟨rfl, _, .of w1⟩, ?_⟩
          walk_at "rd"
          obtain ⟨items, t1, t2, t3⟩ := sd.app lsKeep ((hgz.keep k).del gne w1)
          refine app_at t1 (by rw [t2, List.length_append, List.length_append, List.length_map, List.length_map, List.length_map, List.length_take]; omega) ?_
          walk_at "rd"
          refine ⟨⟨_, rfl⟩, ?_, fun b o e => by rw [upd_ne (oldne b o e)]; exact k _ _ e⟩
          rw [List.take_add_one, hz, List.map_append, ← List.append_assoc]
          exact t3
        · rintro σ' H' ⟨⟨v2, v4, v5, rfl⟩, sd, k⟩
          rw [List.length_map, g2, List.take_length] at sd
          walk_at "rd"
          exact q fq H' k (sd.seq lsKeep)
theorem putK_le (c : List (Key × V)) (k : Key) (x : V) : (putK c k x).length ≤ c.length + 1 := by
  unfold putK
  split <;> simp
def bst (w : Str) (a : Int) (l : Lq) : Int := if l.1 = w then (if numOf l.2.2 > a then numOf l.2.2 else a) else a
def best (w : Str) (gss : List (List Lq)) : Int := gss.foldl (fun a ls => ls.foldl (bst w) a) 0
theorem guard_num {ws watches : List Str} {ls : List Lq} (h : guardOk ws watches ls = true) : ∀ l ∈ ls, ∃ n : Int, l.2.2 = .int n := fun l hl => by
  have lz := List.all_eq_true.mp h l hl
  unfold lookOk at lz
  rw [Bool.and_eq_true] at lz
  have := lz.2
  cases hv : l.2.2 <;> rw [hv] at this <;> first | exact ⟨_, rfl⟩ | cases this
theorem allG_ok {M : MachD} {gs : List Rq} (ok : MachOk M) (h60 : ∀ r ∈ gs, r.2.length ≤ 60) (hg : gs.all (markOk M) = true) : ∀ ls ∈ allG M gs, ls.length ≤ 60 ∧ ∀ l ∈ ls, ∃ n : Int, l.2.2 = .int n := by
  intro ls h
  unfold allG at h
  rcases List.mem_append.mp h with h | h
  · rcases List.mem_append.mp h with h | h
    · obtain ⟨r, hr, rfl⟩ := List.mem_map.mp h
      have := List.all_eq_true.mp ok.rok r hr
      unfold roomOk at this
      rw [Bool.and_eq_true] at this
      exact ⟨ok.rsz r hr, guard_num this.2⟩
    · obtain ⟨d, hd, rfl⟩ := List.mem_map.mp h
      exact ⟨ok.dsz d hd, guard_num (ok.door hd).2.2.2.1⟩
  · obtain ⟨r, hr, rfl⟩ := List.mem_map.mp h
    have := List.all_eq_true.mp hg r hr
    unfold markOk at this
    rw [Bool.and_eq_true] at this
    exact ⟨h60 r hr, guard_num this.2⟩
def spGreatest (K : PySem.W.Frag) (CM CD CN : Addr) : Sp := fun vs H Q E => ∃ (pm pg : Addr) (M : MachD) (gs : List Rq), vs = [.ref pm, .ref pg] ∧ MachAt CM CD H pm M ∧ MachOk M ∧ RsAt H pg gs ∧ (∀ r ∈ gs, r.2.length ≤ 60) ∧ gs.length ≤ 600 ∧
  ((gs.all (markOk M) = true ∧ ∀ p H', Same H H' → H p = none → H' p = some (.lst (M.watches.map fun w => .int (best w (allG M gs)))) → Q (.ref p) H') ∨ (gs.all (markOk M) = false ∧ ∀ H', Same H H' → E (.ref CN) none H'))
theorem ok_greatest (T : Top K mg) : FnOk P w K mg base (L2.CX P w) 6 T.f_greatest T.d_greatest ["machine", "goal"] (spGreatest K T.C_Machine T.C_Door T.C_NoMark) := by
  refine T.F_greatest.okX sc_greatest (fun vs H Q E h => ?_) (fun cdv A outer s H vs Q E hr h => ?_)
  · obtain ⟨pm, pg, M, ls, rfl, _⟩ := h; rfl
  · obtain ⟨pm, pg, M, gs, rfl, hm, mok, hg, h60, g600, q⟩ := h
    refine ⟨_, (pss_cons (ps_expr (pe_call (ok_checked_goal T) (hr.mono (by decide)) rfl T.g_checked_goal T.F_checked_goal.kp T.b_checked_goal .nil (passes_call (takes_of rfl rfl rfl rfl) (fun _ _ _ _ z => z)) (pa_cons (pv 0) (pa_cons (pv 1) pa_nil))))
      (pss_cons (ps_set (i := 2) sc_greatest.nd rfl (.inr rfl) pe_dnewN)
      (pss_cons (ps_for (passes_of rfl) rfl (pi_listA (K := K) rfl (pe_call (ok_guards_of T) (hr.mono (by decide)) rfl T.g_guards_of T.F_guards_of.kp T.b_guards_of .nil pass0 (pa_cons (pv 0) (pa_cons (pv 1) pa_nil)))) (pg_name (i := 3) sc_greatest.nd rfl (.inl rfl)) (pss_one (ps_for (passes_of rfl) rfl (pi_listA (K := K) rfl (pv 3)) (pg_tupA (K := K) (n := 3) rfl (by rfl) (pgs_cons (pg_name (i := 4) sc_greatest.nd rfl (.inl rfl)) (pgs_cons (pg_name (i := 5) sc_greatest.nd rfl (.inl rfl)) (pgs_cons (pg_name (i := 6) sc_greatest.nd rfl (.inl rfl)) pgs_nil)))) (pss_one (ps_dput (hu_of hr) (pv 2) (pv 4) (pe_callB (call_max2 rfl) (by rfl) T.m_max (by decide +kernel) (pa_cons (pe_dget2 (hu_of hr) (pv 2) (pv 4) pe_int ⟨rfl, rfl, rfl, rfl⟩) (pa_cons (pv 6) pa_nil))) rfl)))))
      (pss_one (ps_ret (lc_vs (vs := [4]) (pe_lc (own := [("watch", 4)]) (g := gName 4) (tt := tYes) rfl sc_greatest.nd (pi_listA (K := K) rfl (pe_meth0 (pv 0) T.cl_Machine T.m_Machine_watches (ok_Machine_watches T) (hr.mono (by decide)) T.b_Machine_watches .nil pass0)) (blkOk_by (own := [("watch", 4)]) (N := ["machine", "goal", "most", "guard", "watch", "word", "number"]) (sc := defScope s_greatest) (by decide +kernel)) (fun _ _ _ _ _ => (pg_name (i := 4) sc_greatest.nd rfl (.inl rfl))) (fun _ _ _ _ _ => pts_nil) (fun _ _ _ _ _ => (pe_dget2 (hu_of hr) (pv 2) (pv 4) pe_int ⟨rfl, rfl, rfl, rfl⟩))) rfl)))))), ?_⟩
    obtain ⟨dx, wn, rn, sl, dl, a, _⟩ := id hm
    have r64 := mok.r64
    have d200 := mok.d200
    refine seq_step ?_
    walk_at "rd"
    refine .inl ⟨pm, pg, M, gs, rfl, hm, hg, h60, by omega, ?_⟩
    rcases q with ⟨ok, q⟩ | ⟨bad, q⟩
    · refine .inl ⟨ok, fun H1 s1 => ?_⟩
      have gok := allG_ok mok h60 ok
      have glen : (allG M gs).length ≤ 900 := by unfold allG; rw [List.length_append, List.length_append, List.length_map, List.length_map, List.length_map]; omega
      walk_at "rd"
      refine seq_step ?_
      walk_at "rd"
      intro d H2 s2 f2 e2
      refine seq_step ?_
      refine for_li ?_
      walk_at "rd"
      have s12 := s1.trans s2
      refine ⟨pm, pg, M, gs, rfl, hm.keep s12, hg.keep s12, mok.rnd, r64, d200, g600, fun aq H3 s3 e3 => ?_⟩
      generalize hgl : allG M gs = gl at *
      obtain ⟨aqs, a1, a2, a3⟩ := e3
      have hd3 := s3 _ _ e2
      have lne : ∀ {b : Addr} {xs : List V}, H3 b = some (.lst xs) → b ≠ d := fun h => ne_of h hd3 (by intro z; cases z)
      have tne : ∀ {b : Addr} {xs : List V}, H3 b = some (.tup xs) → b ≠ d := fun h => ne_of h hd3 (by intro z; cases z)
      refine ⟨aq, rfl, forL_by (xs := aqs.map V.ref) (fun i σ' H' => (∃ v3 v4 v5 v6, σ' = [some (.ref pm), some (.ref pg), some (.ref d), v3, v4, v5, v6]) ∧ (∃ kvs, H' d = some (.dK kvs) ∧ kvs.length ≤ 60 * i ∧ ∀ w : Str, (valV kvs (.inr w)).getD (.int 0) = .int (best w (gl.take i))) ∧ ∀ b o, H3 b = some o → b ≠ d → H' b = some o) ⟨⟨_, _, _, _, rfl⟩, ⟨[], hd3, by simp, fun w => rfl⟩, fun _ _ e _ => e⟩ (fun i σ H' _ ⟨_, _, k⟩ => .of (k _ _ a1 (lne a1))) ?_ ?_⟩
      · rintro i x σ' H' hi ⟨⟨v3, v4, v5, v6, rfl⟩, ⟨kvs, k1, k2, k3⟩, k⟩
        rw [List.getElem?_map] at hi
        obtain ⟨qi, h1, rfl⟩ := Option.map_eq_some_iff.mp hi
        have hil := (List.getElem?_eq_some_iff.mp h1).1
        have hz := List.getElem?_eq_getElem (l := gl) (i := i) (by omega)
        obtain ⟨lqs, l1, l2, l3⟩ := a3 i qi _ h1 hz
        have gz := gok _ (List.mem_of_getElem? hz)
        have tk : ∀ w, best w (gl.take (i + 1)) = gl[i].foldl (bst w) (best w (gl.take i)) := fun w => by
          unfold best
          rw [List.take_add_one, hz, List.foldl_append]; rfl
        simp only [tk]
        generalize gl[i] = ls at *
        walk_at "rd"
        refine for_li ?_
        walk_at "rd"
        refine forL_by (xs := lqs.map V.ref) (fun j σ' H' => (∃ v4 v5 v6, σ' = [some (.ref pm), some (.ref pg), some (.ref d), some (.ref qi), v4, v5, v6]) ∧ (∃ kvs, H' d = some (.dK kvs) ∧ kvs.length ≤ 60 * i + j ∧ ∀ w : Str, (valV kvs (.inr w)).getD (.int 0) = .int ((ls.take j).foldl (bst w) (best w (gl.take i)))) ∧ ∀ b o, H3 b = some o → b ≠ d → H' b = some o) ⟨⟨_, _, _, rfl⟩, ⟨kvs, k1, k2, k3⟩, k⟩ (fun i σ H' _ ⟨_, _, k⟩ => .of (k _ _ l1 (lne l1))) ?_ ?_
        · rintro j x σ' H5 hj ⟨⟨v4, v5, v6, rfl⟩, ⟨kvs, k1, k2, k3⟩, k⟩
          rw [List.getElem?_map] at hj
          obtain ⟨qj, h1, rfl⟩ := Option.map_eq_some_iff.mp hj
          have hjl := (List.getElem?_eq_some_iff.mp h1).1
          have hz := List.getElem?_eq_getElem (l := ls) (i := j) (by omega)
          obtain ⟨ez, _⟩ := l3 j qj _ h1 hz
          have tk2 : ∀ w a, (ls.take (j + 1)).foldl (bst w) a = bst w ((ls.take j).foldl (bst w) a) ls[j] := fun w a => by
            rw [List.take_add_one, hz, List.foldl_append]; rfl
          obtain ⟨n, hn⟩ := gz.2 _ (List.mem_of_getElem? hz)
          simp only [tk2]
          generalize ls[j] = z at *
          obtain ⟨za, zb, zc⟩ := z
          obtain rfl : zc = .int n := hn
          refine gTup_of (sqt (k _ _ ez (tne ez))) rfl ?_
          walk_at "rd"
          refine ⟨_, rfl, d, rfl, .inl ⟨kvs, .inl k1⟩, _, rfl, _, .k (k := .inr za) k1, ?_⟩
          rw [k3 za]
          have hl60 := gz.1
          refine ⟨_, rfl, _, .k (k := .inr za) k1 (by have := sizeLine_eq; omega), ⟨_, rfl⟩, ⟨_, upd_same, by have := putK_le kvs (.inr za) (.int (if n > (ls.take j).foldl (bst za) (best za (gl.take i)) then n else (ls.take j).foldl (bst za) (best za (gl.take i)))); omega, fun w => ?_⟩, fun b o e m => by rw [upd_ne m]; exact k b o e m⟩
          rw [valV_put]
          unfold bst
          by_cases c : za = w
          · subst c
            rw [if_pos rfl, if_pos rfl]
            rfl
          · rw [if_neg (fun e => c (by cases e; rfl)), if_neg c]
            exact k3 w
        · rintro σ' H5 ⟨⟨v4, v5, v6, rfl⟩, ⟨kvs, k1, k2, k3⟩, k⟩
          rw [List.length_map, l2, List.take_length] at k3
          walk_at "rd"
          rw [List.length_map, l2] at k2
          exact ⟨⟨_, rfl⟩, ⟨kvs, k1, by omega, k3⟩, k⟩
      · rintro σ' H' ⟨⟨v3, v4, v5, v6, rfl⟩, ⟨kvs, k1, k2, k3⟩, k⟩
        rw [List.length_map, a2, List.take_length] at k3
        walk_at "rd"
        have oldne : ∀ b o, H1 b = some o → b ≠ d := fun b o e z => by rw [← z, e] at f2; cases f2
        have k0 : Same H H' := fun b o e => k b o ((s12.trans s3) _ _ e) (oldne b o (s1 _ _ e))
        have w7 := mok.w7
        refine lcg_src ?_
        refine ⟨_, rfl, pm, dx, _, rfl, k0 _ _ a, mach_no (by decide +kernel) (by decide +kernel) (by decide +kernel) (by decide +kernel), pm, M, rfl, hm.keep k0, fun wq H6 s6 f6 e6 => ?_⟩
        refine ⟨wq, rfl, ⟨_, .of e6⟩, ?_⟩
        refine lcF (F := fun w : Str => V.int (best w gl)) (zs := M.watches) e6 (by simp) (by simp; omega) (fun i x z H7 Yes hx hz s7 hy => ?_) (fun D H7 s7 f7 e7 => ?_)
        · rw [List.getElem?_map, hz] at hx
          obtain rfl : x = .str z := by simpa using hx.symm
          have k17 := (s6.trans s7) _ _ k1
          walk_at "rd"
          refine ⟨_, rfl, d, rfl, .inl ⟨kvs, .inl k17⟩, _, rfl, _, .k (k := .inr z) k17, ?_⟩
          rw [k3 z]
          exact hy _ (Same.refl _)
        · exact q D H7 ((k0.trans s6).trans s7) ((k0.trans s6).free f7) e7
    · exact .inr ⟨bad, fun H1 s1 => q _ s1⟩
/-! ### papers of everywhere: plain -/
theorem ev_diag (i : Nat) : evM i i = some 1 := by unfold evM; rw [if_pos (.inr rfl)]
theorem ev_row (i : Nat) : evM 0 i = some 1 := by unfold evM; rw [if_pos (.inl rfl)]
theorem ev_tri (n : Nat) : Tri n n evM := fun k _ i j _ _ => by
  by_cases h1 : i = 0 ∨ i = k
  · by_cases h2 : k = 0 ∨ k = j
    · have e : evM i j = some 1 := by
        rcases h1 with rfl | rfl
        · exact ev_row j
        · rcases h2 with rfl | rfl
          · exact ev_row j
          · exact ev_diag _
      have e1 : evM i k = some 1 := by unfold evM; rw [if_pos h1]
      have e2 : evM k j = some 1 := by unfold evM; rw [if_pos h2]
      rw [e, e1, e2, addO_one]; exact leO_refl _
    · have e2 : evM k j = none := by unfold evM; rw [if_neg h2]
      rw [e2, addO_none]; cases evM i j <;> trivial
  · have e1 : evM i k = none := by unfold evM; rw [if_neg h1]
    rw [e1, none_addO]; cases evM i j <;> trivial
theorem ev_nrw (n : Nat) : nrw n evM = evM := nrw_idem (fun i _ => ev_diag i) (fun i _ => by rw [ev_row]; exact leO_refl _) (ev_tri n)
theorem ev_nrwO (n : Nat) : nrwO n evM = some evM := by
  have : PosAll n (nrw n evM) := fun i _ => by rw [ev_nrw]; unfold Pos; rw [ev_diag]; exact leO_refl _
  rw [nrwO_pos this, ev_nrw]
theorem nrwO_ev {n : Nat} {Y X : Mx} (h : nrwO n Y = some X) : LeN n X evM := fun i j hi hj => by
  obtain ⟨rfl, p⟩ := nrwO_some h
  unfold evM
  split
  · rename_i c
    rcases c with rfl | rfl
    · exact nrw_row0 hj
    · rw [nrw_diag hi (p i hi)]; exact leO_refl _
  · cases nrw n Y i j <;> trivial
theorem cov_ev {n : Nat} {Zs : List Mx} {Y : Mx} (h : evM ∈ Zs) : CovP n Zs (nrwO n Y) := fun X hX => ⟨evM, h, nrwO_ev hX⟩
theorem zones_ev {n : Nat} {paper : List (Str × Mx)} (pe : ∀ x ∈ paper, x.2 = evM) {r : Str} : ∀ N ∈ zonesP n paper r, N = evM := fun N hN => by
  unfold zonesP at hN
  obtain ⟨x, hx, e⟩ := List.mem_filterMap.mp hN
  split at e
  · rw [pe x hx, ev_nrwO] at e; exact (Option.some.inj e).symm
  · cases e
theorem zones_in {n : Nat} {paper : List (Str × Mx)} {r : Str} (h : (r, evM) ∈ paper) : evM ∈ zonesP n paper r := by
  unfold zonesP
  exact List.mem_filterMap.mpr ⟨_, h, by rw [if_pos rfl, ev_nrwO]⟩
theorem lets_ev {M : MachD} {gs : List Rq} {paper : List (Str × Mx)} (ok : MachOk M) (pe : ∀ x ∈ paper, x.2 = evM) (pc : ∀ r ∈ M.rooms, (r.1, evM) ∈ paper) : LetsP M gs paper ↔ ∀ r ∈ M.rooms, ¬ HitP M gs r.1 evM := by
  have h0 : M.rooms.headD ("", []) ∈ M.rooms := by
    cases h : M.rooms with
    | nil => exact absurd h ok.rne
    | cons a b => simp
  constructor
  · intro h r hr
    exact (h.2 r hr evM (zones_in (pc r hr))).1
  · intro h
    refine ⟨cov_ev (zones_in (pc _ h0)), fun r hr N hN => ?_⟩
    rw [zones_ev pe N hN]
    refine ⟨h r hr, cov_ev (zones_in (pc r hr)), fun d hd _ _ X _ => ?_⟩
    obtain ⟨r2, hr2, e2⟩ := List.mem_map.mp (ok.door hd).2.2.1
    rw [← e2]
    exact cov_ev (zones_in (pc r2 hr2))
/-- a look that some value meets -/
def GoodLk (W : List Str) (l : Lq) : Prop := l.1 ∈ W ∧ l.2.1 ∈ WORDS ∧ ∃ n : Int, l.2.2 = .int n ∧ 1 ≤ n ∧ n ≤ 10 ^ 40
theorem some_value {W : List Str} {l : Lq} (h : GoodLk W l) : ∃ x : Int, 0 ≤ x ∧ meetsL (W.idxOf l.1, wdOf l.2.1, numOf l.2.2) (x, 1) = true := by
  obtain ⟨h1, h2, n, e, n1, _⟩ := h
  have en : numOf l.2.2 = n := by rw [e]; rfl
  unfold meetsL
  rw [en]
  cases hw : wdOf l.2.1 with
  | lt => exact ⟨0, by decide, decide_eq_true (show (0 : Int) < n * 1 by omega)⟩
  | le => exact ⟨0, by decide, decide_eq_true (show (0 : Int) ≤ n * 1 by omega)⟩
  | gt => exact ⟨n + 1, by omega, decide_eq_true (show n * 1 < n + 1 by omega)⟩
  | ge => exact ⟨n, by omega, decide_eq_true (show n * 1 ≤ n by omega)⟩
  | eq => exact ⟨n, by omega, decide_eq_true (show n = n * 1 by omega)⟩
theorem hit_ev {M : MachD} {gs : List Rq} {g : Rq} (hg : g ∈ gs) (hl : g.2.length ≤ 1) (good : ∀ l ∈ g.2, GoodLk M.watches l) : HitP M gs g.1 evM := by
  refine ⟨g, hg, rfl, ?_⟩
  unfold metO
  suffices h : ∃ v, Vals0 (dimM M) v ∧ Lies (dimM M) (lookM evM (lks M.watches g.2)) v by
    obtain ⟨v, v0, lv⟩ := h
    rw [nrwO_pos fun i hi => lies_pos v0 hi ((nrw_lies v0).mpr lv)]
    intro h; cases h
  obtain ⟨r, ls⟩ := g
  have hl : ls.length ≤ 1 := hl
  have good : ∀ l ∈ ls, GoodLk M.watches l := good
  cases ls with
  | nil =>
    have v0 : Vals0 (dimM M) (fun _ => (0, 1)) := ⟨rfl, fun _ _ => by decide, fun _ _ => by decide⟩
    exact ⟨_, v0, lies_ev v0⟩
  | cons l ls =>
    obtain rfl : ls = [] := List.length_eq_zero_iff.mp (by simpa using hl)
    have gl := good l List.mem_cons_self
    obtain ⟨x, x0, mx⟩ := some_value gl
    have hi := List.idxOf_lt_length_iff.mpr gl.1
    have v0 : Vals0 (dimM M) (fun i => if i = M.watches.idxOf l.1 + 1 then (x, 1) else (0, 1)) := ⟨by simp, fun i _ => by
      show 0 < (if i = _ then ((x, 1) : Int × Int) else (0, 1)).2
      split
      · show (0 : Int) < 1
        decide
      · decide, fun i _ => by
      show 0 ≤ (if i = _ then ((x, 1) : Int × Int) else (0, 1)).1
      split
      · exact x0
      · decide⟩
    refine ⟨_, v0, (lies_look v0 _ _ fun l' hl' => ?_).mpr ⟨lies_ev v0, fun l' hl' => ?_⟩⟩
    · obtain rfl : l' = _ := by simpa [lks] using hl'
      show M.watches.idxOf l.1 + 1 < dimM M
      unfold dimM; omega
    · obtain rfl : l' = _ := by simpa [lks] using hl'
      show meetsL _ (if M.watches.idxOf l.1 + 1 = M.watches.idxOf l.1 + 1 then _ else _) = true
      rw [if_pos rfl]; exact mx
theorem good_guard {W : List Str} {ls : List Lq} (h : ∀ l ∈ ls, GoodLk W l) : guardOk WORDS W ls = true ∧ SzL ls := by
  refine ⟨List.all_eq_true.mpr fun l hl => ?_, fun l hl => ?_⟩
  · obtain ⟨h1, h2, n, e, n1, _⟩ := h l hl
    unfold lookOk
    rw [decide_eq_true h1, decide_eq_true h2, e]
    show (true && true && decide (0 ≤ n)) = true
    rw [decide_eq_true (by omega)]; rfl
  · obtain ⟨h1, h2, n, e, n1, n2⟩ := h l hl
    rw [e]
    exact Sz.nn (j := 10 ^ 40) (by show 0 ≤ n; omega) n2 (by show (10 ^ 40 : Int).natAbs < 2 ^ 250; decide +kernel)
/-- the law's machine -/
def MW (W R : List Str) : MachD := ⟨W, R.map fun x => (x, []), [⟨R.headD "", R.getLastD "", "", [], [W.headD ""]⟩]⟩
theorem MW_names (W R : List Str) : (MW W R).rooms.map (·.1) = R := by
  show (R.map fun x => ((x, []) : Rq)).map (·.1) = _
  rw [List.map_map]; exact List.map_id _
theorem MW_sz (W R : List Str) : MSz (MW W R) := ⟨fun r hr => by
  obtain ⟨x, _, rfl⟩ := List.mem_map.mp hr
  exact fun l h => (by cases h), fun d hd => by
  obtain rfl : d = _ := by simpa [MW] using hd
  exact fun l h => (by cases h)⟩
theorem MW_ok {W R : List Str} (w1 : 1 ≤ W.length) (w7 : W.length ≤ 7) (wok : ∀ x ∈ W, okName x = true) (wnd : W.Nodup) (r1 : 1 ≤ R.length) (r60 : R.length ≤ 60) (rok : ∀ x ∈ R, okName x = true) (rnd : R.Nodup) : MachOk (MW W R) where
  w7 := w7
  wok := List.all_eq_true.mpr fun x hx => by show okWatch x = true; unfold okWatch; rw [wok x hx, Bool.or_true]
  wnd := wnd
  rok := List.all_eq_true.mpr fun r hr => by
    obtain ⟨x, hx, rfl⟩ := List.mem_map.mp hr
    unfold roomOk
    rw [okName_okT (rok x hx)]; rfl
  rnd := by rw [MW_names]; exact rnd
  rne := fun e => by
    have e : (R.map fun x => ((x, []) : Rq)) = [] := e
    have h2 := congrArg List.length e
    rw [List.length_map] at h2
    have : R.length = 0 := h2
    omega
  r64 := by show (R.map fun x => ((x, []) : Rq)).length ≤ 64; rw [List.length_map]; omega
  dok := List.all_eq_true.mpr fun d hd => by
    obtain rfl := List.mem_singleton.mp (show d ∈ [(⟨R.headD "", R.getLastD "", "", [], [W.headD ""]⟩ : DoorD)] from hd)
    rw [MW_names]
    unfold doorOk
    rw [Bool.and_eq_true, Bool.and_eq_true, Bool.and_eq_true, Bool.and_eq_true, Bool.and_eq_true]
    refine ⟨⟨⟨⟨⟨show okSign "" = true by decide +kernel, decide_eq_true ?_⟩, decide_eq_true ?_⟩, rfl⟩, ?_⟩, decide_eq_true (by simp)⟩
    · cases R with | nil => simp at r1 | cons x xs => simp
    · cases R with
      | nil => simp at r1
      | cons x xs =>
        show (x :: xs).getLastD "" ∈ _
        rw [List.getLastD_eq_getLast?, List.getLast?_eq_some_getLast (by simp)]
        exact List.getLast_mem _
    · show [W.headD ""].all _ = true
      cases W with
      | nil => simp at w1
      | cons x xs => show (decide (x ∈ x :: xs) && true) = true; simp
  d200 := by show [_].length ≤ 200; simp
  rsz := fun r hr => by
    obtain ⟨x, hx, rfl⟩ := List.mem_map.mp hr
    exact Nat.zero_le _
  dsz := fun d hd => by
    obtain rfl : d = _ := by simpa [MW] using hd
    exact Nat.zero_le _
mutual
theorem dp_keepS {K : PySem.W.Frag} {H H' : Hp} (s : Same H H') : ∀ (d : PyData) (v : V), Dp K H v d → Dp K H' v d
  | .none, _, h => by cases h; exact .non
  | .bool b, _, h => by cases h; exact .bl b
  | .int i, _, h => by cases h; exact .int i
  | .str x, _, h => by cases h; exact .str x
  | .list ds, _, h => by
    cases h with
    | lst hs ha => exact .lst (s.seq hs) (dpa_keepS s ds _ ha)
  | .tuple ds, _, h => by
    cases h with
    | tup hs ha =>
      refine .tup ?_ (dpa_keepS s ds _ ha)
      rcases hs with h | h
      · rcases h with h | ⟨o, h⟩
        · exact .inl (.inl (s _ _ h))
        · exact .inl (.inr ⟨o, s _ _ h⟩)
      · exact .inr h
theorem dpa_keepS {K : PySem.W.Frag} {H H' : Hp} (s : Same H H') : ∀ (ds : List PyData) (vs : List V), DpAll K H vs ds → DpAll K H' vs ds
  | [], _, h => by cases h; exact .nil
  | d :: ds, _, h => by
    cases h with
    | cons a b => exact .cons (dp_keepS s d _ a) (dpa_keepS s ds _ b)
end
/-- a thing with its data -/
def HasD (K : PySem.W.Frag) (k : Nat) (H : Hp) (v : V) : Prop := ∃ d, Dp K H v d ∧ d.canLay0 = true ∧ d.depth ≤ k
theorem HasD.keep {K : PySem.W.Frag} {k : Nat} {H H' : Hp} {v : V} (s : Same H H') (h : HasD K k H v) : HasD K k H' v := by
  obtain ⟨d, a, b⟩ := h
  exact ⟨d, dp_keepS s d v a, b⟩
theorem hasd_all {K : PySem.W.Frag} {k : Nat} {H : Hp} : ∀ (vs : List V), (∀ v ∈ vs, HasD K k H v) → ∃ ds, DpAll K H vs ds ∧ ds.length = vs.length ∧ ∀ d ∈ ds, d.canLay0 = true ∧ d.depth ≤ k
  | [], _ => ⟨[], .nil, rfl, fun d h => by cases h⟩
  | v :: vs, h => by
    obtain ⟨d, a, b, c⟩ := h v List.mem_cons_self
    obtain ⟨ds, e, f, g⟩ := hasd_all vs fun x hx => h x (List.mem_cons_of_mem _ hx)
    refine ⟨d :: ds, .cons a e, by simp [f], fun x hx => ?_⟩
    rcases List.mem_cons.mp hx with rfl | hx
    · exact ⟨b, c⟩
    · exact g x hx
theorem hasd_lst {K : PySem.W.Frag} {k : Nat} {H : Hp} {p : Addr} {vs : List V} (e : H p = some (.lst vs)) (h : ∀ v ∈ vs, HasD K k H v) : HasD K (k + 1) H (.ref p) := by
  obtain ⟨ds, a, _, c⟩ := hasd_all vs h
  exact ⟨.list ds, .lst (.of e) a, lay_listM c⟩
theorem hasd_tup {K : PySem.W.Frag} {k : Nat} {H : Hp} {p : Addr} {vs : List V} (e : H p = some (.tup vs)) (h : ∀ v ∈ vs, HasD K k H v) : HasD K (k + 1) H (.ref p) := by
  obtain ⟨ds, a, _, c⟩ := hasd_all vs h
  exact ⟨.tuple ds, .tup (sqt e) a, lay_tup c⟩
theorem hasd_str {K : PySem.W.Frag} {k : Nat} {H : Hp} {x : Str} (h : TxOk x) : HasD K k H (.str x) := ⟨_, .str x, h, Nat.zero_le _⟩
theorem hasd_int {K : PySem.W.Frag} {k : Nat} {H : Hp} {x : Int} : HasD K k H (.int x) := ⟨_, .int x, rfl, Nat.zero_le _⟩
/-! ### the words of the law -/
def wf64 (c : Int) (j : Nat) : Int := (c.fdiv (64 + 37 * (j : Int))).fmod 26
def word64 (c : Int) (k : Nat) : Str := txt (nmC (1 + c.fmod 8).toNat ((c.fdiv 8).fmod (1 + c.fmod 8)).toNat (wf64 c) ((c.fdiv 64 + (k : Int)).fmod 26))
theorem word_ok (c : Int) (k : Nat) : okName (word64 c k) = true := by
  have m8 := fm_pos (c := c) (m := 8) (by decide)
  exact nmC_ok (by omega) (by omega) (fun j => fm_pos (by decide)) (fm_pos (by decide))
theorem word_inj {c : Int} {k k' : Nat} (hk : k < 26) (hk' : k' < 26) (h : word64 c k = word64 c k') : k = k' := by
  have m8 := fm_pos (c := c) (m := 8) (by decide)
  have ma := fm_pos (c := c.fdiv 8) (m := 1 + c.fmod 8) (by omega)
  have e := nmC_inj (by omega) (fm_pos (by decide)) (fm_pos (by decide)) h
  rw [Int.fmod_eq_emod_of_nonneg _ (by decide), Int.fmod_eq_emod_of_nonneg _ (by decide)] at e
  omega
theorem words_nodup (c : Int) (n : Nat) (hn : n ≤ 26) : ((List.range n).map (word64 c)).Nodup := by
  unfold List.Nodup
  rw [List.pairwise_map]
  refine List.Pairwise.imp_of_mem (fun {a b} ha hb hne he => hne ?_) List.nodup_range
  exact word_inj (by have := List.mem_range.mp ha; omega) (by have := List.mem_range.mp hb; omega) he
theorem HasD.mono {K : PySem.W.Frag} {k m : Nat} {H : Hp} {v : V} (h : HasD K k H v) (l : k ≤ m) : HasD K m H v := by
  obtain ⟨d, a, b, c⟩ := h
  exact ⟨d, a, b, Nat.le_trans c l⟩
theorem set_l {H : Hp} {r : Addr} {xs : List V} {j : Nat} {v : V} {Q : Hp → Prop} (h : H r = some (.lst xs)) (hj : j < xs.length) (q : Q (upd H r (.lst (xs.set j v)))) : rSetL (.ref r) (.int (j : Int)) v H Q := by
  refine ⟨r, _, j, j, rfl, rfl, h, ?_, q⟩
  unfold ixN
  rw [if_pos (by omega), if_pos (by omega), Int.toNat_natCast]
theorem okWord_tx {x : Str} (h : x ∈ WORDS) : TxOk x := words_tx h (by decide +kernel)
theorem good_ok {W : List Str} (wtx : ∀ x ∈ W, TxOk x) {l : Lq} (h : GoodLk W l) : LqOk l := by
  obtain ⟨h1, h2, n, e, _⟩ := h
  exact ⟨wtx _ h1, okWord_tx h2, by rw [e]; rfl⟩
theorem mark_has {K : PySem.W.Frag} {H : Hp} {q : Addr} {g : Rq} {W R : List Str} (wtx : ∀ x ∈ W, TxOk x) (rtx : ∀ x ∈ R, TxOk x) (h : RqAt H q g) (h1 : g.1 ∈ R) (h2 : ∀ l ∈ g.2, GoodLk W l) : HasD K 4 H (.ref q) := by
  obtain ⟨p, e, hl⟩ := h
  exact ⟨rdat g, .tup (.of e) (.cons (.str _) (.cons (dp_ls hl) .nil)), lay_rdat ⟨rtx _ h1, fun l hl => good_ok wtx (h2 l hl)⟩⟩
theorem looks_has {K : PySem.W.Frag} {H : Hp} {p : Addr} {ls : List Lq} {W : List Str} (wtx : ∀ x ∈ W, TxOk x) (hl : LsAt H p ls) (h2 : ∀ l ∈ ls, GoodLk W l) : HasD K 3 H (.ref p) := ⟨_, dp_ls hl, lay_ldats fun l h => good_ok wtx (h2 l h)⟩
theorem list_eqv {ds : List PyData} : PyData.eqv (.list ds) (.list []) = decide (ds = []) := by
  cases ds with
  | nil => rfl
  | cons x xs => rfl
theorem shaped_of {d : PyData} {k : Nat} (h1 : d.canLay0 = true) (h2 : d.depth ≤ k) (h3 : k ≤ 60) : SeqAt.shaped d = true := Bool.and_eq_true_iff.mpr ⟨h1, decide_eq_true (by omega)⟩
theorem mw_mark {W R : List Str} {gs : List Rq} (h : ∀ g ∈ gs, g.1 ∈ R ∧ g.2.length ≤ 1 ∧ ∀ l ∈ g.2, GoodLk W l) : gs.all (markOk (MW W R)) = true ∧ ∀ g ∈ gs, g.2.length ≤ 60 ∧ SzL g.2 := by
  refine ⟨List.all_eq_true.mpr fun g hg => ?_, fun g hg => ⟨by have := (h g hg).2.1; omega, (good_guard (h g hg).2.2).2⟩⟩
  unfold markOk
  rw [MW_names, decide_eq_true (h g hg).1]
  exact (good_guard (h g hg).2.2).1
theorem mw_lets {W R : List Str} {gs : List Rq} (mok : MachOk (MW W R)) (h : ∀ g ∈ gs, g.1 ∈ R ∧ g.2.length ≤ 1 ∧ ∀ l ∈ g.2, GoodLk W l) : LetsP (MW W R) gs (R.map fun x => ((x, evM) : Str × Mx)) ↔ gs = [] := by
  rw [lets_ev mok (fun x hx => by obtain ⟨y, _, rfl⟩ := List.mem_map.mp hx; rfl) (fun r hr => by
    obtain ⟨y, hy, rfl⟩ := List.mem_map.mp hr
    exact List.mem_map.mpr ⟨y, hy, rfl⟩)]
  constructor
  · intro k
    cases gs with
    | nil => rfl
    | cons g gs =>
      have hg := h g List.mem_cons_self
      exact absurd (hit_ev (M := MW W R) List.mem_cons_self hg.2.1 hg.2.2) (k (g.1, []) (List.mem_map.mpr ⟨g.1, hg.1, rfl⟩))
  · rintro rfl r _ ⟨g, hg, _⟩
    cases hg
theorem ev_sz {s : Nat} (h : 1 ≤ s) : SzM s evM := fun i j v e => by
  unfold evM at e
  split at e
  · cases e; exact (show Sz 1 1 by unfold Sz; decide).mono h
  · cases e
theorem in_way {w : Int} (h : 0 ≤ w ∧ w < 5) : inV (.int w) [V.int 1, V.int 2] = decide (w = 1 ∨ w = 2) := by
  obtain rfl | rfl | rfl | rfl | rfl : w = 0 ∨ w = 1 ∨ w = 2 ∨ w = 3 ∨ w = 4 := by omega
  all_goals decide +kernel
theorem pe_revN {X : Cx} {e : Expr} {te : TE} {k : Nat} {p1 p2 p3 pos : PySem.Pos} (m : ∀ (σ : L2.St) (H : Hp) (Q R : VK), (∀ v H, Q v H → R v H) → te σ H Q → te σ H R) (he : PE X e te) : PE X (.Subscript e (.Slice none none (some (.UnaryOp .USub (.Constant (.int 1) k p1) p2)) p3) pos) (tRevN X.K te) :=
  pe_imp (pe_revL he) fun σ H Q q => m σ H _ _ (fun v H1 ⟨a, xs, e, h, q⟩ => ⟨a, xs, e, h, fun p hp => q p _ (upd_keep hp) hp upd_same⟩) q
/-! ### texts times ints; comprehensions over enumerate -/
def rMulS : R2 := fun x y H Q => ∃ i n, x = .str i ∧ y = .int n ∧ MulOk i n ∧ Q (.str (Txt.mul i n)) H
theorem op_mulS {X : Cx} : OpR X (binaryOp .Mult) rMulS := by
  intro pins s σ H x y v u Q I rx ry h
  obtain ⟨i, n, rfl, rfl, hok, q⟩ := h
  obtain ⟨t, rfl⟩ := rx
  obtain ⟨t', rfl⟩ := ry
  exact SB.mul hok (fun t' tk => ⟨.str _, H, I.tok _, ⟨_, rfl⟩, q⟩)
theorem pi_enumK {X : Cx} {K : PySem.W.Frag} {e : Expr} {ta : TA} {p pos tpos : PySem.Pos} {elts : List Expr} {kk : Nat} (h : X.K = K) (hg : Gl X "enumerate") (hm : X.mg "enumerate" = none) (ha : PA X [e] ta)
    (hs : starEach [e] X.env = [(false, eval e X.env)] := by rfl) :
    PI X (.Tuple elts kk tpos) (.Call (.Name "enumerate" p) [e] [] pos) (iEnum K (tWk ta)) := by subst h; exact pi_enum hg hm (pa_wk ha) hs
def LcE (K : PySem.W.Frag) (a : Addr) (g : TG) (tt : TT) (te : TE) (vs : List Nat) (σ : L2.St) (H1 : Hp) (Q : VK) : Prop := ∀ D, H1 D = none → ∃ W : Nat → Nat → Hp → Prop, (∃ m, W 0 m (upd H1 D (.lst []))) ∧ ∀ i m H, W i m H →
  ((Ite K a).stop i H ∧ Q (.ref D) H) ∨ ((Ite K a).go i H ∧ ∃ Nx : Hp → Prop, (∀ H', Nx H' → ∃ m', m' < m ∧ W (i + 1) m' H') ∧ ∀ x H', (Ite K a).yld i H x H' → g x (wipe σ vs) H' fun σ2 H2 => wipe σ2 vs = wipe σ vs ∧ tt σ2 H2 fun b H3 =>
    if b = true then te σ2 H3 fun y H4 => ∃ acc, H4 D = some (.lst acc) ∧ acc.length < sizeLine ∧ Nx (upd H4 D (.lst (acc ++ [y]))) else Nx H3)
theorem lce_src {K : PySem.W.Frag} {ta : TA} {g : TG} {tt : TT} {te : TE} {vs : List Nat} {σ : L2.St} {H : Hp} {Q : VK} (h : ta σ H fun us H1 => ∃ a, us = [.ref a] ∧ ∃ xs, SqL K H1 a xs ∧ LcE K a g tt te vs σ H1 Q) : tLc (iEnum K (tWk ta)) g tt te vs σ H Q :=
  ⟨_, h, fun _ _ ⟨a, e, xs, h1, h3⟩ => ⟨a, xs, e, h1, h3⟩⟩
/-- those of some texts that are chosen by their places -/
theorem lcE_fil {K : PySem.W.Frag} {a : Addr} {zs : List Str} {Pb : Nat → Bool} {g : TG} {tt : TT} {te : TE} {vs : List Nat} {σ : L2.St} {H : Hp} {Q : VK} (hx : H a = some (.lst (zs.map V.str))) (hn : zs.length ≤ 900)
    (ht : ∀ (i : Nat) (z : Str) (T : Addr) (H2 : Hp) (Yes : VK) (No : Hp → Prop), zs[i]? = some z → Same H H2 → H2 T = some (.tup [.int (i : Nat), .str z]) → (Pb i = true → ∀ H5, Same H2 H5 → Yes (.str z) H5) → (Pb i = false → ∀ H5, Same H2 H5 → No H5) →
      g (.ref T) (wipe σ vs) H2 fun σ2 H3 => wipe σ2 vs = wipe σ vs ∧ tt σ2 H3 fun b H4 => if b = true then te σ2 H4 Yes else No H4)
    (q : ∀ D H', Same H H' → H D = none → H' D = some (.lst (((List.range zs.length).filterMap fun k => if Pb k = true then zs[k]? else none).map V.str)) → Q (.ref D) H') : LcE K a g tt te vs σ H Q := fun D hD => by
  refine ⟨fun i m H' => m = zs.length - i ∧ i ≤ zs.length ∧ Same H H' ∧ H' D = some (.lst (((List.range i).filterMap fun k => if Pb k = true then zs[k]? else none).map V.str)), ⟨zs.length, rfl, Nat.zero_le _, upd_keep hD, upd_same⟩, ?_⟩
  rintro i m H' ⟨rfl, hi, sm, eD⟩
  have sq := sm _ _ hx
  by_cases c : i < zs.length
  · have h1 := List.getElem?_eq_getElem c
    have tk : (List.range (i + 1)).filterMap (fun k => if Pb k = true then zs[k]? else none) = (List.range i).filterMap (fun k => if Pb k = true then zs[k]? else none) ++ (if Pb i = true then [zs[i]] else []) := by
      rw [List.range_succ, List.filterMap_append]
      congr 1
      by_cases p : Pb i = true <;> simp [p, h1]
    have la : ((List.range i).filterMap fun k => if Pb k = true then zs[k]? else none).length ≤ 900 := Nat.le_trans (List.length_filterMap_le _ _) (by rw [List.length_range]; omega)
    refine .inr ⟨⟨zs.map V.str, _, .of sq, by rw [List.getElem?_map, h1]; rfl⟩, fun H2 => i + 1 ≤ zs.length ∧ Same H H2 ∧ H2 D = some (.lst (((List.range (i + 1)).filterMap fun k => if Pb k = true then zs[k]? else none).map V.str)), fun H2 ⟨p1, p2, p3⟩ => ⟨_, by omega, rfl, p1, p2, p3⟩, ?_⟩
    rintro v H2 ⟨T, x', rfl, fT, rfl, f1⟩
    have ex := f1 (zs.map V.str) (.of sq)
    rw [List.getElem?_map, h1] at ex
    obtain rfl : V.str zs[i] = x' := Option.some.inj ex
    have s2 : Same H' (upd H' T (.tup [.int (i : Nat), .str zs[i]])) := upd_keep fT
    refine ht i zs[i] T _ _ _ h1 (sm.trans s2) upd_same (fun p H5 s5 => ?_) (fun p H5 s5 => ?_)
    · refine ⟨_, s5 _ _ (s2 _ _ eD), by rw [List.length_map]; exact small1000 (by omega), c, same_updN hD (sm.trans (s2.trans s5)), ?_⟩
      rw [upd_same, tk, if_pos p, List.map_append]; rfl
    · refine ⟨c, sm.trans (s2.trans s5), ?_⟩
      rw [tk, if_neg (by rw [p]; exact Bool.false_ne_true), List.append_nil]
      exact s5 _ _ (s2 _ _ eD)
  · have e : i = zs.length := by omega
    subst e
    exact .inl ⟨⟨_, .of sq, by rw [List.length_map]; exact Nat.le_refl _⟩, q D H' sm hD eD⟩
/-- a copy of a zone's rows, behind the source's reading -/
theorem lcG_copy {K : PySem.W.Frag} {H : Hp} {p : Addr} {as : List Addr} {n : Nat} {M : Mx} {c : Nat} {σ : L2.St} {Q : VK} (z : ZAt H p as n M) (hn : n ≤ 60) (hc : c < σ.length)
    (q : ∀ D as' H', Same H H' → ZAt H' D as' n M → H D = none → (∀ a ∈ as', H a = none) → Q (.ref D) H') :
    LcG K p (gName c) tYes (tCB (rListN K) (tCons (tVar c) tNil)) [c] σ H Q := fun D hD => by
  refine lc_list (K := K) (a := p) (xs := as.map V.ref) (fun i H' => ∃ as' : List Addr, Same H H' ∧ H' D = some (.lst (as'.map V.ref)) ∧ as'.length = i ∧ as'.Nodup ∧ (∀ a ∈ as', H a = none ∧ a ≠ D) ∧ ∀ (j : Nat) (a : Addr), as'[j]? = some a → H' a = some (.lst (zrow n (M j))))
    ⟨[], upd_keep hD, upd_same, rfl, List.nodup_nil, (fun a h => by cases h), (fun j a h => by cases h)⟩ (fun i H' _ ⟨_, sm, _⟩ => .of (sm _ _ z.top)) ?_ ?_
  · rintro i x H' hi ⟨as', sm, eD, hl, nd, hf, hr⟩
    have hin : i < n := by
      have := (List.getElem?_eq_some_iff.mp hi).1
      rw [List.length_map, z.len] at this; exact this
    obtain ⟨r, er, er2, hr1⟩ := z.get hin
    obtain rfl : x = .ref r := Option.some.inj (hi.symm.trans er2)
    refine ⟨?_, .ref r, ?_, r, _, rfl, .inl (.of (sm _ _ hr1)), fun l H2 s2 fl e2 => ?_⟩
    · show ((σ.set c none).set c (some (.ref r))).set c none = σ.set c none
      rw [List.set_set, List.set_set]
    · show ((σ.set c none).set c (some (.ref r)))[c]? = some (some (.ref r))
      rw [List.getElem?_set_self (by rw [List.length_set]; exact hc)]
    have nD : l ≠ D := fun e => by rw [e, eD] at fl; cases fl
    have nl : l ∉ as' := fun hm => by
      obtain ⟨j, hj, e⟩ := List.mem_iff_getElem.mp hm
      have := hr j l (by rw [List.getElem?_eq_getElem hj, e])
      rw [fl] at this; cases this
    refine ⟨as'.map V.ref, s2 _ _ eD, by rw [List.length_map, hl]; exact small1000 (by omega), as' ++ [l], same_updN hD (sm.trans s2), ?_, by simp [hl], ?_, ?_, ?_⟩
    · rw [upd_same, List.map_append]; rfl
    · rw [List.nodup_append]
      refine ⟨nd, by simp, fun a ha b hb e => ?_⟩
      have : b = l := by simpa using hb
      exact nl (by rw [← this, ← e]; exact ha)
    · intro a ha
      rcases List.mem_append.mp ha with h | h
      · exact hf a h
      · have : a = l := by simpa using h
        subst this
        exact ⟨sm.free fl, nD⟩
    · intro j a hj
      by_cases c1 : j < as'.length
      · rw [List.getElem?_append_left c1] at hj
        rw [upd_ne (hf a (List.mem_of_getElem? hj)).2]
        exact s2 _ _ (hr j a hj)
      · have hlt := (List.getElem?_eq_some_iff.mp hj).1
        rw [List.length_append, List.length_singleton] at hlt
        obtain rfl : j = as'.length := by omega
        rw [List.getElem?_append_right (Nat.le_refl _), Nat.sub_self] at hj
        have : l = a := by simpa using hj
        subst this
        rw [upd_ne nD, hl]
        exact e2
  · rintro H' ⟨as', sm, eD, hl, nd, hf, hr⟩
    rw [List.length_map, z.len] at hl
    exact q D as' H' sm ⟨eD, hl, hr, nd⟩ hD fun a ha => (hf a ha).1
theorem fm_nodup {ws : List Str} (h : ws.Nodup) {n : Nat} {F : Nat → Option Str} (hF : ∀ k x, F k = some x → ws[k]? = some x) : ((List.range n).filterMap F).Nodup ∧ ∀ x ∈ (List.range n).filterMap F, x ∈ ws := by
  constructor
  · unfold List.Nodup
    rw [List.pairwise_filterMap]
    refine List.Pairwise.imp_of_mem (fun {a b} _ _ hne x hx y hy he => hne ?_) List.nodup_range
    have h1 := hF a x hx
    have h2 := hF b y hy
    rw [← he] at h2
    exact (List.getElem?_inj (List.getElem?_eq_some_iff.mp h1).1 h).mp (h1.trans h2.symm)
  · intro x hx
    obtain ⟨k, _, hk⟩ := List.mem_filterMap.mp hx
    exact List.mem_of_getElem? (hF k x hk)
def spNumber_of : Sp := fun vs H Q _ => ∃ b : Int, vs = [.int b] ∧ Q (.int (b / 2)) H
theorem ok_number_of (T : Top K mg) : FnOk P w K mg base CX0 1 T.f_number_of T.d_number_of ["bound"] spNumber_of := by
  refine T.F_number_of.ok sc_number_of (fun vs H Q E h => ?_) (fun cdv A outer s H vs Q E hr h => ?_)
  · obtain ⟨b, rfl, _⟩ := h; rfl
  · obtain ⟨b, rfl, q⟩ := h
    refine ⟨_, (pss_one (ps_ret (pe_op op_shr (pv 0) pe_int))), ?_⟩
    walk_at "rd"
    exact q
/-- the cells ahead of i, j are turned -/
def partM (N : Mx) (g : Nat → Option Int) (i j : Nat) : Mx := fun a b => if a < i ∨ (a = i ∧ b < j) then turnM N g a b else N a b
theorem part_here (N : Mx) (g : Nat → Option Int) (i j : Nat) : partM N g i j i j = N i j := if_neg (by omega)
theorem part_next (N : Mx) (g : Nat → Option Int) (i j : Nat) : up2 (partM N g i j) i j (turnM N g i j) = partM N g i (j + 1) := by
  funext a b
  unfold up2 partM
  by_cases c : a = i ∧ b = j
  · rw [if_pos c, if_pos (by omega), c.1, c.2]
  · rw [if_neg c]
    by_cases d : a < i ∨ (a = i ∧ b < j)
    · rw [if_pos d, if_pos (by omega)]
    · rw [if_neg d, if_neg (by omega)]
theorem part_same {N : Mx} {g : Nat → Option Int} {i j : Nat} (h : turnM N g i j = N i j) : partM N g i (j + 1) = partM N g i j := by
  rw [← part_next, h, ← part_here N g i j, up2_id]
theorem turn_sz {sz : Nat} {N : Mx} {ms : List (Option Int)} (hsz : 252 ≤ sz) (h : SzM sz N) (ok : MsOk ms) : SzM sz (turnM N (mostAt ms)) := fun i j v e => by
  unfold turnM at e
  split at e
  · exact h i j v e
  · cases hN : N i j with
    | none => rw [hN] at e; cases e
    | some x =>
      rw [hN] at e
      have k : ∀ w, turn2 x (mostAt ms j) = some w → Sz sz w := fun w e => by
        cases hj : mostAt ms j with
        | none => rw [hj] at e; cases e; exact h i j _ hN
        | some q =>
          rw [hj] at e
          have e : (if x / 2 < 0 - q then some (0 - 2 * q) else some x) = some w := e
          split at e
          · cases e
            have := (most_ok ok j q hj).2
            refine Sz.mono (a := 252) ?_ (by omega)
            unfold Sz at *; omega
          · cases e; exact h i j _ hN
      cases hi : mostAt ms i with
      | none => rw [hi] at e; exact k v e
      | some p =>
        rw [hi] at e
        have e : (if p < x / 2 then none else turn2 x (mostAt ms j)) = some v := e
        split at e
        · cases e
        · exact k v e
def FoInv (Hb : Hp) (pz pms D pg : Addr) (as : List Addr) (n : Nat) (N : Mx) (g : Nat → Option Int) (i j : Nat) (σ' : L2.St) (H' : Hp) : Prop := ∃ (v4 v5 v6 : Option V), σ' = [some (.ref pz), some (.ref pms), some (.ref D), some (.ref pg), v4, v5, v6] ∧ ZAt H' D as n (partM N g i j) ∧ ∀ b o, b ∉ as → Hb b = some o → H' b = some o
def FoInv2 (Hb : Hp) (pz pms D pg : Addr) (as : List Addr) (n : Nat) (N : Mx) (g : Nat → Option Int) (i j : Nat) (σ' : L2.St) (H' : Hp) : Prop := ∃ (v5 v6 : Option V), σ' = [some (.ref pz), some (.ref pms), some (.ref D), some (.ref pg), some (.int i), v5, v6] ∧ ZAt H' D as n (partM N g i j) ∧ ∀ b o, b ∉ as → Hb b = some o → H' b = some o
def spFolded (K : PySem.W.Frag) : Sp := fun vs H Q _ => ∃ (pz pms : Addr) (az : List Addr) (n : Nat) (N T : Mx) (ms : List (Option Int)), vs = [.ref pz, .ref pms] ∧ ZAt H pz az n N ∧ H pms = some (.lst (ms.map oV)) ∧ ms.length + 1 = n ∧ n ≤ 8 ∧ MsOk ms ∧ SzM 7000 T ∧
  (∀ i j, i < n → j < n → turnM N (mostAt ms) i j = T i j) ∧ (∀ i, i < n → ∃ d, nrw n T i i = some d ∧ 1 ≤ d) ∧
  ∀ (p : Addr) (as : List Addr) (H' : Hp), Same H H' → ZAt H' p as n (nrw n T) → H p = none → (∀ a ∈ as, H a = none) → Q (.ref p) H'
theorem ok_folded (T : Top K mg) : FnOk P w K mg base CX0 4 T.f_folded T.d_folded ["zone", "mosts"] (spFolded K) := by
  refine T.F_folded.ok sc_folded (fun vs H Q E h => ?_) (fun cdv A outer s H vs Q E hr h => ?_)
  · obtain ⟨pz, pms, az, n, N, T', ms, rfl, _⟩ := h; rfl
  · obtain ⟨pz, pms, az, n, N, T', ms, rfl, z, em, hn, hn8, ok, sT, hT, hpos, q⟩ := h
    refine ⟨_, (pss_cons (ps_set (i := 2) sc_folded.nd rfl (.inl rfl) (pe_call (ok_copied T) (hr.mono (by decide)) rfl T.g_copied T.F_copied.kp T.b_copied .nil pass0 (pa_cons (pv 0) pa_nil)))
      (pss_cons (ps_set (i := 3) sc_folded.nd rfl (.inl rfl) (pe_op op_catN (pe_lstN (pa_cons pe_int pa_nil)) (pv 1)))
      (pss_cons (ps_for PassesOwn.never rfl (pi_range1 (by rfl) T.m_range (pa_cons (pe_callB call_len_seq (by rfl) T.m_len (by decide +kernel) (pa_cons (pv 2) pa_nil)) pa_nil)) (pg_name (i := 4) sc_folded.nd rfl (.inl rfl)) (pss_one (ps_for PassesOwn.never rfl (pi_range1 (by rfl) T.m_range (pa_cons (pe_callB call_len_seq (by rfl) T.m_len (by decide +kernel) (pa_cons (pv 2) pa_nil)) pa_nil)) (pg_name (i := 5) sc_folded.nd rfl (.inl rfl)) (pss_cons (ps_set (i := 6) sc_folded.nd rfl (.inl rfl) (pe_ix (ix_listA (K := K) rfl) (pe_ix (ix_listA (K := K) rfl) (pv 2) (pv 4) (fun _ _ => rfl)) (pv 5) (fun _ _ => rfl)))
      (pss_cons (ps_if (PW.pt (pw_or (pt_cmpR op_isN (pv 6) pe_non (nomark _)) (pw_or1 (pt_cmpR op_eq (pv 4) (pv 5) (nomark _))))) (pss_one ps_continue) pss_nil)
      (pss_one (ps_if (PW.pt (pw_and (pt_cmpR op_notN (pe_ix (ix_listA (K := K) rfl) (pv 3) (pv 4) (fun _ _ => rfl)) pe_non (nomark _)) (pw_and1 (pt_cmpR op_gt (pe_call (ok_number_of T) (hr.mono (by decide)) rfl T.g_number_of T.F_number_of.kp T.b_number_of .nil pass0 (pa_cons (pv 6) pa_nil)) (pe_ix (ix_listA (K := K) rfl) (pv 3) (pv 4) (fun _ _ => rfl)) (nomark _))))) (pss_one (ps_asg pe_non (pg_sub (pe_ix (ix_listA (K := K) rfl) (pv 2) (pv 4) (fun _ _ => rfl)) (pv 5) set_list))) (pss_one (ps_if (PW.pt (pw_and (pt_cmpR op_notN (pe_ix (ix_listA (K := K) rfl) (pv 3) (pv 5) (fun _ _ => rfl)) pe_non (nomark _)) (pw_and1 (pt_cmpR op_lt (pe_call (ok_number_of T) (hr.mono (by decide)) rfl T.g_number_of T.F_number_of.kp T.b_number_of .nil pass0 (pa_cons (pv 6) pa_nil)) (pe_op op_sub pe_int (pe_ix (ix_listA (K := K) rfl) (pv 3) (pv 5) (fun _ _ => rfl))) (nomark _))))) (pss_one (ps_asg (pe_call (ok_below T) (hr.mono (by decide)) rfl T.g_below T.F_below.kp T.b_below .nil pass0 (pa_cons (pe_op op_sub pe_int (pe_ix (ix_listA (K := K) rfl) (pv 3) (pv 5) (fun _ _ => rfl))) pa_nil)) (pg_sub (pe_ix (ix_listA (K := K) rfl) (pv 2) (pv 4) (fun _ _ => rfl)) (pv 5) set_list))) pss_nil)))))))))
      (pss_one (ps_ret (pe_call (ok_narrowest T) (hr.mono (by decide)) rfl T.g_narrowest T.F_narrowest.kp T.b_narrowest .nil pass0 (pa_cons (pv 2) pa_nil))))))), ?_⟩
    refine seq_step ?_
    walk_at "rd"
    refine ⟨pz, az, n, N, rfl, z, by omega, fun D as H1 s1 z1 fD fas => ?_⟩
    refine seq_step ?_
    walk_at "rd"
    intro p1 H2 s2 _ e2
    refine ⟨_, e2, _, (s1.trans s2) _ _ em, small1000' (by simp; omega), fun pg H3 s3 fg e3 => ?_⟩
    have eG : H3 pg = some (.lst ((some 0 :: ms).map oV)) := e3
    have z3 := z1.keep (s2.trans s3)
    have ng : pg ∉ as := fun hm => by
      obtain ⟨j, hj, e⟩ := List.mem_iff_getElem.mp hm
      have h := (z1.keep s2).row j pg (by rw [List.getElem?_eq_getElem hj, e])
      rw [fg] at h; cases h
    have sH : ∀ H', (∀ b o, b ∉ as → H3 b = some o → H' b = some o) → Same H H' := fun H' kp b o e => kp b o (fun hb => by rw [fas b hb] at e; cases e) (s3 _ _ (s2 _ _ (s1 _ _ e)))
    refine seq_step ?_
    refine for_rg ?_
    walk_at "rd"
    refine ⟨_, .inl (.of z3.top), ?_⟩
    rw [List.length_map, z3.len]
    refine ⟨by omega, by omega, ?_⟩
    rw [Int.toNat_natCast]
    refine forR_by (FoInv H3 pz pms D pg as n N (mostAt ms) · 0) ⟨_, _, _, rfl, z3.to fun a b _ _ => (if_neg (by omega)).symm, fun _ _ _ e => e⟩ ?_ ?_
    · rintro i σ' H4 hi ⟨v4, v5, v6, rfl, z4, kp⟩
      walk_at "rd"
      refine for_rg ?_
      walk_at "rd"
      refine ⟨_, .inl (.of z4.top), ?_⟩
      rw [List.length_map, z4.len]
      refine ⟨by omega, by omega, ?_⟩
      rw [Int.toNat_natCast]
      refine forR_by (FoInv2 H3 pz pms D pg as n N (mostAt ms) i) ⟨_, _, rfl, z4, kp⟩ ?_ ?_
      · rintro j σ' H5 hj ⟨v5, v6, rfl, z5, kp5⟩
        have eG5 := kp5 _ _ ng eG
        walk_at "rd"
        refine seq_step ?_
        walk_at "rd"
        refine ix_top z5 hi fun r er hr1 => ?_
        refine ix_row hr1 hj ?_
        rw [part_here]
        refine seq_step ?_
        have stay : turnM N (mostAt ms) i j = N i j → ZAt H5 D as n (partM N (mostAt ms) i (j + 1)) := fun h => by rw [part_same h]; exact z5
        have put : ∀ w, turnM N (mostAt ms) i j = w → ZAt (upd H5 r (.lst ((zrow n (partM N (mostAt ms) i j i)).set j (oV w)))) D as n (partM N (mostAt ms) i (j + 1)) := fun w h => by
          rw [← part_next, h]; exact z5.set w er
        have kput : ∀ o b x, b ∉ as → H3 b = some x → (upd H5 r o) b = some x := fun o b x hb e => by
          rw [upd_ne (fun z => hb (by rw [z]; exact List.mem_of_getElem? er))]; exact kp5 b x hb e
        have tm : i ≠ j → turnM N (mostAt ms) i j = turnO (N i j) (mostAt ms i) (mostAt ms j) := fun h => by unfold turnM; rw [if_neg h]
        have hG : ∀ k, k < n → ∀ (Q1 : VK), Q1 (oV (mostAt ms k)) H5 → rIxL K (.ref pg) (.int (k : Int)) H5 Q1 := fun k hk Q1 h =>
          ix_l (.of eG5) (by omega) (by rw [Int.toNat_natCast]; exact most_get (by omega)) h
        cases hN : N i j with
        | none =>
          simp only [oV_none]
          walk_at "rd"
          refine ⟨_, _, rfl, stay ?_, kp5⟩
          by_cases c : i = j
          · unfold turnM; rw [if_pos c]
          · rw [tm c, hN]; rfl
        | some x =>
          simp only [oV_some]
          walk_at "rd"
          refine ite_d (fun c => ?_) (fun c => ?_)
          · exact ⟨_, _, rfl, stay (by unfold turnM; rw [if_pos (by omega)]), kp5⟩
          have hij : i ≠ j := fun z => c (by rw [z])
          have t0 := tm hij
          rw [hN] at t0
          refine hG i hi _ ?_
          cases hi1 : mostAt ms i with
          | none =>
            simp only [oV_none]
            walk_at "rd"
            have t1 : turnM N (mostAt ms) i j = turn2 x (mostAt ms j) := by rw [t0, hi1]; rfl
            refine hG j hj _ ?_
            cases hj1 : mostAt ms j with
            | none =>
              simp only [oV_none]
              walk_at "rd"
              exact ⟨_, _, rfl, stay (by rw [t1, hj1, hN]; rfl), kp5⟩
            | some p2 =>
              have sz2 := (most_ok ok j p2 hj1).2
              simp only [oV_some]
              walk_at "rd"
              refine ⟨x, rfl, ?_⟩
              refine hG j hj _ ?_
              rw [hj1]
              simp only [oV_some]
              walk_at "rd"
              refine ite_d (fun c2 => ?_) (fun c2 => ?_)
              · refine hG j hj _ ?_
                rw [hj1]
                simp only [oV_some]
                walk_at "rd"
                refine ⟨_, rfl, (show Sz 10000 (0 - p2) from Sz.le (j := p2) (by omega) (sz2.mono (by omega))), ?_⟩
                refine ix_top z5 hi fun r' er' hr' => ?_
                obtain rfl : r = r' := Option.some.inj (er.symm.trans er')
                refine set_at (K := K) (x := some (2 * (0 - p2))) hr1 hj ?_
                exact ⟨_, _, rfl, put (some (2 * (0 - p2))) (by rw [t1, hj1]; show (if x / 2 < 0 - p2 then some (0 - 2 * p2) else some x) = _; rw [if_pos c2]; congr 1; omega), kput _⟩
              · exact ⟨_, _, rfl, stay (by rw [t1, hj1, hN]; show (if x / 2 < 0 - p2 then some (0 - 2 * p2) else some x) = _; rw [if_neg c2]), kp5⟩
          | some p =>
            simp only [oV_some]
            walk_at "rd"
            refine ⟨x, rfl, ?_⟩
            refine hG i hi _ ?_
            rw [hi1]
            simp only [oV_some]
            walk_at "rd"
            have t2 : turnM N (mostAt ms) i j = if p < x / 2 then none else turn2 x (mostAt ms j) := by rw [t0, hi1]; rfl
            refine ite_d (fun c1 => ?_) (fun c1 => ?_)
            · refine ix_top z5 hi fun r' er' hr' => ?_
              obtain rfl : r = r' := Option.some.inj (er.symm.trans er')
              refine set_at (K := K) (x := none) hr1 hj ?_
              exact ⟨_, _, rfl, put none (by rw [t2, if_pos c1]), kput _⟩
            have t1 : turnM N (mostAt ms) i j = turn2 x (mostAt ms j) := by rw [t2, if_neg c1]
            refine hG j hj _ ?_
            cases hj1 : mostAt ms j with
            | none =>
              simp only [oV_none]
              walk_at "rd"
              exact ⟨_, _, rfl, stay (by rw [t1, hj1, hN]; rfl), kp5⟩
            | some p2 =>
              have sz2 := (most_ok ok j p2 hj1).2
              simp only [oV_some]
              walk_at "rd"
              refine ⟨x, rfl, ?_⟩
              refine hG j hj _ ?_
              rw [hj1]
              simp only [oV_some]
              walk_at "rd"
              refine ite_d (fun c2 => ?_) (fun c2 => ?_)
              · refine hG j hj _ ?_
                rw [hj1]
                simp only [oV_some]
                walk_at "rd"
                refine ⟨_, rfl, (show Sz 10000 (0 - p2) from Sz.le (j := p2) (by omega) (sz2.mono (by omega))), ?_⟩
                refine ix_top z5 hi fun r' er' hr' => ?_
                obtain rfl : r = r' := Option.some.inj (er.symm.trans er')
                refine set_at (K := K) (x := some (2 * (0 - p2))) hr1 hj ?_
                exact ⟨_, _, rfl, put (some (2 * (0 - p2))) (by rw [t1, hj1]; show (if x / 2 < 0 - p2 then some (0 - 2 * p2) else some x) = _; rw [if_pos c2]; congr 1; omega), kput _⟩
              · exact ⟨_, _, rfl, stay (by rw [t1, hj1, hN]; show (if x / 2 < 0 - p2 then some (0 - 2 * p2) else some x) = _; rw [if_neg c2]), kp5⟩
      · rintro σ' H5 ⟨v5, v6, rfl, z5, kp5⟩
        walk_at "rd"
        refine ⟨_, _, _, rfl, z5.to fun a b ha hb => ?_, kp5⟩
        unfold partM
        by_cases d : a < i ∨ (a = i ∧ b < n)
        · rw [if_pos d, if_pos (by omega)]
        · rw [if_neg d, if_neg (by omega)]
    · rintro σ' H4 ⟨v4, v5, v6, rfl, z4, kp⟩
      walk_at "rd"
      have zt : ZAt H4 D as n T' := z4.to fun a b ha hb => (if_pos (by omega)).trans (hT a b ha hb)
      have cub := cube_le (n := n) hn8
      refine ⟨D, as, n, _, 7000, rfl, zt, by omega, by omega, sT, by omega, fun ⟨i, d, hi, e, h⟩ => ?_, fun _ p' as' H5 s5 z6 fp' fa' => ?_⟩
      · obtain ⟨d', e', h'⟩ := hpos i hi
        rw [e] at e'; cases e'; omega
      · exact q p' as' H5 ((sH H4 kp).trans s5) z6 ((sH H4 kp).free fp') fun a ha => (sH H4 kp).free (fa' a ha)
/-- the first j cells of row p are turned -/
def cellsM (p : Nat) (N T : Mx) (j : Nat) : Mx := fun a b => if a = p ∧ b < j then T a b else N a b
def spFreed (K : PySem.W.Frag) : Sp := fun vs H Q _ => ∃ (pz : Addr) (az : List Addr) (n p : Nat) (N : Mx), vs = [.ref pz, .int p] ∧ ZAt H pz az n N ∧ p < n ∧ n ≤ 8 ∧ ∀ (q : Addr) (as : List Addr) (H' : Hp), Same H H' → H q = none → (∀ a ∈ as, H a = none) → ZAt H' q as n (freeM p N) → Q (.ref q) H'
theorem ok_freed (T : Top K mg) : FnOk P w K mg base CX0 2 T.f_freed T.d_freed ["zone", "place"] (spFreed K) := by
  refine T.F_freed.ok sc_freed (fun vs H Q E h => ?_) (fun cdv A outer s H vs Q E hr h => ?_)
  · obtain ⟨pz, az, n, p, N, rfl, _⟩ := h; rfl
  · obtain ⟨pz, az, n, p, N, rfl, z, hp, hn, q⟩ := h
    refine ⟨_, (pss_cons (ps_set (i := 2) sc_freed.nd rfl (.inl rfl) (pe_call (ok_copied T) (hr.mono (by decide)) rfl T.g_copied T.F_copied.kp T.b_copied .nil pass0 (pa_cons (pv 0) pa_nil)))
      (pss_cons (ps_for PassesOwn.never rfl (pi_range1 (by rfl) T.m_range (pa_cons (pe_callB call_len_seq (by rfl) T.m_len (by decide +kernel) (pa_cons (pv 2) pa_nil)) pa_nil)) (pg_name (i := 3) sc_freed.nd rfl (.inl rfl)) (pss_one (ps_if (pt_cmpR op_ne (pv 3) (pv 1) (nomark _)) (pss_one (ps_asg pe_non (pg_sub (pe_ix (ix_listA (K := K) rfl) (pv 2) (pv 1) (fun _ _ => rfl)) (pv 3) set_list))) pss_nil)))
      (pss_one (ps_ret (pv 2))))), ?_⟩
    refine seq_step ?_
    walk_at "rd"
    refine ⟨pz, az, n, N, rfl, z, by omega, fun D as H1 s1 z1 fD ff => ?_⟩
    refine seq_step ?_
    refine for_rg ?_
    walk_at "rd"
    refine ⟨_, .inl (.of z1.top), ?_⟩
    rw [List.length_map, z1.len]
    refine ⟨by omega, by omega, ?_⟩
    rw [Int.toNat_natCast]
    refine forR_by (fun j σ' H' => ∃ v3, σ' = [some (.ref pz), some (.int p), some (.ref D), v3] ∧ ZAt H' D as n (cellsM p N (freeM p N) j) ∧ ∀ b o, b ∉ as → H1 b = some o → H' b = some o) ⟨_, rfl, z1.to fun a b _ _ => (if_neg (by omega)).symm, fun _ _ _ e => e⟩ ?_ ?_
    · rintro j σ' H3 hj ⟨v3, rfl, zM, kp⟩
      walk_at "rd"
      by_cases c : (j : Int) = (p : Int)
      · rw [decide_eq_true c]
        walk_at "rd"
        refine ⟨zM.to fun a b ha hb => ?_, kp⟩
        unfold cellsM freeM
        repeat' split
        all_goals first | rfl | (exfalso; omega)
      · rw [decide_eq_false c]
        walk_at "rd"
        refine ix_top zM hp fun r er hr1 => ?_
        refine set_at (K := K) (x := none) (j := j) hr1 hj ?_
        refine ⟨(zM.set (j := j) none er).to fun a b ha hb => ?_, kp_upd er kp⟩
        unfold up2 cellsM freeM
        repeat' split
        all_goals first | rfl | (exfalso; omega)
    · rintro σ' H3 ⟨v3, rfl, zM, kp⟩
      walk_at "rd"
      refine q D as H3 (fun b o e => kp b o (fun hb => by rw [ff b hb] at e; cases e) (s1 _ _ e)) fD ff (zM.to fun a b ha hb => ?_)
      unfold cellsM
      by_cases c : a = p
      · rw [if_pos ⟨c, hb⟩]
      · rw [if_neg (by omega)]
        unfold freeM
        rw [if_neg (by omega)]
def spCell_at (K : PySem.W.Frag) : Sp := fun vs H Q _ => ∃ (a : Addr) (ns : List Int) (k : Int), vs = [.ref a, .int k] ∧ SqL K H a (ns.map V.int) ∧ 0 ≤ k ∧ Q (.int (ns.getD k.toNat 0)) H
theorem ok_l_cell_at (T : Top K mg) : FnOk P w K mg base CX0 1 T.f_l_cell_at T.d_l_cell_at ["_law_script", "_law_k"] (spCell_at K) := by
  refine T.F_l_cell_at.ok sc_l_cell_at (fun vs H Q E h => ?_) (fun cdv A outer s H vs Q E hr h => ?_)
  · obtain ⟨a, ns, k, rfl, _⟩ := h; rfl
  · obtain ⟨a, ns, k, rfl, hS, hk, q⟩ := h
    refine ⟨_, (pss_cons (ps_if (pt_cmpR op_lt (pv 1) (pe_callB call_len_seq (by rfl) T.m_len (by decide +kernel) (pa_cons (pv 0) pa_nil)) (nomark _)) (pss_one (ps_ret (pe_ix (ix_listA (K := K) rfl) (pv 0) (pv 1) (fun _ _ => rfl)))) pss_nil)
      (pss_one (ps_ret pe_int))), ?_⟩
    refine seq_step ?_
    walk_at "rd"
    refine ⟨_, .inl hS, ite_d (fun c => ?_) (fun c => ?_)⟩
    · rw [List.length_map] at c
      have hl : k.toNat < ns.length := by omega
      refine ⟨a, _, k, .int (ns[k.toNat]), rfl, rfl, hS, at_of (j := k.toNat) (by omega) (by rw [List.getElem?_map, List.getElem?_eq_getElem hl]; rfl), ?_⟩
      rw [List.getD_eq_getElem?_getD, List.getElem?_eq_getElem hl] at q
      exact q
    · rw [List.length_map] at c
      rw [List.getD_eq_getElem?_getD, List.getElem?_eq_none (by omega)] at q
      exact q
def spStream (K : PySem.W.Frag) : Sp := fun vs H Q _ => ∃ (c : Int) (m : Nat), vs = [.int c, .int m] ∧ m ≤ 60 ∧ ∀ (p : Addr) (H' : Hp) (xs : List Int), Same H H' → H p = none → H' p = some (.lst (xs.map V.int)) → xs.length = m → (∀ x ∈ xs, 0 ≤ x ∧ Sz 150 x) → Q (.ref p) H'
theorem ok_l_stream (T : Top K mg) : FnOk P w K mg base CX0 1 T.f_l_stream T.d_l_stream ["_law_cell", "_law_many"] (spStream K) := by
  refine T.F_l_stream.ok sc_l_stream (fun vs H Q E h => ?_) (fun cdv A outer s H vs Q E hr h => ?_)
  · obtain ⟨c, m, rfl, _⟩ := h; rfl
  · obtain ⟨c, m, rfl, hm, q⟩ := h
    refine ⟨_, (pss_cons (ps_set (i := 2) sc_l_stream.nd rfl (.inl rfl) (pe_lstN pa_nil))
      (pss_cons (ps_if (pt_cmpR op_ge (pv 0) (pe_op op_pow pe_int pe_int) (nomark _)) (pss_cons (ps_set (i := 3) sc_l_stream.nd rfl (.inl rfl) (pe_op op_sub (pv 0) (pe_op op_pow pe_int pe_int)))
      (pss_cons (ps_for PassesOwn.never rfl (pi_range1 (by rfl) T.m_range (pa_cons (pv 1) pa_nil)) (pg_name (i := 4) sc_l_stream.nd rfl (.inl rfl)) (pss_cons (ps_expr (pe_bm PySem.F.plainAttrs_list PySem.F.slot_list_append PySem.F.type_list_append mt_append (pv 2) (pa_cons (pe_op op_modN (pv 3) (pe_op op_pow pe_int pe_int)) pa_nil)))
      (pss_one (ps_set (i := 3) sc_l_stream.nd rfl (.inl rfl) (pe_op op_fdivZ (pv 3) (pe_op op_pow pe_int pe_int))))))
      (pss_one (ps_ret (pv 2))))) pss_nil)
      (pss_cons (ps_set (i := 5) sc_l_stream.nd rfl (.inl rfl) (pe_op op_add (pe_op op_modN (pv 0) (pe_op op_add (pe_op op_pow pe_int pe_int) pe_int)) pe_int))
      (pss_cons (ps_for PassesOwn.never rfl (pi_range1 (by rfl) T.m_range (pa_cons (pe_op op_add (pv 1) pe_int) pa_nil)) (pg_name (i := 4) sc_l_stream.nd rfl (.inl rfl)) (pss_cons (ps_set (i := 5) sc_l_stream.nd rfl (.inl rfl) (pe_op op_modN (pe_op op_add (pe_op op_add (pe_op op_mulW (pv 5) (pv 5)) (pe_op op_mulW pe_int (pv 5))) (pv 4)) (pe_op op_add (pe_op op_pow pe_int pe_int) pe_int)))
      (pss_one (ps_expr (pe_bm PySem.F.plainAttrs_list PySem.F.slot_list_append PySem.F.type_list_append mt_append (pv 2) (pa_cons (pv 5) pa_nil))))))
      (pss_one (ps_ret (pe_slice (sl_listA (K := K) rfl) (pv 2) (po_some pe_int) po_none))))))), ?_⟩
    refine seq_step ?_
    walk_at "rd"
    intro l H1 s1 fl e1
    refine seq_step ?_
    walk_at "rd"
    refine ite_d (fun _ => ?_) (fun _ => ?_)
    · refine seq_step ?_
      walk_at "rd"
      refine seq_step ?_
      refine for_rg ?_
      walk_at "rd"
      refine ⟨(rg_ok (by omega)).1, (rg_ok (by omega)).2, ?_⟩
      rw [Int.toNat_natCast]
      refine forR_by (fun i σ' H' => ∃ (r : Int) (v4 : Option V) (xs : List Int), σ' = [some (.int c), some (.int m), some (.ref l), some (.int r), v4, none] ∧ Same H H' ∧ H' l = some (.lst (xs.map V.int)) ∧ xs.length = i ∧ ∀ x ∈ xs, 0 ≤ x ∧ Sz 150 x) ⟨_, _, [], rfl, s1, e1, rfl, fun x h => by cases h⟩ ?_ ?_
      · rintro i σ' H2 hi ⟨r, v4, xs, rfl, s2, el, hl, hx⟩
        walk_at "rd"
        refine seq_step ?_
        refine ⟨.ref l, rfl, .inl ⟨rfl, _, .of el⟩, ?_⟩
        walk_at "rd"
        refine app_at el (by rw [List.length_map]; omega) ?_
        walk_at "rd"
        have f := fm_pos (c := r) (m := 1000000000000000000000000000000000000000000000) (by decide)
        refine ⟨same_updN fl s2, xs ++ [r.fmod 1000000000000000000000000000000000000000000000], by rw [upd_same, List.map_append]; rfl, by simp [hl], fun x hx' => ?_⟩
        rcases List.mem_append.mp hx' with h | h
        · exact hx x h
        · have : x = r.fmod 1000000000000000000000000000000000000000000000 := by simpa using h
          rw [this]
          exact ⟨f.1, Sz.nn f.1 (Int.le_of_lt f.2) (by unfold Sz; decide +kernel)⟩
      · rintro σ' H2 ⟨r, v4, xs, rfl, s2, el, hl, hx⟩
        walk_at "rd"
        exact q l H2 xs s2 fl el hl hx
    · refine seq_step ?_
      walk_at "rd"
      have f0 := fm_pos (c := c) (m := 1000000000000000009) (by decide)
      refine seq_step ?_
      refine for_rg ?_
      walk_at "rd"
      refine ⟨by omega, by omega, ?_⟩
      rw [show ((m : Int) + 2).toNat = m + 2 by omega]
      refine forR_by (fun i σ' H' => ∃ (r : Int) (v4 : Option V) (xs : List Int), σ' = [some (.int c), some (.int m), some (.ref l), none, v4, some (.int r)] ∧ 0 ≤ r ∧ Sz 62 r ∧ Same H H' ∧ H' l = some (.lst (xs.map V.int)) ∧ xs.length = i ∧ ∀ x ∈ xs, 0 ≤ x ∧ Sz 150 x) ⟨_, _, [], rfl, by omega, by unfold Sz; omega, s1, e1, rfl, fun x h => by cases h⟩ ?_ ?_
      · rintro i σ' H2 hi ⟨r, v4, xs, rfl, r0, sr, s2, el, hl, hx⟩
        walk_at "rd"
        refine seq_step ?_
        walk_at "rd"
        refine ⟨sr.mulW sr (by omega), Sz.mulW (a := 20) (by unfold Sz; decide) sr (by omega), ?_⟩
        have f := fm_pos (c := r * r + 48271 * r + i) (m := 1000000000000000009) (by decide)
        generalize (r * r + 48271 * r + i).fmod 1000000000000000009 = r2 at *
        refine ⟨.ref l, rfl, .inl ⟨rfl, _, .of el⟩, ?_⟩
        walk_at "rd"
        refine app_at el (by rw [List.length_map]; omega) ?_
        walk_at "rd"
        refine ⟨f.1, by unfold Sz; omega, same_updN fl s2, xs ++ [r2], by rw [upd_same, List.map_append]; rfl, by simp [hl], fun x hx' => ?_⟩
        rcases List.mem_append.mp hx' with h | h
        · exact hx x h
        · have : x = r2 := by simpa using h
          rw [this]
          exact ⟨f.1, by unfold Sz; omega⟩
      · rintro σ' H2 ⟨r, v4, xs, rfl, r0, sr, s2, el, hl, hx⟩
        walk_at "rd"
        refine ⟨_, .of el, fun p2 H3 s3 f3 e3 => ?_⟩
        have ec : cutV (xs.map V.int) (some 2) none = (xs.drop 2).map V.int := by
          rw [List.map_drop]
          exact cut_from (k := 2) (by rw [List.length_map]; omega)
        rw [ec] at e3
        exact q p2 H3 (xs.drop 2) (s2.trans s3) (s2.free f3) e3 (by rw [List.length_drop]; omega) fun x h => hx x (List.mem_of_mem_drop h)
def spLooks61 : Sp := fun vs H Q _ => ∃ (px pw pws : Addr) (xs : List Int) (m : Nat) (W ws : List Str) (unit : Int), vs = [.ref px, .int m, .ref pw, .int unit, .ref pws] ∧ H px = some (.lst (xs.map V.int)) ∧ (∀ x ∈ xs, 0 ≤ x ∧ Sz 150 x) ∧ 3 * m ≤ xs.length ∧ m ≤ 2 ∧ H pw = some (.lst (W.map V.str)) ∧ (∀ x ∈ W, TxOk x) ∧ W.length ≤ 7 ∧ H pws = some (.lst (ws.map V.str)) ∧ 1 ≤ ws.length ∧ ws.length ≤ 5 ∧ 1 ≤ unit ∧ unit ≤ 10 ^ 12 ∧
  ∀ (q : Addr) (H' : Hp) (ls : List Lq), Same H H' → H q = none → LsAt (newH H H') q ls → ls.length ≤ 2 → guardOk ws W ls = true → SzL ls → Q (.ref q) H'
theorem ok_l_looks (T : Top K mg) : FnOk P w K mg base CX0 1 T.f_l_looks T.d_l_looks ["_law_xs", "_law_many", "_law_watches", "_law_unit", "_law_words"] spLooks61 := by
  refine T.F_l_looks.ok sc_l_looks (fun vs H Q E h => ?_) (fun cdv A outer s H vs Q E hr h => ?_)
  · obtain ⟨px, pw, pws, xs, m, W, ws, unit, rfl, _⟩ := h; rfl
  · obtain ⟨px, pw, pws, xs, m, W, ws, unit, rfl, hx, xok, xl, hm, hw, wtx, w7, hws, ws1, ws5, u1, u2, q⟩ := h
    refine ⟨_, (pss_cons (ps_set (i := 5) sc_l_looks.nd rfl (.inl rfl) (pe_lstN pa_nil))
      (pss_cons (ps_for PassesOwn.never rfl (pi_range1 (by rfl) T.m_range (pa_cons (pv 1) pa_nil)) (pg_name (i := 6) sc_l_looks.nd rfl (.inl rfl)) (pss_one (ps_if (pt_cmpR (op_neD hr.units) (pv 2) (pe_lstN pa_nil) (nomark _)) (pss_cons (ps_set (i := 7) sc_l_looks.nd rfl (.inl rfl) (pe_op op_add (pe_op op_mulW (pv 3) (pe_op op_modN (pe_ix (ix_listA (K := K) rfl) (pv 0) (pe_op op_mulW pe_int (pv 6)) (fun _ _ => rfl)) pe_int)) (pe_op op_modN (pe_op op_fdivZ (pe_ix (ix_listA (K := K) rfl) (pv 0) (pe_op op_mulW pe_int (pv 6)) (fun _ _ => rfl)) pe_int) pe_int)))
      (pss_one (ps_expr (pe_bm PySem.F.plainAttrs_list PySem.F.slot_list_append PySem.F.type_list_append mt_append (pv 5) (pa_cons (pe_tupN (pa_cons (pe_ix (ix_listA (K := K) rfl) (pv 2) (pe_op op_modN (pe_ix (ix_listA (K := K) rfl) (pv 0) (pe_op op_add (pe_op op_mulW pe_int (pv 6)) pe_int) (fun _ _ => rfl)) (pe_callB call_len_seq (by rfl) T.m_len (by decide +kernel) (pa_cons (pv 2) pa_nil))) (fun _ _ => rfl)) (pa_cons (pe_ix (ix_listA (K := K) rfl) (pv 4) (pe_op op_modN (pe_ix (ix_listA (K := K) rfl) (pv 0) (pe_op op_add (pe_op op_mulW pe_int (pv 6)) pe_int) (fun _ _ => rfl)) (pe_callB call_len_seq (by rfl) T.m_len (by decide +kernel) (pa_cons (pv 4) pa_nil))) (fun _ _ => rfl)) (pa_cons (pv 7) pa_nil)))) pa_nil))))) pss_nil)))
      (pss_one (ps_ret (pv 5))))), ?_⟩
    refine seq_step ?_
    walk_at "rd"
    intro g H1 s1 f1 e1
    refine seq_step ?_
    refine for_rg ?_
    walk_at "rd"
    refine ⟨(rg_ok (by omega)).1, (rg_ok (by omega)).2, ?_⟩
    rw [Int.toNat_natCast]
    obtain ⟨Iv, hIv⟩ : ∃ Iv : Nat → L2.St → Hp → Prop, ∀ i σ' H', Iv i σ' H' ↔ (∃ v6 v7, ∃ ls : List Lq, σ' = [some (.ref px), some (.int m), some (.ref pw), some (.int unit), some (.ref pws), some (.ref g), v6, v7] ∧ Same H H' ∧ SeqD LqAt (newH H H') g ls ∧ ls.length ≤ i ∧ guardOk ws W ls = true ∧ SzL ls) := ⟨_, fun _ _ _ => Iff.rfl⟩
    refine forR_by Iv ((hIv _ _ _).mpr ⟨_, _, [], rfl, s1, SeqD.nil (new_at f1 e1), Nat.le_refl _, rfl, fun l h => by cases h⟩) ?_ ?_
    · rintro i σ' H2 hi hinv
      obtain ⟨v6, v7, ls, rfl, s2, sd, ll, gk, sz⟩ := (hIv _ _ _).mp hinv
      walk_at "rd"
      intro l3 H3 s3 f3 e3
      have sh := s2.trans s3
      refine ⟨_, _, names_dp (sh _ _ hw), .lst (.of e3) .nil, shaped_xs wtx, rfl, ?_⟩
      have sd3 := sd.keep lqKeep (new_later (H := H) s3)
      by_cases we : W = []
      · subst we
        walk_at "rd"
        exact (hIv _ _ _).mpr ⟨_, _, ls, rfl, sh, sd3, by omega, gk, sz⟩
      · have ne : PyData.eqv (.list (W.map PyData.str)) (.list []) = false := by
          cases W with
          | nil => exact absurd rfl we
          | cons r rs => rfl
        rw [ne]
        walk_at "rd"
        have wl : 0 < W.length := List.length_pos_iff.mpr we
        have s3k : CMulW 3 (i : Int) := Sz.mulW (a := 8) (b := 8) (by show (3 : Int).natAbs < 2 ^ 8; decide) (by show (i : Int).natAbs < 2 ^ 8; omega) (by decide)
        have xat : ∀ j : Nat, j < 3 → ∃ v : Int, (xs.map V.int)[(3 * (i : Int) + (j : Int)).toNat]? = some (.int v) ∧ 0 ≤ v ∧ Sz 150 v := fun j hj => by
          have h2 : (3 * (i : Int) + (j : Int)).toNat < xs.length := by omega
          exact ⟨xs[(3 * (i : Int) + (j : Int)).toNat], by rw [List.getElem?_map, List.getElem?_eq_getElem h2]; rfl, xok _ (List.getElem_mem h2)⟩
        obtain ⟨x0, h0, _, _⟩ := xat 0 (by omega)
        obtain ⟨x1, h1, _⟩ := xat 1 (by omega)
        obtain ⟨x2, h2, _⟩ := xat 2 (by omega)
        rw [show 3 * (i : Int) + ((0 : Nat) : Int) = 3 * (i : Int) by omega] at h0
        have xH := sh _ _ hx
        refine seq_step ?_
        walk_at "rd"
        refine ⟨s3k, ?_⟩
        refine ix_l (.of xH) (by omega) h0 ?_
        walk_at "rd"
        have m4 := fm_pos (c := x0) (m := 4) (by decide)
        have mb := fm_pos (c := x0.fdiv 4) (m := 2) (by decide)
        refine ⟨Sz.mulW (a := 60) (b := 8) (by show unit.natAbs < 2 ^ 60; omega) (by show (x0.fmod 4).natAbs < 2 ^ 8; omega) (by decide), ?_⟩
        refine ⟨s3k, ?_⟩
        refine ix_l (.of xH) (by omega) h0 ?_
        walk_at "rd"
        have nv0 : 0 ≤ unit * x0.fmod 4 + (x0.fdiv 4).fmod 2 ∧ unit * x0.fmod 4 + (x0.fdiv 4).fmod 2 ≤ 10 ^ 12 * 3 + 1 := by
          have h1 : 0 ≤ unit * x0.fmod 4 := Int.mul_nonneg (by omega) m4.1
          have h2 : unit * x0.fmod 4 ≤ 10 ^ 12 * 3 := Int.mul_le_mul u2 (by omega) m4.1 (by decide)
          omega
        generalize unit * x0.fmod 4 + (x0.fdiv 4).fmod 2 = nv at *
        obtain ⟨_, gq1, _⟩ := id sd3
        refine ⟨_, rfl, .inl ⟨rfl, _, .of (new_of gq1).2⟩, ?_⟩
        walk_at "rd"
        refine ⟨s3k, ?_⟩
        refine ix_l (.of xH) (by omega) h1 ?_
        walk_at "rd"
        refine ⟨_, .inl (.of (sh _ _ hw)), ?_⟩
        rw [List.length_map]
        refine ⟨by omega, ?_⟩
        have mw := fm_pos (c := x1) (m := (W.length : Int)) (by omega)
        obtain ⟨wn, hwn, hwnm⟩ := pick_word (ws := W) mw
        refine ix_l (.of (sh _ _ hw)) mw.1 hwn ?_
        walk_at "rd"
        refine ⟨s3k, ?_⟩
        refine ix_l (.of xH) (by omega) h2 ?_
        walk_at "rd"
        refine ⟨_, .inl (.of (sh _ _ hws)), ?_⟩
        rw [List.length_map]
        refine ⟨by omega, ?_⟩
        have mws := fm_pos (c := x2) (m := (ws.length : Int)) (by omega)
        obtain ⟨wd, hwd, hwdm⟩ := pick_word (ws := ws) mws
        refine ix_l (.of (sh _ _ hws)) mws.1 hwd ?_
        walk_at "rd"
        intro tq H6 s6 f6 e6
        have sh6 := sh.trans s6
        have sd6 := sd3.keep lqKeep (new_later (H := H) s6)
        have tg : tq ≠ g := fun z => by
          rw [z, (new_of gq1).2] at f6; cases f6
        obtain ⟨items, it1, it2, it3⟩ := sd6.app lqKeep (x := (wn, wd, V.int nv)) ⟨del_at tg (new_at (sh.free f6) e6), rfl⟩
        refine app_at (new_of it1).2 (by omega) ?_
        rw [← new_upd f1] at it3
        refine (hIv _ _ _).mpr ⟨_, _, _, rfl, same_updN f1 sh6, it3, by rw [List.length_append, List.length_singleton]; omega, ?_, fun l hl => ?_⟩
        · show (ls ++ [(wn, wd, V.int nv)]).all (lookOk ws W) = true
          rw [List.all_append, show ls.all (lookOk ws W) = true from gk]
          simp only [List.all_cons, List.all_nil, Bool.and_true, Bool.true_and]
          unfold lookOk numOk
          simp only [decide_eq_true hwnm, decide_eq_true hwdm, decide_eq_true nv0.1, Bool.and_true]
        · rcases List.mem_append.mp hl with h | h
          · exact sz l h
          · rw [show l = (wn, wd, V.int nv) by simpa using h]
            show Sz 250 nv
            exact Sz.nn (j := 10 ^ 12 * 3 + 1) nv0.1 nv0.2 (by show (10 ^ 12 * 3 + 1 : Int).natAbs < 2 ^ 250; decide +kernel)
    · rintro σ' H2 hinv
      obtain ⟨v6, v7, ls, rfl, s2, sd, ll, gk, sz⟩ := (hIv _ _ _).mp hinv
      walk_at "rd"
      exact q g H2 ls s2 f1 (sd.seq lqKeep) (by omega) gk sz
/-! ### a stay met again behind a wait: plain -/
def SatL (X : Mx) (l : Look) : Prop := match l.2.1 with
  | .lt => leO (X (l.1 + 1) 0) (some (2 * l.2.2))
  | .le => leO (X (l.1 + 1) 0) (some (2 * l.2.2 + 1))
  | .gt => leO (X 0 (l.1 + 1)) (some (2 * (0 - l.2.2)))
  | .ge => leO (X 0 (l.1 + 1)) (some (2 * (0 - l.2.2) + 1))
  | .eq => leO (X (l.1 + 1) 0) (some (2 * l.2.2 + 1)) ∧ leO (X 0 (l.1 + 1)) (some (2 * (0 - l.2.2) + 1))
theorem up2_ge {X M : Mx} {x y : Nat} {c : Option Int} (h : LeM X M) (hc : leO (X x y) c) : LeM X (up2 M x y (narO (M x y) c)) := fun a b => by
  unfold up2
  split
  · rename_i e
    obtain ⟨rfl, rfl⟩ := e
    exact le_narO (h a b) hc
  · exact h a b
theorem step_ge {X M : Mx} {l : Look} (h : LeM X M) (s : SatL X l) : LeM X (lookStep M l) := by
  obtain ⟨p, w, k⟩ := l
  cases w with
  | lt => exact up2_ge h s
  | le => exact up2_ge h s
  | gt => exact up2_ge h s
  | ge => exact up2_ge h s
  | eq => exact up2_ge (up2_ge h s.1) s.2
theorem up2_at {M : Mx} {x y : Nat} {c : Option Int} : leO (up2 M x y (narO (M x y) c) x y) c := by
  unfold up2
  rw [if_pos ⟨rfl, rfl⟩]
  exact narO_le2 _ _
theorem step_le (M : Mx) (l : Look) : LeM (lookStep M l) M := by
  obtain ⟨p, w, k⟩ := l
  cases w with
  | lt => exact up2_le _ _ _ _
  | le => exact up2_le _ _ _ _
  | gt => exact up2_le _ _ _ _
  | ge => exact up2_le _ _ _ _
  | eq => exact (up2_le _ _ _ _).trans (up2_le _ _ _ _)
theorem step_sat (M : Mx) (l : Look) : SatL (lookStep M l) l := by
  obtain ⟨p, w, k⟩ := l
  cases w with
  | lt => exact up2_at
  | le => exact up2_at
  | gt => exact up2_at
  | ge => exact up2_at
  | eq => exact ⟨leO_trans (up2_le _ _ _ _ _ _) up2_at, up2_at⟩
theorem sat_mono {A B : Mx} {l : Look} (h : LeM A B) (s : SatL B l) : SatL A l := by
  obtain ⟨p, w, k⟩ := l
  cases w with
  | lt => exact leO_trans (h _ _) s
  | le => exact leO_trans (h _ _) s
  | gt => exact leO_trans (h _ _) s
  | ge => exact leO_trans (h _ _) s
  | eq => exact ⟨leO_trans (h _ _) s.1, leO_trans (h _ _) s.2⟩
theorem lookM_le : ∀ (ls : List Look) (M : Mx), LeM (lookM M ls) M
  | [], M => LeM.refl M
  | l :: ls, M => (lookM_le ls (lookStep M l)).trans (step_le M l)
theorem look_sat : ∀ (ls : List Look) (M : Mx), ∀ l ∈ ls, SatL (lookM M ls) l
  | [], _, _, h => by cases h
  | l :: ls, M, l', h => by
    rcases List.mem_cons.mp h with rfl | h
    · exact sat_mono (lookM_le ls _) (step_sat M l')
    · exact look_sat ls (lookStep M l) l' h
theorem lookM_ge {X : Mx} : ∀ (ls : List Look) (M : Mx), LeM X M → (∀ l ∈ ls, SatL X l) → LeM X (lookM M ls)
  | [], _, h, _ => h
  | l :: ls, M, h, s => lookM_ge ls (lookStep M l) (step_ge h (s l List.mem_cons_self)) fun x hx => s x (List.mem_cons_of_mem _ hx)
theorem wait_ge (X : Mx) : LeM X (waitM X) := fun a b => by
  unfold waitM
  split
  · exact leO_none _
  · exact leO_refl _
theorem met_again {n : Nat} {N X : Mx} {ls : List Look} (h : metO n N ls = some X) : ∃ Y, metO n (waitM X) ls = some Y := by
  obtain ⟨e, p⟩ := nrwO_some h
  have le : LeM X (lookM N ls) := by rw [e]; exact nrw_le n _
  have sat : ∀ l ∈ ls, SatL X l := fun l hl => sat_mono le (look_sat ls N l hl)
  have ge := lookM_ge ls (waitM X) (wait_ge X) sat
  have pX : PosAll n X := by rw [e]; exact p
  have idem : nrw n X = X := by
    rw [e]
    exact nrw_idem (fun i hi => nrw_diag hi (p i hi)) (fun i hi => nrw_row0 hi) (nrw_tri p)
  have mono := nrw_mono (n := n) ge
  rw [idem] at mono
  exact ⟨_, nrwO_pos fun i hi => leO_trans (pX i hi) (mono i i)⟩
theorem stay_again {M : MachD} {r : Str} {N X : Mx} (h : stayO M r N = some X) : ∃ Y, stayO M r (waitM X) = some Y := met_again h
/-- sizes, told for few watches -/
theorem nrw_sz3 {n s : Nat} {M : Mx} (hn : n ≤ 3) (hs : 1 ≤ s) (h : SzM s M) : SzM (s + 54) (nrw n M) :=
  (nrw_sz (n := n) (m := n) hs h).mono (by
    have : 2 * n * n * n ≤ 2 * 3 * 3 * 3 := Nat.mul_le_mul (Nat.mul_le_mul (Nat.mul_le_mul_left 2 hn) hn) hn
    omega)
theorem stayO_sz {M : MachD} {r : Rq} {N X : Mx} {s : Nat} (ok : MachOk M) (msz : MSz M) (hr : r ∈ M.rooms) (w2 : M.watches.length ≤ 2) (hs : 300 ≤ s) (h : SzM s N) (e : stayO M r.1 N = some X) : SzM (s + 54) X := by
  unfold stayO at e
  rw [stayOf_at ok.rnd hr] at e
  have gk : guardOk WORDS M.watches r.2 = true := by
    have := List.all_eq_true.mp ok.rok r hr
    unfold roomOk at this
    exact guard_words (Bool.and_eq_true_iff.mp this).2
  rw [(nrwO_some e).1]
  exact nrw_sz3 (by unfold dimM; omega) (by omega) (look_sz _ _ h (by omega) fun l hl => (lks_ok gk (msz.1 r hr) l hl).2)
theorem thruO_sz3 {M : MachD} {N X : Mx} {d : DoorD} {s : Nat} (w2 : M.watches.length ≤ 2) (hs : 300 ≤ s) (gk : guardOk WORDS M.watches d.looks = true) (sz : SzL d.looks) (h : SzM s N) (e : thruO M N d = some X) : SzM (s + 54) X := by
  unfold thruO at e
  obtain ⟨Y, hY, rfl⟩ := Option.map_eq_some_iff.mp e
  rw [(nrwO_some hY).1]
  exact putsM_sz _ _ (nrw_sz3 (by unfold dimM; omega) (by omega) (look_sz _ _ h (by omega) fun l hl => (lks_ok gk sz l hl).2))
theorem zo_del {n : Nat} {H : Hp} {pp q : Addr} {qs : List Addr} {Z : Mx} (hn : 1 ≤ n) (e : H pp = some (.lst (qs.map V.ref))) (ht : ∀ x ∈ qs, ∃ ys, H x = some (.tup ys)) (z : ZoAt n H q Z) : ZoAt n (delH pp H) q Z := by
  obtain ⟨as, z⟩ := z
  have row : ∀ (i : Nat) (a : Addr), as[i]? = some a → a ≠ pp := fun i a h y => by
    have := z.row i a h
    rw [y, e] at this
    have this : qs.map V.ref = zrow n (Z i) := by simpa using this
    have h0 := zrow_get (n := n) (j := 0) (Z i) (by omega)
    rw [← this, List.getElem?_map] at h0
    obtain ⟨b, _, hb⟩ := Option.map_eq_some_iff.mp h0
    cases hz : Z i 0 <;> rw [hz] at hb <;> cases hb
  refine ⟨as, del_at (fun y => ?_) z.top, z.len, fun i a h => del_at (row i a h) (z.row i a h), z.nd⟩
  have hl : 0 < as.length := by rw [z.len]; omega
  have h0 := List.getElem?_eq_getElem hl
  have h1 := z.top
  rw [y, e] at h1
  have h1 : qs = as := by
    have : qs.map V.ref = as.map V.ref := by simpa using h1
    exact refs_inj this
  obtain ⟨ys, hy⟩ := ht as[0] (by rw [h1]; exact List.getElem_mem hl)
  rw [z.row 0 _ h0] at hy
  cases hy
theorem paperAdd {n : Nat} {H : Hp} {pp t pz : Addr} {ps : List (Str × Mx)} {nm : Str} {Z : Mx} (hn : 1 ≤ n) (sd : SeqD (PpAt n) H pp ps) (et : H t = some (.tup [.str nm, .ref pz])) (hz : ZoAt n H pz Z) : ∃ items, H pp = some (.lst items) ∧ items.length = ps.length ∧ SeqD (PpAt n) (upd H pp (.lst (items ++ [.ref t]))) pp (ps ++ [(nm, Z)]) := by
  obtain ⟨qs, d1, d2, d3⟩ := id sd
  refine sd.app PpAt.keep ⟨pz, del_at (fun y => ?_) et, zo_del hn d1 (fun x hx => ?_) hz⟩
  · rw [y, d1] at et; cases et
  · obtain ⟨i, hi, e⟩ := List.mem_iff_getElem.mp hx
    have h1 := List.getElem?_eq_getElem hi
    rw [e] at h1
    obtain ⟨y, hy⟩ : ∃ y, ps[i]? = some y := ⟨_, List.getElem?_eq_getElem (by omega)⟩
    obtain ⟨p, ep, _⟩ := d3 i x y h1 hy
    exact ⟨_, (del_of ep).2⟩
theorem okSign_tx {x : Str} (h : okSign x = true) : TxOk x := by
  unfold okSign at h
  rw [Bool.or_eq_true] at h
  rcases h with h | h
  · rw [of_decide_eq_true h]; show PyData.strOk _ = true; decide +kernel
  · cases e : x.cps.toList.getLast? with
    | none => rw [e] at h; cases h
    | some c =>
      rw [e] at h
      have h1 := of_decide_eq_true (Bool.and_eq_true_iff.mp h).1
      have h2 := okName_tx (Bool.and_eq_true_iff.mp h).2
      refine txok_of fun z hz => ?_
      have s0 : HT.sIx x.length 0 none = 0 := rfl
      have s1 : HT.sIx x.length x.length (some (-1)) = x.length - 1 := by
        unfold HT.sIx
        simp only [show ((-1 : Int) < 0) from by decide, if_true]
        omega
      have len : x.length = x.cps.toList.length := by unfold Str.length; exact Array.length_toList.symm
      have hx : x.cps.toList = x.cps.toList.dropLast ++ [c] := by
        obtain ⟨ys, hys⟩ := List.getLast?_eq_some_iff.mp e
        rw [hys]; simp
      have h3 : ∀ z ∈ x.cps.toList.dropLast, z < 0x110000 := fun z hz => by
        have h2 : PyData.strOk (cutS x none (some (-1))) = true := h2
        unfold PyData.strOk cutS at h2
        rw [s0, s1, ← Array.all_toList, List.all_eq_true] at h2
        have := h2 z (by
          rw [List.dropLast_eq_take] at hz
          simp only [List.drop_zero, Nat.sub_zero]
          rw [len]; simpa using hz)
        exact of_decide_eq_true this
      rw [hx] at hz
      rcases List.mem_append.mp hz with hz | hz
      · exact h3 z hz
      · have : z = c := by simpa using hz
        rw [this]
        exact (by decide +kernel : ∀ c ∈ ("!?" : Str).cps.toList, c < 0x110000) c h1
def ListD (K : PySem.W.Frag) (H : Hp) (p : Addr) (m : Nat) : Prop := ∃ ds, Dp K H (.ref p) (.list ds) ∧ SeqAt.shaped (.list ds) = true ∧ ds.length = m
theorem listD_of {K : PySem.W.Frag} {k : Nat} {H : Hp} {p : Addr} {vs : List V} (e : H p = some (.lst vs)) (hk : k ≤ 50) (h : ∀ v ∈ vs, HasD K k H v) : ListD K H p vs.length := by
  obtain ⟨ds, a, b, c⟩ := hasd_all vs h
  have := lay_listM c
  exact ⟨ds, .lst (.of e) a, shaped_of this.1 this.2 (by omega), b⟩
theorem paperHas {K : PySem.W.Frag} {n : Nat} {H : Hp} {p : Addr} {ps : List (Str × Mx)} (h : SeqOf (PpAt n) H p ps) (tx : ∀ x ∈ ps, TxOk x.1) : ListD K H p ps.length := by
  obtain ⟨qs, a, b, c⟩ := h
  rw [← b, ← List.length_map (f := V.ref)]
  refine listD_of (k := 4) a (by decide) fun v hv => ?_
  obtain ⟨q, hq, rfl⟩ := List.mem_map.mp hv
  obtain ⟨i, hi, e⟩ := List.mem_iff_getElem.mp hq
  have h1 := List.getElem?_eq_getElem hi
  rw [e] at h1
  obtain ⟨x, hx⟩ : ∃ x, ps[i]? = some x := ⟨_, List.getElem?_eq_getElem (by omega)⟩
  obtain ⟨pz, ez, as, z⟩ := c i q x h1 hx
  refine hasd_tup ez fun v hv => ?_
  simp only [List.mem_cons, List.not_mem_nil, or_false] at hv
  rcases hv with rfl | rfl
  · exact hasd_str (tx x (List.mem_of_getElem? hx))
  · exact ⟨_, z.dp, (lay_zone n x.2).1, by have := (lay_zone n x.2).2; omega⟩
/-! ### the search: plain -/
theorem up2_out {n i j a b : Nat} {M : Mx} {x : Option Int} (hi : i < n) (hj : j < n) (h : ¬ (a < n ∧ b < n)) : up2 M i j x a b = M a b := by
  unfold up2
  rw [if_neg fun e => h ⟨by omega, by omega⟩]
theorem iter_out {n a b : Nat} {f : Nat → Mx → Mx} (h : ∀ i M, i < n → f i M a b = M a b) : ∀ (m : Nat) (M : Mx), m ≤ n → iter f m M a b = M a b
  | 0, _, _ => rfl
  | m + 1, M, hm => by
    show f m (iter f m M) a b = _
    rw [h m _ (by omega), iter_out h m M (by omega)]
theorem nrw_out {n a b : Nat} {M : Mx} (h : ¬ (a < n ∧ b < n)) : nrw n M a b = M a b := by
  unfold nrw
  rw [iter_out (fun k M hk => ?_) n _ (Nat.le_refl _), iter_out (fun k M hk => ?_) n _ (Nat.le_refl _)]
  · unfold diag1
    rw [up2_out (by omega) hk h, up2_out hk hk h]
  · unfold thr
    rw [iter_out (fun i M hi => ?_) n _ (Nat.le_refl _)]
    unfold rowst
    split
    · rfl
    · rw [iter_out (fun j M hj => ?_) n _ (Nat.le_refl _)]
      unfold cell1
      exact up2_out hi hj h
theorem nrw_szT {n s : Nat} {M : Mx} (h : PosAll n (nrw n M)) (hs : 1 ≤ s) (sM : SzM s M) : SzM (s + 2 * n) (nrw n M) := fun i j v e => by
  by_cases c : i < n ∧ j < n
  · exact nrw_sz2 h hs sM i j v (by rw [cut_at c.1 c.2]; exact e)
  · rw [nrw_out c] at e
    exact (sM i j v e).mono (by omega)
theorem nrwO_szT {n s : Nat} {M X : Mx} (e : nrwO n M = some X) (hs : 1 ≤ s) (sM : SzM s M) : SzM (s + 2 * n) X := by
  obtain ⟨rfl, p⟩ := nrwO_some e
  exact nrw_szT p hs sM
def freeOf : Option Nat → Mx → Mx
  | none, Z => Z
  | some p, Z => freeM p Z
noncomputable def settledO (M : MachD) (r : Str) (mo : List (Option Int)) (fr : Option Nat) (N : Mx) : Option Mx :=
  (stayO M r N).bind fun X => (stayO M r (waitM X)).bind fun Y => (nrwO (dimM M) (turnM Y (mostAt mo))).map (freeOf fr)
theorem fold_pos {n : Nat} {M Y : Mx} {g : Nat → Option Int} (h : nrwO n M = some Y) : PosAll n (nrw n (turnM Y g)) := by
  obtain ⟨rfl, p⟩ := nrwO_some h
  have idem : nrw n (nrw n M) = nrw n M := (Nar.of_nrw p).idem
  have mono := nrw_mono (n := n) (turnM_le (nrw n M) g)
  rw [idem] at mono
  exact fun i hi => leO_trans (p i hi) (mono i i)
def frV : Option Nat → V
  | none => .non
  | some p => .int p
theorem oV_frV : ∀ (x : Option Nat), frV x = oV (x.map fun k => (k : Int))
  | none => rfl
  | some _ => rfl
def FrOk (M : MachD) (fr : Option Nat) : Prop := ∀ p, fr = some p → 1 ≤ p ∧ p < dimM M
theorem metO_no {n : Nat} {N : Mx} {ls : List Look} (h : ∃ i d, i < n ∧ nrw n (lookM N ls) i i = some d ∧ d < 1) : metO n N ls = none := nrwO_no fun c => by
  obtain ⟨i, d, hi, hd, d1⟩ := h
  obtain ⟨d', hd', d2⟩ := pos_get hi (c i hi)
  rw [hd] at hd'; cases hd'; omega
theorem metO_yes {n : Nat} {N : Mx} {ls : List Look} (h : ∀ i, i < n → ∃ d, nrw n (lookM N ls) i i = some d ∧ 1 ≤ d) : metO n N ls = some (nrw n (lookM N ls)) := nrwO_pos fun i hi => by
  obtain ⟨d, hd, d1⟩ := h i hi
  unfold Pos; rw [hd]; exact d1
/-- a zone or None, new -/
def OzNew (n : Nat) (H0 H : Hp) (v : V) (X : Option Mx) : Prop := (X = none ∧ v = .non) ∨ ∃ p as N, X = some N ∧ v = .ref p ∧ ZAt H p as n N ∧ H0 p = none ∧ ∀ a ∈ as, H0 a = none
theorem OzNew.oz {n : Nat} {H0 H : Hp} {v : V} {X : Option Mx} (h : OzNew n H0 H v X) : OzAt n H v X := by
  rcases h with h | ⟨p, as, N, h1, h2, h3, _⟩
  · exact .inl h
  · exact .inr ⟨p, as, N, h1, h2, h3⟩
/-- a node: its room, its zone, whence it came -/
structure Nd where
  rm : Str
  zn : Mx
  bf : Option Nat
  dr : Option Nat
def NdAt (n : Nat) (H : Hp) (q : Addr) (x : Nd) : Prop := ∃ pz, H q = some (.tup [.str x.rm, .ref pz, frV x.bf, frV x.dr]) ∧ ZoAt n H pz x.zn
theorem NdAt.keep {n : Nat} : ∀ (H H' : Hp) (q : Addr) (x : Nd), Same H H' → NdAt n H q x → NdAt n H' q x := fun _ _ _ _ s ⟨pz, a, b⟩ => ⟨pz, s _ _ a, ZoAt.keep _ _ _ _ s b⟩
instance {n : Nat} : Kp2 (NdAt n) := ⟨NdAt.keep⟩
noncomputable def nextO (M : MachD) (mo : List (Option Int)) (fr : Option Nat) (ns : List Nd) (k t : Nat) : Option Nd :=
  (M.doors[t]?).bind fun d => (ns[k]?).bind fun x => if d.st = x.rm ∧ d.sg = "" then ((thruO M x.zn d).bind (settledO M d.en mo fr)).map fun Z => ⟨d.en, Z, some k, some t⟩ else none
def NewP (n : Nat) (ns : List Nd) (x : Nd) : Prop := ∀ o ∈ ns, o.rm = x.rm → ¬ LeN n x.zn o.zn
inductive SRes where
  | many
  | done (ns : List Nd) (hit : Bool)
open Classical in
noncomputable def doorsS (M : MachD) (gs : List Rq) (mo : List (Option Int)) (fr : Option Nat) (st : Bool) (most k : Nat) : List Nat → List Nd → SRes ⊕ List Nd
  | [], ns => .inr ns
  | t :: ts, ns => match nextO M mo fr ns k t with
    | none => doorsS M gs mo fr st most k ts ns
    | some x => if NewP (dimM M) ns x then (if most ≤ ns.length then .inl .many else if st = true ∧ HitP M gs x.rm x.zn then .inl (.done (ns ++ [x]) true) else doorsS M gs mo fr st most k ts (ns ++ [x])) else doorsS M gs mo fr st most k ts ns
noncomputable def outerS (M : MachD) (gs : List Rq) (mo : List (Option Int)) (fr : Option Nat) (st : Bool) (most : Nat) : Nat → Nat → List Nd → SRes
  | 0, _, ns => .done ns false
  | f + 1, k, ns => if k < ns.length then (match doorsS M gs mo fr st most k (List.range M.doors.length) ns with
    | .inl r => r
    | .inr ns' => outerS M gs mo fr st most f (k + 1) ns') else .done ns false
def room0 (M : MachD) : Str := (M.rooms.headD ("", [])).1
open Classical in
noncomputable def searchS (M : MachD) (gs : List Rq) (mo : List (Option Int)) (fr : Option Nat) (st : Bool) (most : Nat) : SRes :=
  match settledO M (room0 M) mo fr oneM with
  | none => .done [] false
  | some Z => if st = true ∧ HitP M gs (room0 M) Z then .done [⟨room0 M, Z, none, none⟩] true else outerS M gs mo fr st most (most + 1) 0 [⟨room0 M, Z, none, none⟩]
/-- the mosts: a free watch has none -/
def mostsOf (M : MachD) (gs : List Rq) (fr : Option Nat) : List (Option Int) := match fr with
  | none => M.watches.map fun w => some (best w (allG M gs))
  | some p => (M.watches.map fun w => some (best w (allG M gs))).set (p - 1) none
def SzNs (n : Nat) (ns : List Nd) : Prop := ∀ (i : Nat) (x : Nd), ns[i]? = some x → SzM (300 + 8 * n * (i + 1)) x.zn
theorem settledO_sz {M : MachD} {r : Rq} {mo : List (Option Int)} {fr : Option Nat} {N X : Mx} {s : Nat} (ok : MachOk M) (hr : r ∈ M.rooms) (szr : SzL r.2) (mok : MsOk mo) (hs : 300 ≤ s) (h : SzM s N) (e : settledO M r.1 mo fr N = some X) : SzM (s + 6 * dimM M) X := by
  have gk : guardOk WORDS M.watches r.2 = true := by
    have := List.all_eq_true.mp ok.rok r hr
    unfold roomOk at this
    exact guard_words (Bool.and_eq_true_iff.mp this).2
  have lok := lks_ok gk szr
  unfold settledO stayO at e
  rw [stayOf_at ok.rnd hr] at e
  obtain ⟨X1, h1, e⟩ := Option.bind_eq_some_iff.mp e
  obtain ⟨X2, h2, e⟩ := Option.bind_eq_some_iff.mp e
  obtain ⟨X3, h3, e⟩ := Option.map_eq_some_iff.mp e
  have s1 := nrwO_szT h1 (by omega) (look_sz _ _ h (by omega) fun l hl => (lok l hl).2)
  have s2 := nrwO_szT h2 (by omega) (look_sz _ _ (wait_sz s1) (by omega) fun l hl => (lok l hl).2)
  have s3 := nrwO_szT h3 (by omega) (turn_sz (by omega) s2 mok)
  have s4 := s3.mono (show s + 2 * dimM M + 2 * dimM M + 2 * dimM M ≤ s + 6 * dimM M by omega)
  rw [← e]
  cases fr with
  | none => exact s4
  | some p => exact free_sz s4
theorem thruO_szT {M : MachD} {N X : Mx} {d : DoorD} {s : Nat} (ok : MachOk M) (hd : d ∈ M.doors) (sz : SzL d.looks) (hs : 300 ≤ s) (h : SzM s N) (e : thruO M N d = some X) : SzM (s + 2 * dimM M) X := by
  unfold thruO at e
  obtain ⟨Y, hY, rfl⟩ := Option.map_eq_some_iff.mp e
  exact putsM_sz _ _ (nrwO_szT hY (by omega) (look_sz _ _ h (by omega) fun l hl => (lks_ok (ok.door hd).2.2.2.1 sz l hl).2))
theorem nextO_some {M : MachD} {mo : List (Option Int)} {fr : Option Nat} {ns : List Nd} {k t : Nat} {y : Nd} (h : nextO M mo fr ns k t = some y) : ∃ d x Z Y, M.doors[t]? = some d ∧ ns[k]? = some x ∧ d.st = x.rm ∧ d.sg = "" ∧ thruO M x.zn d = some Z ∧ settledO M d.en mo fr Z = some Y ∧ y = ⟨d.en, Y, some k, some t⟩ := by
  unfold nextO at h
  obtain ⟨d, h1, h⟩ := Option.bind_eq_some_iff.mp h
  obtain ⟨x, h2, h⟩ := Option.bind_eq_some_iff.mp h
  split at h
  · rename_i c
    obtain ⟨Y, h3, rfl⟩ := Option.map_eq_some_iff.mp h
    obtain ⟨Z, h4, h5⟩ := Option.bind_eq_some_iff.mp h3
    exact ⟨d, x, Z, Y, h1, h2, c.1, c.2, h4, h5, rfl⟩
  · cases h
theorem next_sz {M : MachD} {mo : List (Option Int)} {fr : Option Nat} {ns : List Nd} {k t : Nat} {y : Nd} (ok : MachOk M) (msz : MSz M) (mok : MsOk mo) (sz : SzNs (dimM M) ns) (h : nextO M mo fr ns k t = some y) : SzNs (dimM M) (ns ++ [y]) := by
  obtain ⟨d, x, Z, Y, h1, h2, c1, c2, h4, h5, rfl⟩ := nextO_some h
  have hd := List.mem_of_getElem? h1
  obtain ⟨r, hr, er⟩ := List.mem_map.mp (ok.door hd).2.2.1
  rw [← er] at h5
  have sx := sz k x h2
  have sZ := thruO_szT ok hd (msz.2 d hd) (by omega) sx h4
  have sY := settledO_sz ok hr (msz.1 r hr) mok (by omega) sZ h5
  have kl := (List.getElem?_eq_some_iff.mp h2).1
  intro i z hz
  by_cases c : i < ns.length
  · rw [List.getElem?_append_left c] at hz
    exact sz i z hz
  · have hi := (List.getElem?_eq_some_iff.mp hz).1
    rw [List.length_append, List.length_singleton] at hi
    rw [List.getElem?_append_right (by omega), show i - ns.length = 0 by omega] at hz
    have hz : (⟨d.en, Y, some k, some t⟩ : Nd) = z := by simpa using hz
    subst hz
    refine sY.mono ?_
    have : 8 * dimM M * (k + 2) ≤ 8 * dimM M * (i + 1) := Nat.mul_le_mul_left _ (by omega)
    have e : 8 * dimM M * (k + 2) = 8 * dimM M * (k + 1) + 8 * dimM M := by rw [show k + 2 = k + 1 + 1 by omega, Nat.mul_add (8 * dimM M) (k + 1) 1, Nat.mul_one]
    omega
def spSettled (K : PySem.W.Frag) (CM CD : Addr) : Sp := fun vs H Q _ => ∃ (pm pz pmo : Addr) (az : List Addr) (M : MachD) (r : Rq) (mo : List (Option Int)) (fr : Option Nat) (N : Mx) (s : Nat), vs = [.ref pm, .str r.1, .ref pz, .ref pmo, frV fr] ∧ MachAt CM CD H pm M ∧ MachOk M ∧ r ∈ M.rooms ∧ SzL r.2 ∧ ZAt H pz az (dimM M) N ∧ SzM s N ∧ 300 ≤ s ∧ s + 6 * dimM M ≤ 7000 ∧ H pmo = some (.lst (mo.map oV)) ∧ mo.length + 1 = dimM M ∧ MsOk mo ∧ FrOk M fr ∧
  ∀ v H', Same H H' → OzNew (dimM M) H H' v (settledO M r.1 mo fr N) → Q v H'
theorem ok_settled (T : Top K mg) : FnOk P w K mg base CX0 5 T.f_settled T.d_settled ["machine", "room", "zone", "mosts", "free"] (spSettled K T.C_Machine T.C_Door) := by
  refine T.F_settled.ok sc_settled (fun vs H Q E h => ?_) (fun cdv A outer s H vs Q E hr h => ?_)
  · obtain ⟨pm, pz, pmo, az, M, r, mo, fr, N, s, rfl, _⟩ := h; rfl
  · obtain ⟨pm, pz, pmo, az, M, r, mo, fr, N, s, rfl, hm, ok, hr1, szr, zN, sN, s3, s7, hmo, mol, mok, fok, q⟩ := h
    refine ⟨_, (pss_cons (ps_set (i := 5) sc_settled.nd rfl (.inl rfl) (pe_call (ok_placed T) (hr.mono (by decide)) rfl T.g_placed T.F_placed.kp T.b_placed .nil passL (pa_cons (pv 0) (pa_cons (pe_meth (pv 0) T.cl_Machine T.m_Machine_stay (ok_Machine_stay T) (hr.mono (by decide)) T.b_Machine_stay .nil pass0 (pa_cons (pv 1) pa_nil)) pa_nil))))
      (pss_cons (ps_set (i := 2) sc_settled.nd rfl (.inl rfl) (pe_call (ok_met T) (hr.mono (by decide)) rfl T.g_met T.F_met.kp T.b_met .nil pass0 (pa_cons (pv 2) (pa_cons (pv 5) pa_nil))))
      (pss_cons (ps_if (pt_cmpR op_isN (pv 2) pe_non (nomark _)) (pss_one (ps_ret pe_non)) pss_nil)
      (pss_cons (ps_set (i := 2) sc_settled.nd rfl (.inl rfl) (pe_call (ok_folded T) (hr.mono (by decide)) rfl T.g_folded T.F_folded.kp T.b_folded .nil pass0 (pa_cons (pe_call (ok_met T) (hr.mono (by decide)) rfl T.g_met T.F_met.kp T.b_met .nil pass0 (pa_cons (pe_call (ok_waited T) (hr.mono (by decide)) rfl T.g_waited T.F_waited.kp T.b_waited .nil pass0 (pa_cons (pv 2) pa_nil)) (pa_cons (pv 5) pa_nil))) (pa_cons (pv 3) pa_nil))))
      (pss_cons (ps_if (pt_cmpR op_notN (pv 4) pe_non (nomark _)) (pss_one (ps_set (i := 2) sc_settled.nd rfl (.inl rfl) (pe_call (ok_freed T) (hr.mono (by decide)) rfl T.g_freed T.F_freed.kp T.b_freed .nil pass0 (pa_cons (pv 2) (pa_cons (pv 4) pa_nil))))) pss_nil)
      (pss_one (ps_ret (pv 2)))))))), ?_⟩
    obtain ⟨dx, wn, rn, sl, dl, a, _⟩ := id hm
    have gk : guardOk WORDS M.watches r.2 = true := by
      have := List.all_eq_true.mp ok.rok r hr1
      unfold roomOk at this
      exact guard_words (Bool.and_eq_true_iff.mp this).2
    have r60 := ok.rsz r hr1
    have w7 := ok.w7
    have n1 : 1 ≤ dimM M := by unfold dimM; omega
    have n8 : dimM M ≤ 8 := by unfold dimM; omega
    have lok := lks_ok gk szr
    have l60 : (lks M.watches r.2).length ≤ 60 := by unfold lks; rw [List.length_map]; exact r60
    unfold settledO stayO at q
    rw [stayOf_at ok.rnd hr1] at q
    generalize hL : lks M.watches r.2 = L at *
    refine seq_step ?_
    walk_at "rd"
    refine ⟨_, rfl, pm, dx, _, rfl, a, mach_no (by decide +kernel) (by decide +kernel) (by decide +kernel) (by decide +kernel), ?_⟩
    walk_at "rd"
    refine ⟨pm, M, r, rfl, hm, hr1, ok.rnd, fun gq H1 s1 f1 e1 => ?_⟩
    refine .inl ⟨pm, gq, M, r.2, rfl, hm.keep s1, e1, r60, .inl ⟨gk, fun pg H2 s2 f2 e2 => ?_⟩⟩
    have s12 := s1.trans s2
    have hlk : LkAt H2 pg L := by rw [← hL]; exact lk_of e2 gk
    walk_at "rd"
    refine seq_step ?_
    walk_at "rd"
    refine ⟨pz, pg, az, dimM M, N, L, rfl, zN.keep s12, hlk, l60, lok, n1, n8, sN.mono (by omega), fun h H3 s3 => ?_, fun h p as H3 s3 z3 => ?_⟩
    · walk_at "rd"
      refine seq_step ?_
      walk_at "rd"
      exact q .non H3 (s12.trans s3) (.inl ⟨by rw [metO_no h]; rfl, rfl⟩)
    · have eX := metO_yes h
      rw [eX] at q
      obtain ⟨Y, eY⟩ := met_again eX
      have sX := nrwO_szT eX (by omega) (look_sz _ _ sN (by omega) fun l hl => (lok l hl).2)
      have sW := wait_sz sX
      have sY := nrwO_szT eY (by omega) (look_sz _ _ sW (by omega) fun l hl => (lok l hl).2)
      obtain ⟨eY2, _⟩ := nrwO_some eY
      walk_at "rd"
      refine seq_step ?_
      walk_at "rd"
      refine seq_step ?_
      walk_at "rd"
      generalize nrw (dimM M) (lookM N L) = X at *
      have q : ∀ v H', Same H H' → OzNew (dimM M) H H' v ((nrwO (dimM M) (turnM Y (mostAt mo))).map (freeOf fr)) → Q v H' := fun v H' s h => q v H' s (by
        show OzNew _ _ _ _ (Option.bind (metO (dimM M) (waitM X) L) _)
        rw [eY]; exact h)
      refine ⟨p, as, dimM M, X, rfl, z3, n1, n8, fun wz wa H4 s4 _ _ z4 => ?_⟩
      have s24 := s3.trans s4
      refine ⟨wz, pg, wa, dimM M, waitM X, L, rfl, z4, hlk.keep s24, l60, lok, n1, n8, sW.mono (by omega), fun h => absurd (metO_no h) (by rw [eY]; exact fun h => by cases h), fun h p2 a2 H5 s5 z5 => ?_⟩
      have e2 := metO_yes h
      rw [eY] at e2
      obtain rfl := Option.some.inj e2
      have s25 := s24.trans s5
      have fp := fold_pos (g := mostAt mo) eY
      rw [nrwO_pos fp] at q
      refine ⟨p2, pmo, a2, dimM M, _, turnM (nrw (dimM M) (lookM (waitM X) L)) (mostAt mo), mo, rfl, z5, (s12.trans s25) _ _ hmo, mol, n8, mok, turn_sz (by omega) (sY.mono (by omega)) mok, fun _ _ _ _ => rfl, fun i hi => pos_get hi (fp i hi), fun p3 a3 H6 s6 z6 f6 fa6 => ?_⟩
      have s06 := s12.trans (s25.trans s6)
      walk_at "rd"
      refine seq_step ?_
      cases fr with
      | none =>
        walk_at "rd"
        exact q _ H6 s06 (.inr ⟨p3, a3, _, rfl, rfl, z6, (s12.trans s25).free f6, fun a ha => (s12.trans s25).free (fa6 a ha)⟩)
      | some k =>
        walk_at "rd"
        refine ⟨p3, a3, dimM M, k, _, rfl, z6, (fok k rfl).2, n8, fun p4 a4 H7 s7 f7 fa7 z7 => ?_⟩
        walk_at "rd"
        exact q _ H7 (s06.trans s7) (.inr ⟨p4, a4, _, rfl, rfl, z7, s06.free f7, fun a ha => s06.free (fa7 a ha)⟩)
def spNext (K : PySem.W.Frag) (CM CD : Addr) : Sp := fun vs H Q _ => ∃ (pm pn pmo : Addr) (k t s : Nat) (M : MachD) (ns : List Nd) (mo : List (Option Int)) (fr : Option Nat), vs = [.ref pm, .ref pn, .int k, .int t, .ref pmo, frV fr] ∧ MachAt CM CD H pm M ∧ MachOk M ∧ MSz M ∧ SeqOf (NdAt (dimM M)) H pn ns ∧ k < ns.length ∧ t < M.doors.length ∧ (∀ x, ns[k]? = some x → SzM s x.zn) ∧ 300 ≤ s ∧ s + 8 * dimM M ≤ 7000 ∧ H pmo = some (.lst (mo.map oV)) ∧ mo.length + 1 = dimM M ∧ MsOk mo ∧ FrOk M fr ∧
  (nextO M mo fr ns k t = none → ∀ H', Same H H' → Q .non H') ∧ (∀ x, nextO M mo fr ns k t = some x → ∀ p H', Same H H' → H p = none → NdAt (dimM M) (newH H H') p x → Q (.ref p) H')
theorem ok_next_node (T : Top K mg) : FnOk P w K mg base CX0 6 T.f_next_node T.d_next_node ["machine", "nodes", "at", "number", "mosts", "free"] (spNext K T.C_Machine T.C_Door) := by
  refine T.F_next_node.ok sc_next_node (fun vs H Q E h => ?_) (fun cdv A outer s H vs Q E hr h => ?_)
  · obtain ⟨pm, pn, pmo, k, t, s, M, ns, mo, fr, rfl, _⟩ := h; rfl
  · obtain ⟨pm, pn, pmo, k, t, s, M, ns, mo, fr, rfl, hm, ok, msz, hns, hk, ht, sN, s3, s7, hmo, mol, mok, fok, q1, q2⟩ := h
    refine ⟨_, (pss_cons (ps_set (i := 6) sc_next_node.nd rfl (.inl rfl) (pe_ix (ix_listA (K := K) rfl) (pe_meth0 (pv 0) T.cl_Machine T.m_Machine_doors (ok_Machine_doors T) (hr.mono (by decide)) T.b_Machine_doors .nil pass0) (pv 3) (fun _ _ => rfl)))
      (pss_cons (ps_asg (pe_ix (ix_listA (K := K) rfl) (pv 1) (pv 2) (fun _ _ => rfl)) (pg_tupA (K := K) (n := 4) rfl (by rfl) (pgs_cons (pg_name (i := 7) sc_next_node.nd rfl (.inl rfl)) (pgs_cons (pg_name (i := 8) sc_next_node.nd rfl (.inl rfl)) (pgs_cons (pg_name (i := 9) sc_next_node.nd rfl (.inl rfl)) (pgs_cons (pg_name (i := 10) sc_next_node.nd rfl (.inl rfl)) pgs_nil))))))
      (pss_cons (ps_if (PW.pt (pw_or (pt_cmpR op_ne (pe_fldA (K := K) rfl (pv 6) rfl) (pv 7) (nomark _)) (pw_or1 (pt_cmpR op_ne (pe_fldA (K := K) rfl (pv 6) rfl) pe_str (nomark _))))) (pss_one (ps_ret pe_non)) pss_nil)
      (pss_cons (ps_set (i := 8) sc_next_node.nd rfl (.inl rfl) (pe_call (ok_through_search T) (hr.mono (by decide)) rfl T.g_through_search T.F_through_search.kp T.b_through_search .nil pass0 (pa_cons (pv 0) (pa_cons (pv 8) (pa_cons (pv 6) pa_nil)))))
      (pss_cons (ps_if (pt_cmpR op_notN (pv 8) pe_non (nomark _)) (pss_one (ps_set (i := 8) sc_next_node.nd rfl (.inl rfl) (pe_call (ok_settled T) (hr.mono (by decide)) rfl T.g_settled T.F_settled.kp T.b_settled .nil pass0 (pa_cons (pv 0) (pa_cons (pe_fldA (K := K) rfl (pv 6) rfl) (pa_cons (pv 8) (pa_cons (pv 4) (pa_cons (pv 5) pa_nil)))))))) pss_nil)
      (pss_cons (ps_if (pt_cmpR op_isN (pv 8) pe_non (nomark _)) (pss_one (ps_ret pe_non)) pss_nil)
      (pss_one (ps_ret (pe_tupN (pa_cons (pe_fldA (K := K) rfl (pv 6) rfl) (pa_cons (pv 8) (pa_cons (pv 2) (pa_cons (pv 3) pa_nil))))))))))))), ?_⟩
    obtain ⟨dx, wn, rn, sl, dl, a, _⟩ := id hm
    obtain ⟨qs, n1, n2, n3⟩ := id hns
    have d200 := ok.d200
    obtain ⟨d, hd⟩ : ∃ d, M.doors[t]? = some d := ⟨_, List.getElem?_eq_getElem ht⟩
    have hdm := List.mem_of_getElem? hd
    obtain ⟨x, hx⟩ : ∃ x, ns[k]? = some x := ⟨_, List.getElem?_eq_getElem hk⟩
    obtain ⟨qx, hqx⟩ : ∃ q, qs[k]? = some q := ⟨_, List.getElem?_eq_getElem (by omega)⟩
    obtain ⟨pz, ez, az, zx⟩ := n3 k qx x hqx hx
    have sx := sN x hx
    have enx : nextO M mo fr ns k t = if d.st = x.rm ∧ d.sg = "" then ((thruO M x.zn d).bind (settledO M d.en mo fr)).map fun Z => ⟨d.en, Z, some k, some t⟩ else none := by
      unfold nextO; rw [hd, hx]; rfl
    rw [enx] at q1 q2
    obtain ⟨r2, hr2, er2⟩ := List.mem_map.mp (ok.door hdm).2.2.1
    refine seq_step ?_
    walk_at "rd"
    refine ⟨_, rfl, pm, dx, _, rfl, a, mach_no (by decide +kernel) (by decide +kernel) (by decide +kernel) (by decide +kernel), pm, M, rfl, hm, fun dq H1 dqs s1 f1 e1 l1 d1 => ?_⟩
    have d1 := d1 H (Same.refl _) hm
    obtain ⟨qd, hqd⟩ : ∃ q, dqs[t]? = some q := ⟨_, List.getElem?_eq_getElem (by omega)⟩
    have dd := d1 t qd d hqd hd
    obtain ⟨ddx, dg, dn, da, _⟩ := id dd
    refine ix_l (.of e1) (by omega) (by rw [Int.toNat_natCast, List.getElem?_map, hqd]; rfl) ?_
    refine seq_step ?_
    walk_at "rd"
    refine ix_l (.of (s1 _ _ n1)) (by omega) (by rw [Int.toNat_natCast, List.getElem?_map, hqx]; rfl) ?_
    refine gTup_of (sqt (s1 _ _ ez)) rfl ?_
    walk_at "rd"
    refine seq_step ?_
    walk_at "rd"
    refine ⟨_, rfl, qd, _, ddx, _, _, rfl, s1 _ _ da, T.cl_Door, T.n_Door_start, door_start, ?_⟩
    refine ⟨rfl, ?_⟩
    by_cases c1 : d.st = x.rm
    rotate_left
    · refine if_t (by rw [decide_eq_false fun h => c1 (by injection h)]; rfl) ?_
      rw [if_neg fun h => c1 h.1] at q1
      exact q1 rfl H1 s1
    refine if_f (by rw [decide_eq_true (by rw [c1])]; rfl) ?_
    refine ⟨_, rfl, qd, _, ddx, _, _, rfl, s1 _ _ da, T.cl_Door, T.n_Door_sign, door_sign, ?_⟩
    refine ⟨rfl, ?_⟩
    by_cases c2 : d.sg = ""
    rotate_left
    · refine if_t (by rw [decide_eq_false fun h => c2 (by injection h)]; rfl) ?_
      rw [if_neg fun h => c2 h.2] at q1
      exact q1 rfl H1 s1
    refine if_f (by rw [decide_eq_true (by rw [c2])]; rfl) ?_
    rw [if_pos ⟨c1, c2⟩] at q1 q2
    walk_at "rd"
    refine seq_step ?_
    walk_at "rd"
    refine ⟨pm, pz, qd, az, M, d, x.zn, rfl, hm.keep s1, ok, dd.keep s1, hdm, msz.2 d hdm, zx.keep s1, sx.mono (by omega), fun v H2 s2 hZ => ?_⟩
    have s12 := s1.trans s2
    walk_at "rd"
    refine seq_step ?_
    rcases hZ with ⟨hZ, rfl⟩ | ⟨p, as, Z, hZ, rfl, zZ⟩
    · walk_at "rd"
      refine seq_step ?_
      walk_at "rd"
      exact q1 (by rw [hZ]; rfl) H2 s12
    · have sZ := thruO_szT ok hdm (msz.2 d hdm) s3 sx hZ
      rw [hZ] at q1 q2
      walk_at "rd"
      refine ⟨_, rfl, qd, _, ddx, _, _, rfl, s12 _ _ da, T.cl_Door, T.n_Door_end, door_end, ?_⟩
      refine ⟨pm, p, pmo, as, M, r2, mo, fr, Z, _, by rw [er2], hm.keep s12, ok, hr2, msz.1 r2 hr2, zZ, sZ, by omega, by omega, s12 _ _ hmo, mol, mok, fok, fun v H3 s3 hY => ?_⟩
      rw [er2] at hY
      have s13 := s12.trans s3
      refine seq_step ?_
      rcases hY with ⟨hY, rfl⟩ | ⟨p3, a3, Y, hY, rfl, zY, fY, faY⟩
      · walk_at "rd"
        exact q1 (by show Option.map _ (settledO M d.en mo fr Z) = none; rw [hY]; rfl) H3 s13
      · walk_at "rd"
        refine ⟨_, rfl, qd, _, ddx, _, _, rfl, s13 _ _ da, T.cl_Door, T.n_Door_end, door_end, ?_⟩
        walk_at "rd"
        intro pt H4 s4 f4 e4
        have z4 := zY.keep s4
        exact q2 ⟨d.en, Y, some k, some t⟩ (by show Option.map _ (settledO M d.en mo fr Z) = _; rw [hY]; rfl) pt H4 (s13.trans s4) (s13.free f4) ⟨p3, new_at (s13.free f4) e4, a3, new_at (s12.free fY) z4.top, z4.len, fun i b h => new_at (s12.free (faY b (List.mem_of_getElem? h))) (z4.row i b h), z4.nd⟩
def spIsNew (K : PySem.W.Frag) : Sp := fun vs H Q _ => ∃ (pn q : Addr) (n : Nat) (ns : List Nd) (x : Nd), vs = [.ref pn, .ref q] ∧ SeqOf (NdAt n) H pn ns ∧ NdAt n H q x ∧ n ≤ 8 ∧ ns.length ≤ 800 ∧ ∀ (b : Bool) H', Same H H' → (b = true ↔ NewP n ns x) → Q (.bl b) H'
theorem ok_is_new (T : Top K mg) : FnOk P w K mg base CX0 3 T.f_is_new T.d_is_new ["nodes", "node"] (spIsNew K) := by
  refine T.F_is_new.ok sc_is_new (fun vs H Q E h => ?_) (fun cdv A outer s H vs Q E hr h => ?_)
  · obtain ⟨pn, q, n, ns, x, rfl, _⟩ := h; rfl
  · obtain ⟨pn, q, n, ns, x, rfl, ⟨qs, n1, n2, n3⟩, ⟨px, ex, ax, zx⟩, n8, n800, qq⟩ := h
    refine ⟨_, (pss_cons (ps_for PassesOwn.never rfl (pi_listA (K := K) rfl (pv 0)) (pg_name (i := 2) sc_is_new.nd rfl (.inl rfl)) (pss_one (ps_if (PW.pt (pw_and (pt_cmpR op_eq (pe_ix (ix_tupA (K := K) rfl) (pv 2) pe_int (fun _ _ => rfl)) (pe_ix (ix_tupA (K := K) rfl) (pv 1) pe_int (fun _ _ => rfl)) (nomark _)) (pw_and1 (pt_val (pe_call (ok_within T) (hr.mono (by decide)) rfl T.g_within T.F_within.kp T.b_within .nil pass0 (pa_cons (pe_ix (ix_tupA (K := K) rfl) (pv 1) pe_int (fun _ _ => rfl)) (pa_cons (pe_ix (ix_tupA (K := K) rfl) (pv 2) pe_int (fun _ _ => rfl)) pa_nil))))))) (pss_one (ps_ret pe_bl)) pss_nil)))
      (pss_one (ps_ret pe_bl))), ?_⟩
    refine seq_step ?_
    refine for_li ?_
    walk_at "rd"
    obtain ⟨Iv, hIv⟩ : ∃ Iv : Nat → L2.St → Hp → Prop, ∀ i σ' H', Iv i σ' H' ↔ (∃ v2, σ' = [some (.ref pn), some (.ref q), v2] ∧ Same H H' ∧ NewP n (ns.take i) x) := ⟨_, fun _ _ _ => Iff.rfl⟩
    refine forL_by (xs := qs.map V.ref) Iv ((hIv _ _ _).mpr ⟨_, rfl, Same.refl _, fun o h => by simp at h⟩) (fun i σ H' _ h => (fun (⟨_, _, k, _⟩ : ∃ _, _ ∧ Same _ _ ∧ _) => .of (k _ _ n1)) ((hIv _ _ _).mp h)) ?_ ?_
    · rintro i y σ' H1 hi hinv
      obtain ⟨v2, rfl, s1, don⟩ := (hIv _ _ _).mp hinv
      rw [List.getElem?_map] at hi
      obtain ⟨qi, h1, rfl⟩ := Option.map_eq_some_iff.mp hi
      have hil := (List.getElem?_eq_some_iff.mp h1).1
      obtain ⟨o, ho⟩ : ∃ o, ns[i]? = some o := ⟨_, List.getElem?_eq_getElem (by omega)⟩
      obtain ⟨po, eo, ao, zo⟩ := n3 i qi o h1 ho
      have next : ∀ H6, Same H1 H6 → (o.rm = x.rm → ¬ LeN n x.zn o.zn) → Iv (i + 1) [some (.ref pn), some (.ref q), some (.ref qi)] H6 := fun H6 s6 h => (hIv _ _ _).mpr ⟨_, rfl, s1.trans s6, fun o' ho' => by
        have e : ns.take (i + 1) = ns.take i ++ [o] := by rw [List.take_add_one, ho]; rfl
        rw [e] at ho'
        rcases List.mem_append.mp ho' with k | k
        · exact don o' k
        · rw [show o' = o by simpa using k]; exact h⟩
      walk_at "rd"
      refine ix_t (sqt (s1 _ _ eo)) (by decide) rfl ?_
      refine ix_t (sqt (s1 _ _ ex)) (by decide) rfl ?_
      refine ⟨rfl, ?_⟩
      by_cases c1 : o.rm = x.rm
      rotate_left
      · exact if_f (decide_eq_false fun h => c1 (by injection h)) (next _ (Same.refl _) fun h => absurd h c1)
      refine if_t (decide_eq_true (by rw [c1])) ?_
      refine ix_t (sqt (s1 _ _ ex)) (by decide) rfl ?_
      refine ix_t (sqt (s1 _ _ eo)) (by decide) rfl ?_
      refine ⟨px, po, ax, ao, n, x.zn, o.zn, rfl, zx.keep s1, zo.keep s1, by omega, fun b H2 s2 hb => ?_⟩
      refine ⟨_, rfl, ?_⟩
      cases b with
      | true => exact if_t rfl (qq false H2 (s1.trans s2) ⟨fun h => (by cases h), fun h => absurd (hb.mp rfl) (h o (List.mem_of_getElem? ho) c1)⟩)
      | false => exact if_f rfl (next H2 s2 fun _ h => by cases hb.mpr h)
    · rintro σ' H1 hinv
      obtain ⟨v2, rfl, s1, don⟩ := (hIv _ _ _).mp hinv
      rw [List.length_map, n2, List.take_length] at don
      walk_at "rd"
      exact qq true H1 s1 ⟨fun _ => don, fun _ => rfl⟩
def spPut (K : PySem.W.Frag) (CT : Addr) : Sp := fun vs H Q E => ∃ (pn q : Addr) (qs : List Addr) (most : Nat), vs = [.ref pn, .ref q, .int most] ∧ H pn = some (.lst (qs.map V.ref)) ∧ qs.length ≤ 800 ∧ most ≤ 1000 ∧ (qs.length < most → Q .non (upd H pn (.lst ((qs ++ [q]).map V.ref)))) ∧ (most ≤ qs.length → E (.ref CT) none H)
theorem ok_put (T : Top K mg) : FnOk P w K mg base (L2.CX P w) 1 T.f_put T.d_put ["nodes", "node", "most"] (spPut K T.C_TooMany) := by
  refine T.F_put.okX sc_put (fun vs H Q E h => ?_) (fun cdv A outer s H vs Q E hr h => ?_)
  · obtain ⟨pn, q, qs, most, rfl, _⟩ := h; rfl
  · obtain ⟨pn, q, qs, most, rfl, e, q800, m1000, q1, q2⟩ := h
    refine ⟨_, (pss_cons (ps_if (pt_cmpR op_ge (pe_callB call_len_seq (by rfl) T.m_len (by decide +kernel) (pa_cons (pv 0) pa_nil)) (pv 2) (nomark _)) (pss_one (ps_raise rfl (takes_of rfl rfl rfl rfl) (pmk_own PySem.F.excBase_ValueError T.x_TooMany T.g_TooMany T.k_TooMany (raises_own T.b_TooMany T.t_TooMany) rfl))) pss_nil)
      (pss_one (ps_expr (pe_bm PySem.F.plainAttrs_list PySem.F.slot_list_append PySem.F.type_list_append mt_append (pv 0) (pa_cons (pv 1) pa_nil))))), ?_⟩
    refine seq_step ?_
    walk_at "rd"
    refine ⟨_, .inl (.of e), ?_⟩
    rw [List.length_map]
    by_cases c : most ≤ qs.length
    · refine if_t (decide_eq_true (by omega)) ?_
      walk_at "rd"
      exact q2 c
    · refine if_f (decide_eq_false (by omega)) ?_
      walk_at "rd"
      refine ⟨_, rfl, .inl ⟨rfl, _, .of e⟩, ?_⟩
      walk_at "rd"
      refine app_at e (by rw [List.length_map]; omega) ?_
      have := q1 (by omega)
      rw [List.map_append] at this
      exact this
theorem new_del2 {H H' H'' : Hp} {D : Addr} {o : HO} (s : Same H H') (e : H' D = some o) : Same (newH H' H'') (delH D (newH H H'')) := fun b x h => by
  have z := new_of h
  exact del_at (fun y => by rw [y, e] at z; cases z.1) (new_at (s.free z.1) z.2)
theorem bst_ok {w : Str} {a : Int} {l : Lq} (ha : 0 ≤ a ∧ Sz 250 a) (hl : 0 ≤ numOf l.2.2 ∧ Sz 250 (numOf l.2.2)) : 0 ≤ bst w a l ∧ Sz 250 (bst w a l) := by
  unfold bst
  split
  · split
    · exact hl
    · exact ha
  · exact ha
theorem fold_bst {w : Str} : ∀ (ls : List Lq) (a : Int), (0 ≤ a ∧ Sz 250 a) → (∀ l ∈ ls, 0 ≤ numOf l.2.2 ∧ Sz 250 (numOf l.2.2)) → 0 ≤ ls.foldl (bst w) a ∧ Sz 250 (ls.foldl (bst w) a)
  | [], _, h, _ => h
  | l :: ls, a, h, k => fold_bst ls (bst w a l) (bst_ok h (k l List.mem_cons_self)) fun x hx => k x (List.mem_cons_of_mem _ hx)
theorem best_ok {w : Str} {gss : List (List Lq)} (h : ∀ ls ∈ gss, ∀ l ∈ ls, 0 ≤ numOf l.2.2 ∧ Sz 250 (numOf l.2.2)) : 0 ≤ best w gss ∧ Sz 250 (best w gss) := by
  unfold best
  have key : ∀ (gss : List (List Lq)) (a : Int), (0 ≤ a ∧ Sz 250 a) → (∀ ls ∈ gss, ∀ l ∈ ls, 0 ≤ numOf l.2.2 ∧ Sz 250 (numOf l.2.2)) → 0 ≤ gss.foldl (fun a ls => ls.foldl (bst w) a) a ∧ Sz 250 (gss.foldl (fun a ls => ls.foldl (bst w) a) a) := by
    intro gss
    induction gss with
    | nil => intro a h _; exact h
    | cons g gs ih => intro a h k; exact ih _ (fold_bst g a h (k g List.mem_cons_self)) fun x hx => k x (List.mem_cons_of_mem _ hx)
  exact key gss 0 ⟨Int.le_refl _, by unfold Sz; decide⟩ h
theorem numOf_nn {ws watches : List Str} {l : Lq} (h : lookOk ws watches l = true) : 0 ≤ numOf l.2.2 := by
  obtain ⟨_, _, n, e, h0⟩ := look_parts h
  rw [e]; exact h0
theorem allG_num {M : MachD} {gs : List Rq} (ok : MachOk M) (msz : MSz M) (gok : gs.all (markOk M) = true) (gsz : ∀ g ∈ gs, SzL g.2) : ∀ ls ∈ allG M gs, ∀ l ∈ ls, 0 ≤ numOf l.2.2 ∧ Sz 250 (numOf l.2.2) := fun ls h l hl => by
  unfold allG at h
  rcases List.mem_append.mp h with h | h
  · rcases List.mem_append.mp h with h | h
    · obtain ⟨r, hr, rfl⟩ := List.mem_map.mp h
      have := List.all_eq_true.mp ok.rok r hr
      unfold roomOk at this
      rw [Bool.and_eq_true] at this
      exact ⟨numOf_nn (List.all_eq_true.mp this.2 l hl), msz.1 r hr l hl⟩
    · obtain ⟨d, hd, rfl⟩ := List.mem_map.mp h
      exact ⟨numOf_nn (List.all_eq_true.mp (ok.door hd).2.2.2.1 l hl), msz.2 d hd l hl⟩
  · obtain ⟨r, hr, rfl⟩ := List.mem_map.mp h
    have := List.all_eq_true.mp gok r hr
    unfold markOk at this
    rw [Bool.and_eq_true] at this
    exact ⟨numOf_nn (List.all_eq_true.mp this.2 l hl), gsz r hr l hl⟩
theorem mosts_ok {M : MachD} {gs : List Rq} (ok : MachOk M) (msz : MSz M) (gok : gs.all (markOk M) = true) (gsz : ∀ g ∈ gs, SzL g.2) (fr : Option Nat) : MsOk (mostsOf M gs fr) ∧ (mostsOf M gs fr).length + 1 = dimM M := by
  have b : ∀ q, some q ∈ (M.watches.map fun w => some (best w (allG M gs))) → 0 ≤ q ∧ Sz 250 q := fun q h => by
    obtain ⟨w, _, e⟩ := List.mem_map.mp h
    cases e
    exact best_ok (allG_num ok msz gok gsz)
  cases fr with
  | none => exact ⟨b, by show (M.watches.map _).length + 1 = _; rw [List.length_map]; rfl⟩
  | some p =>
    refine ⟨fun q h => ?_, by show ((M.watches.map _).set _ _).length + 1 = _; rw [List.length_set, List.length_map]; rfl⟩
    rcases List.mem_or_eq_of_mem_set h with h | h
    · exact b q h
    · cases h
/-- a free watch, as it is handed in and by its place -/
def FreeV (M : MachD) (fv : V) (fr : Option Nat) : Prop := (fv = .non ∧ fr = none) ∨ ∃ w, w ∈ M.watches ∧ fv = .str w ∧ fr = some (M.watches.idxOf w + 1)
theorem FreeV.ok {M : MachD} {fv : V} {fr : Option Nat} (h : FreeV M fv fr) : FrOk M fr := fun p e => by
  rcases h with ⟨_, rfl⟩ | ⟨w, hw, _, rfl⟩
  · cases e
  · cases e
    have := List.idxOf_lt_length_iff.mpr hw
    exact ⟨by omega, by unfold dimM; omega⟩
def spListed (K : PySem.W.Frag) (CM CD CN CT : Addr) : Sp := fun vs H Q E => ∃ (pm pg : Addr) (M : MachD) (gs : List Rq) (most : Nat) (fv : V) (fr : Option Nat) (st : Bool), vs = [.ref pm, .ref pg, .int most, fv, .bl st] ∧ MachAt CM CD H pm M ∧ MachOk M ∧ MSz M ∧ RsAt H pg gs ∧ (∀ g ∈ gs, g.2.length ≤ 60 ∧ SzL g.2) ∧ gs.length ≤ 600 ∧ 1 ≤ most ∧ most ≤ 200 ∧ 8 * dimM M * most + 600 ≤ 7000 ∧ FreeV M fv fr ∧
  ((gs.all (markOk M) = true ∧ (∀ ns hit, searchS M gs (mostsOf M gs fr) fr st most = .done ns hit → ∀ p pn H', Same H H' → H p = none → H pn = none → H' p = some (.tup [.ref pn, .bl hit]) → SeqD (NdAt (dimM M)) (newH H H') pn ns → Q (.ref p) H') ∧ (searchS M gs (mostsOf M gs fr) fr st most = .many → ∀ H', Same H H' → E (.ref CT) none H')) ∨ (gs.all (markOk M) = false ∧ ∀ H', Same H H' → E (.ref CN) none H'))
theorem ok_listed (T : Top K mg) : FnOk P w K mg base (L2.CX P w) 7 T.f_listed T.d_listed ["machine", "goal", "most", "free", "stops"] (spListed K T.C_Machine T.C_Door T.C_NoMark T.C_TooMany) := by
  refine T.F_listed.okX sc_listed (fun vs H Q E h => ?_) (fun cdv A outer s H vs Q E hr h => ?_)
  · obtain ⟨pm, pg, M, gs, most, fv, fr, st, rfl, _⟩ := h; rfl
  · obtain ⟨pm, pg, M, gs, most, fv, fr, st, rfl, hm, ok, msz, hg, gsz, g600, m1, m200, msum, hfv, q⟩ := h
    refine ⟨_, (pss_cons (ps_set (i := 5) sc_listed.nd rfl (.inl rfl) (pe_call (ok_greatest T) (hr.mono (by decide)) rfl T.g_greatest T.F_greatest.kp T.b_greatest .nil (passes_call (takes_of rfl rfl rfl rfl) (fun _ _ _ _ z => z)) (pa_cons (pv 0) (pa_cons (pv 1) pa_nil))))
      (pss_cons (ps_set (i := 6) sc_listed.nd rfl (.inl rfl) pe_non)
      (pss_cons (ps_if (pt_cmpR op_notN (pv 3) pe_non (nomark _)) (pss_cons (ps_set (i := 6) sc_listed.nd rfl (.inl rfl) (pe_meth (pv 0) T.cl_Machine T.m_Machine_watch_number (ok_Machine_watch_number T) (hr.mono (by decide)) T.b_Machine_watch_number .nil pass0 (pa_cons (pv 3) pa_nil)))
      (pss_one (ps_asg pe_non (pg_sub (pv 5) (pe_op op_sub (pv 6) pe_int) set_list)))) pss_nil)
      (pss_cons (ps_set (i := 7) sc_listed.nd rfl (.inl rfl) (pe_ix (ix_listA (K := K) rfl) (pe_meth0 (pv 0) T.cl_Machine T.m_Machine_rooms (ok_Machine_rooms T) (hr.mono (by decide)) T.b_Machine_rooms .nil pass0) pe_int (fun _ _ => rfl)))
      (pss_cons (ps_set (i := 8) sc_listed.nd rfl (.inl rfl) (pe_call (ok_settled T) (hr.mono (by decide)) rfl T.g_settled T.F_settled.kp T.b_settled .nil pass0 (pa_cons (pv 0) (pa_cons (pv 7) (pa_cons (pe_call (ok_nought T) (hr.mono (by decide)) rfl T.g_nought T.F_nought.kp T.b_nought .nil pass0 (pa_cons (pe_callB call_len_seq (by rfl) T.m_len (by decide +kernel) (pa_cons (pv 5) pa_nil)) pa_nil)) (pa_cons (pv 5) (pa_cons (pv 6) pa_nil)))))))
      (pss_cons (ps_if (pt_cmpR op_isN (pv 8) pe_non (nomark _)) (pss_one (ps_ret (pe_tupN (pa_cons (pe_lstN pa_nil) (pa_cons pe_bl pa_nil))))) pss_nil)
      (pss_cons (ps_set (i := 9) sc_listed.nd rfl (.inl rfl) (pe_lstN pa_nil))
      (pss_cons (ps_expr (pe_call (ok_put T) (hr.mono (by decide)) rfl T.g_put T.F_put.kp T.b_put .nil (passes_call (takes_of rfl rfl rfl rfl) (fun _ _ _ _ z => z)) (pa_cons (pv 9) (pa_cons (pe_tupN (pa_cons (pv 7) (pa_cons (pv 8) (pa_cons pe_non (pa_cons pe_non pa_nil))))) (pa_cons (pv 2) pa_nil)))))
      (pss_cons (ps_if (PW.pt (pw_and (pt_val (pv 4)) (pw_and1 (pt_cmpR op_notN (pe_call (ok_hit_by T) (hr.mono (by decide)) rfl T.g_hit_by T.F_hit_by.kp T.b_hit_by .nil pass0 (pa_cons (pv 0) (pa_cons (pv 1) (pa_cons (pv 7) (pa_cons (pv 8) pa_nil))))) pe_non (nomark _))))) (pss_one (ps_ret (pe_tupN (pa_cons (pv 9) (pa_cons pe_bl pa_nil))))) pss_nil)
      (pss_cons (ps_set (i := 10) sc_listed.nd rfl (.inl rfl) pe_int)
      (pss_cons (ps_while (passes_of rfl) (pt_cmpR op_lt (pv 10) (pe_callB call_len_seq (by rfl) T.m_len (by decide +kernel) (pa_cons (pv 9) pa_nil)) (nomark _)) (pss_cons (ps_for (passes_of rfl) rfl (pi_range1 (by rfl) T.m_range (pa_cons (pe_callB call_len_seq (by rfl) T.m_len (by decide +kernel) (pa_cons (pe_meth0 (pv 0) T.cl_Machine T.m_Machine_doors (ok_Machine_doors T) (hr.mono (by decide)) T.b_Machine_doors .nil pass0) pa_nil)) pa_nil)) (pg_name (i := 11) sc_listed.nd rfl (.inl rfl)) (pss_cons (ps_set (i := 12) sc_listed.nd rfl (.inl rfl) (pe_call (ok_next_node T) (hr.mono (by decide)) rfl T.g_next_node T.F_next_node.kp T.b_next_node .nil pass0 (pa_cons (pv 0) (pa_cons (pv 9) (pa_cons (pv 10) (pa_cons (pv 11) (pa_cons (pv 5) (pa_cons (pv 6) pa_nil))))))))
      (pss_cons (ps_if (PW.pt (pw_or (pt_cmpR op_isN (pv 12) pe_non (nomark _)) (pw_or1 (pt_not (pt_val (pe_call (ok_is_new T) (hr.mono (by decide)) rfl T.g_is_new T.F_is_new.kp T.b_is_new .nil pass0 (pa_cons (pv 9) (pa_cons (pv 12) pa_nil)))))))) (pss_one ps_continue) pss_nil)
      (pss_cons (ps_expr (pe_call (ok_put T) (hr.mono (by decide)) rfl T.g_put T.F_put.kp T.b_put .nil (passes_call (takes_of rfl rfl rfl rfl) (fun _ _ _ _ z => z)) (pa_cons (pv 9) (pa_cons (pv 12) (pa_cons (pv 2) pa_nil)))))
      (pss_one (ps_if (PW.pt (pw_and (pt_val (pv 4)) (pw_and1 (pt_cmpR op_notN (pe_call (ok_hit_by T) (hr.mono (by decide)) rfl T.g_hit_by T.F_hit_by.kp T.b_hit_by .nil pass0 (pa_cons (pv 0) (pa_cons (pv 1) (pa_cons (pe_ix (ix_tupA (K := K) rfl) (pv 12) pe_int (fun _ _ => rfl)) (pa_cons (pe_ix (ix_tupA (K := K) rfl) (pv 12) pe_int (fun _ _ => rfl)) pa_nil))))) pe_non (nomark _))))) (pss_one (ps_ret (pe_tupN (pa_cons (pv 9) (pa_cons pe_bl pa_nil))))) pss_nil))))))
      (pss_one (ps_aug (i := 10) sc_listed.nd rfl (.inl rfl) pe_int ip_add))))
      (pss_one (ps_ret (pe_tupN (pa_cons (pv 9) (pa_cons pe_bl pa_nil)))))))))))))))), ?_⟩
    obtain ⟨dx, wn, rn, sl, dl, a, _⟩ := id hm
    have w7 := ok.w7
    have r64 := ok.r64
    have d200 := ok.d200
    have n8 : dimM M ≤ 8 := by unfold dimM; omega
    have n1 : 1 ≤ dimM M := by unfold dimM; omega
    refine seq_step ?_
    walk_at "rd"
    refine ⟨pm, pg, M, gs, rfl, hm, ok, hg, fun r hr => (gsz r hr).1, g600, ?_⟩
    rcases q with ⟨gok, q1, q2⟩ | ⟨bad, q⟩
    rotate_left
    · exact .inr ⟨bad, fun H1 s1 => q H1 s1⟩
    refine .inl ⟨gok, fun pmo H1 s1 fmo e1 => ?_⟩
    obtain ⟨mok, mol⟩ := mosts_ok ok msz gok (fun g hg => (gsz g hg).2) fr
    have fok := hfv.ok
    walk_at "rd"
    refine seq_step ?_
    walk_at "rd"
    refine join_op (fun σ' H' => σ' = [some (.ref pm), some (.ref pg), some (.int most), some fv, some (.bl st), some (.ref pmo), some (frV fr), none, none, none, none, none, none] ∧ Same H H' ∧ H' pmo = some (.lst ((mostsOf M gs fr).map oV))) ?r1 (fun R' way => ?_)
    case r1 =>
      rintro σ' H2 ⟨rfl, s2, e2⟩
      refine seq_step ?_
      walk_at "rd"
      refine ⟨_, rfl, pm, dx, _, rfl, s2 _ _ a, mach_no (by decide +kernel) (by decide +kernel) (by decide +kernel) (by decide +kernel), pm, M, rfl, hm.keep s2, fun rq H3 s3 f3 e3 => ?_⟩
      obtain ⟨r0, hr0⟩ : ∃ r0, M.rooms[0]? = some r0 := ⟨_, List.getElem?_eq_getElem (List.length_pos_iff.mpr ok.rne)⟩
      have hr0m := List.mem_of_getElem? hr0
      have hd0 : room0 M = r0.1 := by unfold room0; rw [List.headD_eq_head?_getD, List.head?_eq_getElem?, hr0]; rfl
      refine ix_l (.of e3) (by decide) (by rw [show (0 : Int).toNat = 0 from rfl, List.getElem?_map, List.getElem?_map, hr0]; rfl) ?_
      refine seq_step ?_
      walk_at "rd"
      refine ⟨_, .inl (.of (s3 _ _ e2)), ?_⟩
      rw [List.length_map]
      have s03 := s2.trans s3
      have hmol : (mostsOf M gs fr).length = M.watches.length := by have := mol; unfold dimM at this; omega
      rw [hmol]
      refine ⟨M.watches.length, rfl, by omega, fun nz na H4 s4 z4 _ _ => ?_⟩
      have s04 := s03.trans s4
      refine ⟨pm, nz, pmo, na, M, r0, _, fr, oneM, 300, rfl, hm.keep s04, ok, hr0m, msz.1 r0 hr0m, z4, one_szP (by decide), by decide, by omega, (s3.trans s4) _ _ e2, mol, mok, fok, fun v H5 s5 hv => ?_⟩
      have s05 := s04.trans s5
      have e5 := (s3.trans (s4.trans s5)) _ _ e2
      refine seq_step ?_
      obtain ⟨R0, hR0⟩ : ∃ R0, searchS M gs (mostsOf M gs fr) fr st most = R0 := ⟨_, rfl⟩
      rw [hR0] at q1 q2
      unfold searchS at hR0
      rw [hd0] at hR0
      rcases hv with ⟨hv, rfl⟩ | ⟨pz, az, Z, hv, rfl, zZ, fz, faz⟩
      · rw [hv] at hR0
        dsimp only at hR0
        subst hR0
        walk_at "rd"
        intro pn H6 s6 f6 e6 p H7 s7 f7 e7
        refine q1 [] false rfl p pn H7 (s05.trans (s6.trans s7)) ((s05.trans s6).free f7) (s05.free f6) e7 (SeqD.nil (new_at (s05.free f6) (s7 _ _ e6)))
      have sZ : SzM (300 + 8 * dimM M * (0 + 1)) Z := (settledO_sz (s := 300) ok hr0m (msz.1 r0 hr0m) mok (by decide) (one_szP (by decide)) hv).mono (by omega)
      rw [hv] at hR0
      dsimp only at hR0
      have f0z := s04.free fz
      walk_at "rd"
      refine seq_step ?_
      walk_at "rd"
      intro pn H6 s6 f6 e6
      refine seq_step ?_
      walk_at "rd"
      intro p0 H7 s7 f7 e7
      have fpn := s05.free f6
      have npm : pmo ≠ pn := fun y => by rw [y, f6] at e5; cases e5
      refine ⟨pn, p0, [], most, rfl, s7 _ _ e6, by decide, by omega, fun _ => ?_, fun h => by simp at h; omega⟩
      have s07 : Same H H7 := s05.trans (s6.trans s7)
      have s08 : Same H (upd H7 pn (.lst (([] ++ [p0]).map V.ref))) := same_updN fpn s07
      have sd8 : SeqD (NdAt (dimM M)) (newH H (upd H7 pn (.lst (([] ++ [p0]).map V.ref)))) pn [⟨r0.1, Z, none, none⟩] := by
        have h0 : SeqD (NdAt (dimM M)) (newH H H7) pn [] := SeqD.nil (new_at fpn (s7 _ _ e6))
        have z7 := zZ.keep (s6.trans s7)
        have ne : ∀ {b : Addr}, H6 b ≠ none → b ≠ p0 := fun h y => h (by rw [y]; exact f7)
        have npz : ∀ {b : Addr} {o : HO}, H5 b = some o → b ≠ pn := fun h y => by rw [y, f6] at h; cases h
        obtain ⟨items, i1, i2, i3⟩ := h0.app NdAt.keep (q := p0) (x := ⟨r0.1, Z, none, none⟩) ⟨pz, del_at (fun y => by rw [y] at f7; rw [e6] at f7; cases f7) (new_at ((s05.trans s6).free f7) e7), az, del_at (npz zZ.top) (new_at f0z z7.top), z7.len, fun i b h => del_at (npz (zZ.row i b h)) (new_at (s04.free (faz b (List.mem_of_getElem? h))) (z7.row i b h)), z7.nd⟩
        have : items = [] := by simpa using i2
        subst this
        rw [new_upd fpn]
        exact i3
      have e8 : (upd H7 pn (.lst (([] ++ [p0]).map V.ref))) pmo = some (.lst ((mostsOf M gs fr).map oV)) := by rw [upd_ne npm]; exact (s6.trans s7) _ _ e5
      have zz8 : ZAt (upd H7 pn (.lst (([] ++ [p0]).map V.ref))) pz az (dimM M) Z := zZ.keep (same_updN f6 (s6.trans s7))
      generalize upd H7 pn (.lst (([] ++ [p0]).map V.ref)) = H8 at *
      -- what is told at the end
      have fin : ∀ {ns : List Nd} {hit : Bool} {J : Hp}, R0 = .done ns hit → Same H J → SeqD (NdAt (dimM M)) (newH H J) pn ns → ∀ p H2, Same J H2 → J p = none → H2 p = some (.tup [.ref pn, .bl hit]) → Q (.ref p) H2 := fun {ns hit J} e s sd p H2 s2 f2 e2 => q1 ns hit e p pn H2 (s.trans s2) (s.free f2) fpn e2 (sd.keep NdAt.keep (new_later s2))
      have szz : SzNs (dimM M) [⟨r0.1, Z, none, none⟩] := fun i x hx => by
        cases i with
        | zero =>
          obtain rfl : (⟨r0.1, Z, none, none⟩ : Nd) = x := by simpa using hx
          exact sZ
        | succ i => simp at hx
      refine join_op (fun σ' H' => σ' = [some (.ref pm), some (.ref pg), some (.int most), some fv, some (.bl st), some (.ref pmo), some (frV fr), some (.str r0.1), some (.ref pz), some (.ref pn), none, none, none] ∧ Same H8 H' ∧ ¬ (st = true ∧ HitP M gs r0.1 Z)) ?r2 (fun R2 way2 => ?_)
      case r2 =>
        rintro σ' H9 ⟨rfl, s9, nh⟩
        rw [if_neg nh] at hR0
        refine seq_step ?_
        walk_at "rd"
        have s09 := s08.trans s9
        have e9 := s9 _ _ e8
        refine join_op (fun σ' H' => ∃ v10 v11 v12, ∃ ns : List Nd, σ' = [some (.ref pm), some (.ref pg), some (.int most), some fv, some (.bl st), some (.ref pmo), some (frV fr), some (.str r0.1), some (.ref pz), some (.ref pn), v10, v11, v12] ∧ Same H H' ∧ SeqD (NdAt (dimM M)) (newH H H') pn ns ∧ R0 = .done ns false) ?r3 (fun R3 way3 => ?_)
        case r3 =>
          rintro σ' Ha ⟨v10, v11, v12, ns, rfl, sa, sd, eR⟩
          walk_at "rd"
          intro p Hb sb fb eb
          exact fin eR sa sd p Hb sb fb eb
        obtain ⟨W, hW⟩ : ∃ W : Nat → L2.St → Hp → Prop, ∀ m σ' H', W m σ' H' ↔ (∃ v11 v12, ∃ (k : Nat) (ns : List Nd), σ' = [some (.ref pm), some (.ref pg), some (.int most), some fv, some (.bl st), some (.ref pmo), some (frV fr), some (.str r0.1), some (.ref pz), some (.ref pn), some (.int k), v11, v12] ∧ Same H H' ∧ H' pmo = some (.lst ((mostsOf M gs fr).map oV)) ∧ SeqD (NdAt (dimM M)) (newH H H') pn ns ∧ SzNs (dimM M) ns ∧ ns.length ≤ most ∧ k ≤ ns.length ∧ m = most + 1 - k ∧ outerS M gs (mostsOf M gs fr) fr st most m k ns = R0) := ⟨_, fun _ _ _ => Iff.rfl⟩
        refine ⟨W, ⟨most + 1, (hW _ _ _).mpr ⟨_, _, 0, _, rfl, s09, e9, sd8.keep NdAt.keep (new_later s9), szz, by simpa using m1, Nat.zero_le _, rfl, hR0⟩⟩, ?_⟩
        rintro m σ' Ha hw
        obtain ⟨v11, v12, k, ns, rfl, sa, ea, sd, sz, nl, kl, rfl, hR⟩ := (hW _ _ _).mp hw
        obtain ⟨qs, w1, w2, w3⟩ := id sd
        have w1a := (new_of w1).2
        walk_at "rd"
        refine ⟨_, .inl (.of w1a), ?_⟩
        rw [List.length_map, w2]
        obtain ⟨f, hf⟩ : ∃ f, most + 1 - k = f + 1 := ⟨most - k, by omega⟩
        rw [hf] at hR
        unfold outerS at hR
        by_cases c : k < ns.length
        · rw [if_pos c] at hR
          refine if_t (decide_eq_true (by omega)) ?_
          refine ⟨_, fun σ' H' h => h, ?_⟩
          have hDS : ∃ DS, doorsS M gs (mostsOf M gs fr) fr st most k (List.range M.doors.length) ns = DS := ⟨_, rfl⟩
          obtain ⟨DS, hDS⟩ := hDS
          rw [hDS] at hR
          refine seq_step ?_
          refine for_rg ?_
          walk_at "rd"
          refine ⟨_, rfl, pm, dx, _, rfl, sa _ _ a, mach_no (by decide +kernel) (by decide +kernel) (by decide +kernel) (by decide +kernel), pm, M, rfl, hm.keep sa, fun dq Hb dqs sb fb eb lb _ => ?_⟩
          refine ⟨_, rfl, _, .inl (.of eb), ?_⟩
          rw [List.length_map, lb]
          refine ⟨(rg_ok (by omega)).1, (rg_ok (by omega)).2, ?_⟩
          rw [Int.toNat_natCast]
          obtain ⟨Iv, hIv⟩ : ∃ Iv : Nat → L2.St → Hp → Prop, ∀ t σ' H', Iv t σ' H' ↔ (∃ v11 v12, ∃ ns' : List Nd, σ' = [some (.ref pm), some (.ref pg), some (.int most), some fv, some (.bl st), some (.ref pmo), some (frV fr), some (.str r0.1), some (.ref pz), some (.ref pn), some (.int k), v11, v12] ∧ Same H H' ∧ H' pmo = some (.lst ((mostsOf M gs fr).map oV)) ∧ SeqD (NdAt (dimM M)) (newH H H') pn ns' ∧ SzNs (dimM M) ns' ∧ ns'.length ≤ most ∧ k < ns'.length ∧ doorsS M gs (mostsOf M gs fr) fr st most k ((List.range M.doors.length).drop t) ns' = DS) := ⟨_, fun _ _ _ => Iff.rfl⟩
          refine forR_by Iv ((hIv _ _ _).mpr ⟨_, _, ns, rfl, sa.trans sb, sb _ _ ea, sd.keep NdAt.keep (new_later sb), sz, nl, c, by rw [List.drop_zero]; exact hDS⟩) ?_ ?_
          · rintro t σ' Hc ht hinv
            obtain ⟨v11, v12, ns', rfl, sc, ec, sdc, szc, nlc, kc, hD⟩ := (hIv _ _ _).mp hinv
            rw [List.drop_eq_getElem_cons (by rw [List.length_range]; exact ht), List.getElem_range] at hD
            unfold doorsS at hD
            obtain ⟨qsc, wc1, wc2, wc3⟩ := id sdc
            have wca := (new_of wc1).2
            have kn : 8 * dimM M * (k + 1) ≤ 6400 := Nat.le_trans (Nat.mul_le_mul_left _ (show k + 1 ≤ most by omega)) (by omega)
            walk_at "rd"
            refine seq_step ?_
            walk_at "rd"
            refine ⟨pm, pn, pmo, k, t, 300 + 8 * dimM M * (k + 1), M, ns', _, fr, rfl, hm.keep sc, ok, msz, (sdc.seq NdAt.keep).kept new_sub, kc, ht, fun x hx => szc k x hx, by omega, by omega, ec, mol, mok, fok, fun hn Hd sd' => ?_, fun x hx p Hd sd' fp hp => ?_⟩
            · rw [hn] at hD
              walk_at "rd"
              refine seq_step ?_
              walk_at "rd"
              exact (hIv _ _ _).mpr ⟨_, _, ns', rfl, sc.trans sd', sd' _ _ ec, sdc.keep NdAt.keep (new_later sd'), szc, nlc, kc, hD⟩
            · rw [hx] at hD
              dsimp only at hD
              walk_at "rd"
              refine seq_step ?_
              walk_at "rd"
              have scd := sc.trans sd'
              have sdd := sdc.keep NdAt.keep (new_later (H := H) sd')
              have wcd := sd' _ _ wca
              refine ⟨pn, p, dimM M, ns', x, rfl, (sdd.seq NdAt.keep).kept new_sub, NdAt.keep _ _ _ _ new_sub hp, n8, by omega, fun b He se hb => ?_⟩
              have sce := scd.trans se
              have sde := sdd.keep NdAt.keep (new_later (H := H) se)
              have wce := se _ _ wcd
              refine ⟨_, rfl, ?_⟩
              cases b with
              | false =>
                refine if_t rfl ?_
                rw [if_neg (fun h => by cases hb.mpr h)] at hD
                exact (hIv _ _ _).mpr ⟨_, _, ns', rfl, sce, se _ _ (sd' _ _ ec), sde, szc, nlc, kc, hD⟩
              | true =>
              refine if_f rfl ?_
              rw [if_pos (hb.mp rfl)] at hD
              refine seq_step ?_
              walk_at "rd"
              refine ⟨pn, p, qsc, most, rfl, wce, by omega, by omega, fun hlt => ?_, fun hge => ?_⟩
              rotate_left
              · rw [if_pos (by omega)] at hD
                subst hD
                exact q2 hR.symm He sce
              rw [if_neg (by omega)] at hD
              have hpe : NdAt (dimM M) (delH pn (newH H He)) p x := NdAt.keep _ _ _ _ ((new_del2 sc wca).trans (del_same (new_later se))) hp
              obtain ⟨items, i1, i2, i3⟩ := sde.app NdAt.keep hpe
              have eit : items = qsc.map V.ref := by
                have h := (new_of i1).2
                rw [wce] at h
                injection h with h; injection h with h; exact h.symm
              subst eit
              have sx : Same H (upd He pn (.lst ((qsc ++ [p]).map V.ref))) := same_updN fpn sce
              have e2 : (upd He pn (.lst ((qsc ++ [p]).map V.ref))) pmo = some (.lst ((mostsOf M gs fr).map oV)) := by rw [upd_ne npm]; exact se _ _ (sd' _ _ ec)
              have sd2 : SeqD (NdAt (dimM M)) (newH H (upd He pn (.lst ((qsc ++ [p]).map V.ref)))) pn (ns' ++ [x]) := by
                rw [new_upd fpn, List.map_append]
                exact i3
              have sz2 := next_sz ok msz mok szc hx
              obtain ⟨px, ex, ax, zx⟩ : NdAt (dimM M) (upd He pn (.lst ((qsc ++ [p]).map V.ref))) p x := NdAt.keep _ _ _ _ ((del_same new_sub).trans del_upd |>.trans del_sub) hpe
              generalize upd He pn (.lst ((qsc ++ [p]).map V.ref)) = Hf at *
              have szx : SzM (300 + 8 * dimM M * (ns'.length + 1)) x.zn := sz2 ns'.length x (by rw [List.getElem?_append_right (Nat.le_refl _), Nat.sub_self]; rfl)
              have kn2 : 8 * dimM M * (ns'.length + 1) ≤ 6400 := Nat.le_trans (Nat.mul_le_mul_left _ (show ns'.length + 1 ≤ most by omega)) (by omega)
              have go : ¬ (st = true ∧ HitP M gs x.rm x.zn) → ∀ Hg, Same Hf Hg → Iv (t + 1) [some (.ref pm), some (.ref pg), some (.int most), some fv, some (.bl st), some (.ref pmo), some (frV fr), some (.str r0.1), some (.ref pz), some (.ref pn), some (.int k), some (.int t), some (.ref p)] Hg := fun nh Hg sg => (hIv _ _ _).mpr ⟨_, _, ns' ++ [x], rfl, sx.trans sg, sg _ _ e2, sd2.keep NdAt.keep (new_later sg), sz2, by rw [List.length_append, List.length_singleton]; omega, by rw [List.length_append, List.length_singleton]; omega, by rw [if_neg nh] at hD; exact hD⟩
              cases st with
              | false =>
                walk_at "rd"
                exact go (fun h => by cases h.1) _ (Same.refl _)
              | true =>
                walk_at "rd"
                refine ix_t (sqt ex) (by decide) rfl ?_
                refine ix_t (sqt ex) (by decide) rfl ?_
                refine ⟨pm, pg, px, ax, M, gs, x.rm, x.zn, rfl, hm.keep sx, ok, hg.keep sx, gok, gsz, zx, szx.mono (by omega), fun nh Hg sg => ?_, fun hh g Hg sg => ?_⟩
                · walk_at "rd"
                  exact go (fun h => nh h.2) _ sg
                · walk_at "rd"
                  rw [if_pos ⟨rfl, hh⟩] at hD
                  subst hD
                  intro p9 H9 s9 f9 e9
                  exact fin hR.symm (sx.trans sg) (sd2.keep NdAt.keep (new_later sg)) p9 H9 s9 f9 e9
          · rintro σ' Hc hinv
            obtain ⟨v11, v12, ns', rfl, sc, ec, sdc, szc, nlc, kc, hD⟩ := (hIv _ _ _).mp hinv
            rw [List.drop_of_length_le (by rw [List.length_range]; exact Nat.le_refl _)] at hD
            unfold doorsS at hD
            subst hD
            dsimp only at hR
            walk_at "rd"
            simp only [tAug, ipI]
            walk_at "rd"
            refine ⟨most + 1 - (k + 1), by omega, (hW _ _ _).mpr ⟨_, _, k + 1, ns', rfl, sc, ec, sdc, szc, nlc, by omega, rfl, by rw [show most + 1 - (k + 1) = f by omega]; exact hR⟩⟩
        · rw [if_neg c] at hR
          refine if_f (decide_eq_false (by omega)) ?_
          exact way3 _ _ ⟨_, _, _, ns, rfl, sa, sd, hR.symm⟩
      refine seq_step ?_
      cases st with
      | false =>
        walk_at "rd"
        exact way2 _ _ ⟨rfl, Same.refl _, fun h => by cases h.1⟩
      | true =>
        walk_at "rd"
        have n81 : 8 * dimM M * 1 ≤ 8 * dimM M * most := Nat.mul_le_mul_left _ m1
        refine ⟨pm, pg, pz, az, M, gs, r0.1, Z, rfl, hm.keep s08, ok, hg.keep s08, gok, gsz, zz8, sZ.mono (by omega), fun nh H9 s9 => ?_, fun hh g H9 s9 => ?_⟩
        · walk_at "rd"
          exact way2 _ _ ⟨rfl, s9, fun h => nh h.2⟩
        · walk_at "rd"
          intro p Hb sb fb eb
          rw [if_pos ⟨rfl, hh⟩] at hR0
          exact fin hR0.symm (s08.trans s9) (sd8.keep NdAt.keep (new_later s9)) p Hb sb fb eb
    refine seq_step ?_
    rcases hfv with ⟨rfl, rfl⟩ | ⟨wd, hwd, rfl, rfl⟩
    · walk_at "rd"
      exact way _ _ ⟨rfl, s1, by rw [e1]; show _ = some (HO.lst (List.map oV (M.watches.map fun w => some (best w (allG M gs))))); rw [List.map_map]; rfl⟩
    · walk_at "rd"
      refine ⟨_, rfl, pm, dx, _, rfl, s1 _ _ a, mach_no (by decide +kernel) (by decide +kernel) (by decide +kernel) (by decide +kernel), ?_⟩
      walk_at "rd"
      refine ⟨pm, M, wd, rfl, hm.keep s1, hwd, ?_⟩
      walk_at "rd"
      have hil := List.idxOf_lt_length_iff.mpr hwd
      rw [show (((M.watches.idxOf wd + 1 : Nat) : Int) - 1) = ((M.watches.idxOf wd : Nat) : Int) by omega]
      refine set_l e1 (by rw [List.length_map]; exact hil) ?_
      refine way _ _ ⟨rfl, same_updN fmo s1, ?_⟩
      rw [upd_same]
      show _ = some (HO.lst (List.map oV ((M.watches.map fun w => some (best w (allG M gs))).set (M.watches.idxOf wd + 1 - 1) none)))
      rw [List.map_set, List.map_map]; rfl
theorem ok_searched (T : Top K mg) : FnOk P w K mg base (L2.CX P w) 8 T.f_searched T.d_searched ["machine", "goal", "most", "free"] (fun vs H Q E => ∃ a b c d, vs = [a, b, c, d] ∧ spListed K T.C_Machine T.C_Door T.C_NoMark T.C_TooMany [a, b, c, d, .bl true] H Q E) := by
  refine T.F_searched.ok sc_searched (fun vs H Q E h => ?_) (fun cdv A outer s H vs Q E hr h => ?_)
  · obtain ⟨a, b, c, d, rfl, _⟩ := h; rfl
  · obtain ⟨a, b, c, d, rfl, h⟩ := h
    refine ⟨_, (pss_one (ps_ret (pe_call (ok_listed T) (hr.mono (by decide)) rfl T.g_listed T.F_listed.kp T.b_listed .nil (passes_call (takes_of rfl rfl rfl rfl) (fun _ _ _ _ z => z)) (pa_cons (pv 0) (pa_cons (pv 1) (pa_cons (pv 2) (pa_cons (pv 3) (pa_cons pe_bl pa_nil)))))))), ?_⟩
    walk_at "rd"
    exact h
/-! ### a folded zone is closed under waiting: plain -/
def capL (l : Look) : Int := match l.2.1 with
  | .lt => 2 * l.2.2
  | _ => 2 * l.2.2 + 1
/-- a look from above at a watch whose most is no less -/
structure UpL (n : Nat) (g : Nat → Option Int) (l : Look) : Prop where
  pl : l.1 + 1 < n
  wd : l.2.1 = .lt ∨ l.2.1 = .le
  nn : 0 ≤ l.2.2
  ms : ∃ q, g (l.1 + 1) = some q ∧ l.2.2 ≤ q
theorem UpL.cap {n : Nat} {g : Nat → Option Int} {l : Look} (_ : UpL n g l) : capL l / 2 = l.2.2 := by unfold capL; split <;> omega
theorem step_up {M : Mx} {l : Look} (h : l.2.1 = .lt ∨ l.2.1 = .le) : lookStep M l = up2 M (l.1 + 1) 0 (narO (M (l.1 + 1) 0) (some (capL l))) := by
  obtain ⟨p, w, k⟩ := l
  rcases h with h | h
  · cases h; rfl
  · cases h; rfl
theorem up_sat {M : Mx} {L : List Look} (h : ∀ l ∈ L, l.2.1 = .lt ∨ l.2.1 = .le) : ∀ l ∈ L, leO (lookM M L (l.1 + 1) 0) (some (capL l)) := fun l hl => by
  have s := look_sat L M l hl
  obtain ⟨p, w, k⟩ := l
  rcases h _ hl with e | e
  · cases e; exact s
  · cases e; exact s
theorem up_else : ∀ {L : List Look} {M : Mx} {a b : Nat}, (∀ l ∈ L, l.2.1 = .lt ∨ l.2.1 = .le) → ¬ (b = 0 ∧ 1 ≤ a) → lookM M L a b = M a b
  | [], _, _, _, _, _ => rfl
  | l :: L, M, a, b, h, c => by
    show lookM (lookStep M l) L a b = _
    rw [up_else (fun x hx => h x (List.mem_cons_of_mem _ hx)) c, step_up (h l List.mem_cons_self)]
    unfold up2
    rw [if_neg fun e => c ⟨e.2, by omega⟩]
theorem up_some : ∀ {L : List Look} {M : Mx} {a : Nat} {b : Int}, (∀ l ∈ L, l.2.1 = .lt ∨ l.2.1 = .le) → lookM M L a 0 = some b → M a 0 = some b ∨ ∃ l ∈ L, l.1 + 1 = a ∧ capL l = b
  | [], _, _, _, _, e => .inl e
  | l :: L, M, a, b, h, e => by
    rcases up_some (L := L) (M := lookStep M l) (fun x hx => h x (List.mem_cons_of_mem _ hx)) e with e | ⟨x, hx, k⟩
    · rw [step_up (h l List.mem_cons_self)] at e
      unfold up2 at e
      split at e
      · rename_i c
        rw [← c.1] at e
        rcases narO_cases (M a 0) (some (capL l)) with z | z
        · rw [z] at e; exact .inl e
        · rw [z] at e; exact .inr ⟨l, List.mem_cons_self, c.1.symm, Option.some.inj e⟩
      · exact .inl e
    · exact .inr ⟨x, List.mem_cons_of_mem _ hx, k⟩
def minL (f : Look → Option Int) : List Look → Option Int
  | [] => none
  | l :: L => narO (f l) (minL f L)
theorem minL_le {f : Look → Option Int} : ∀ {L : List Look} {l : Look}, l ∈ L → leO (minL f L) (f l)
  | l :: L, x, h => by
    rcases List.mem_cons.mp h with rfl | h
    · exact narO_le1 _ _
    · exact leO_trans (narO_le2 _ _) (minL_le h)
theorem le_minL {f : Look → Option Int} {x : Option Int} : ∀ {L : List Look}, (∀ l ∈ L, leO x (f l)) → leO x (minL f L)
  | [], _ => leO_none x
  | l :: L, h => le_narO (h l List.mem_cons_self) (le_minL fun y hy => h y (List.mem_cons_of_mem _ hy))
theorem minL_some {f : Look → Option Int} : ∀ {L : List Look} {b : Int}, minL f L = some b → ∃ l ∈ L, f l = some b
  | l :: L, b, e => by
    rcases narO_cases (f l) (minL f L) with z | z
    · exact ⟨l, List.mem_cons_self, by rw [← z]; exact e⟩
    · obtain ⟨y, hy, k⟩ := minL_some (by rw [← z]; exact e)
      exact ⟨y, List.mem_cons_of_mem _ hy, k⟩
def capM (Z : Mx) (L : List Look) : Mx := fun a b => if b = 0 ∧ 1 ≤ a then minL (fun l => addO (Z a (l.1 + 1)) (some (capL l))) L else Z a b
theorem capM_else {Z : Mx} {L : List Look} {a b : Nat} (h : ¬ (b = 0 ∧ 1 ≤ a)) : capM Z L a b = Z a b := if_neg h
theorem capM_at {Z : Mx} {L : List Look} {a : Nat} (h : 1 ≤ a) : capM Z L a 0 = minL (fun l => addO (Z a (l.1 + 1)) (some (capL l))) L := if_pos ⟨rfl, h⟩
theorem cap_nar {n : Nat} {Z : Mx} {L : List Look} (R : Nar n Z) (hp : ∀ l ∈ L, l.1 + 1 < n) (hc : ∀ l ∈ L, leO (Z (l.1 + 1) 0) (some (capL l))) : Nar n (capM Z L) := by
  have zk : ∀ k, k < n → 0 < n → leO (Z k 0) (minL (fun l => addO (Z k (l.1 + 1)) (some (capL l))) L) := fun k hk h0 => le_minL fun l hl => leO_trans (R.tri (l.1 + 1) (hp l hl) k 0 hk h0) (addO_mono (leO_refl _) (hc l hl))
  refine ⟨fun k hk i j hi hj => ?_, fun i hi => ?_, fun b hb => ?_⟩
  · by_cases c : j = 0 ∧ 1 ≤ i
    · obtain ⟨rfl, c⟩ := c
      by_cases k0 : k = 0
      · subst k0
        rw [capM_else (a := 0) (b := 0) (by omega), R.one 0 hk, addO_one]
        exact leO_refl _
      · rw [capM_else (a := i) (b := k) (by omega), capM_at c, capM_at (by omega)]
        cases e : minL (fun l => addO (Z k (l.1 + 1)) (some (capL l))) L with
        | none => rw [addO_none]; exact leO_none _
        | some b =>
          obtain ⟨l, hl, el⟩ := minL_some e
          refine leO_trans (minL_le hl) ?_
          rw [← el]
          show leO (addO (Z i (l.1 + 1)) _) (addO (Z i k) (addO (Z k (l.1 + 1)) _))
          rw [← addO_assoc]
          exact addO_mono (R.tri k hk i _ hi (hp l hl)) (leO_refl _)
    · rw [capM_else c]
      by_cases d : k = 0 ∧ 1 ≤ i
      · obtain ⟨rfl, d⟩ := d
        rw [capM_at d, capM_else (a := 0) (b := j) (by omega)]
        cases e : minL (fun l => addO (Z i (l.1 + 1)) (some (capL l))) L with
        | none => rw [none_addO]; exact leO_none _
        | some b =>
          obtain ⟨l, hl, el⟩ := minL_some e
          rw [← el]
          show leO _ (addO (addO (Z i (l.1 + 1)) _) _)
          rw [addO_assoc]
          exact leO_trans (R.tri _ (hp l hl) i j hi hj) (addO_mono (leO_refl _) (leO_trans (R.tri 0 hk _ j (hp l hl) hj) (addO_mono (hc l hl) (leO_refl _))))
      · rw [capM_else d]
        by_cases f : j = 0 ∧ 1 ≤ k
        · obtain ⟨rfl, f⟩ := f
          rw [capM_at f]
          exact leO_trans (R.tri k hk i 0 hi hj) (addO_mono (leO_refl _) (zk k hk hj))
        · rw [capM_else f]
          exact R.tri k hk i j hi hj
  · rw [capM_else (by omega)]; exact R.one i hi
  · rw [capM_else (by omega)]; exact R.row b hb
/-- what a narrow zone says of a watch from above comes of a look -/
theorem cap_of {n : Nat} {M : Mx} {L : List Look} (p : PosAll n (nrw n M)) (hp : ∀ l ∈ L, l.1 + 1 < n) (hc : ∀ l ∈ L, leO (nrw n M (l.1 + 1) 0) (some (capL l))) (hM : ∀ a b, 1 ≤ a → M a 0 = some b → ∃ l ∈ L, leO (addO (nrw n M a (l.1 + 1)) (some (capL l))) (some b)) {i : Nat} {b : Int} (h1 : 1 ≤ i) (hb : nrw n M i 0 = some b) : ∃ l ∈ L, leO (addO (nrw n M i (l.1 + 1)) (some (capL l))) (some b) := by
  have R := cap_nar (Nar.of_nrw p) hp hc
  have le : LeM (capM (nrw n M) L) M := fun a b => by
    by_cases c : b = 0 ∧ 1 ≤ a
    · obtain ⟨rfl, c⟩ := c
      rw [capM_at c]
      cases e : M a 0 with
      | none => exact leO_none _
      | some x =>
        obtain ⟨l, hl, k⟩ := hM a x c e
        exact leO_trans (minL_le hl) k
    · rw [capM_else c]; exact nrw_le n M a b
  have m := nrw_mono (n := n) le i 0
  rw [R.idem, capM_at h1, hb] at m
  cases e : minL (fun l => addO (nrw n M i (l.1 + 1)) (some (capL l))) L with
  | none => rw [e] at m; exact m.elim
  | some x =>
    rw [e] at m
    obtain ⟨l, hl, k⟩ := minL_some e
    exact ⟨l, hl, by rw [k]; exact m⟩
theorem addO_half {x y : Int} : ∃ w, addO (some x) (some y) = some w ∧ w / 2 = x / 2 + y / 2 := by
  refine ⟨_, rfl, ?_⟩
  split <;> omega
theorem leO_some {x : Option Int} {b : Int} (h : leO x (some b)) : ∃ a, x = some a ∧ a ≤ b := by
  cases x with
  | none => exact h.elim
  | some a => exact ⟨a, rfl, h⟩
theorem nar_nn {n : Nat} {Y : Mx} (R : Nar n Y) {i : Nat} {y : Int} (hi : i < n) (h : Y i 0 = some y) : 0 ≤ y / 2 := by
  have t := R.tri 0 (by omega) i i hi hi
  obtain ⟨r, e, r1⟩ := leO_some (R.row i hi)
  rw [R.one i hi, h, e] at t
  obtain ⟨w, ew, hw⟩ := addO_half (x := y) (y := r)
  rw [ew] at t
  have t : (1 : Int) ≤ w := t
  omega
theorem wait_fold {n : Nat} {X Y : Mx} {L : List Look} {g : Nat → Option Int} (hg0 : g 0 = some 0) (hL : ∀ l ∈ L, UpL n g l) (hY : metO n (waitM X) L = some Y) {i : Nat} {b : Int} (h1 : 1 ≤ i) (hi : i < n) (hb : nrw n (turnM Y g) i 0 = some b) :
    ∃ l ∈ L, leO (addO (nrw n (turnM Y g) i (l.1 + 1)) (some (capL l))) (some b) := by
  have up : ∀ l ∈ L, l.2.1 = .lt ∨ l.2.1 = .le := fun l hl => (hL l hl).wd
  obtain ⟨eY, pY⟩ := nrwO_some hY
  have fp := fold_pos (g := g) hY
  have RY : Nar n Y := by rw [eY]; exact Nar.of_nrw pY
  have hcY : ∀ l ∈ L, leO (Y (l.1 + 1) 0) (some (capL l)) := fun l hl => by rw [eY]; exact leO_trans (nrw_le n _ _ _) (up_sat up l hl)
  have w0 : ∀ a, 1 ≤ a → waitM X a 0 = none := fun a ha => by unfold waitM; rw [if_pos ⟨ha, rfl⟩]
  have inA : ∀ a b, 1 ≤ a → lookM (waitM X) L a 0 = some b → ∃ l ∈ L, l.1 + 1 = a ∧ capL l = b := fun a b ha e => by
    rcases up_some up e with e | h
    · rw [w0 a ha] at e; cases e
    · exact h
  have capY : ∀ a y, 1 ≤ a → a < n → Y a 0 = some y → ∃ l ∈ L, leO (addO (Y a (l.1 + 1)) (some (capL l))) (some y) := fun a y ha han e => by
    rw [eY] at e ⊢
    refine cap_of pY (fun l hl => (hL l hl).pl) (fun l hl => by rw [← eY]; exact hcY l hl) (fun a b ha e => ?_) ha e
    obtain ⟨l, hl, rfl, rfl⟩ := inA a b ha e
    refine ⟨l, hl, ?_⟩
    rw [(Nar.of_nrw pY).one _ (hL l hl).pl, one_addO]
    exact leO_refl _
  -- the turned bounds
  have tn : ∀ a y t, 1 ≤ a → a < n → Y a 0 = some y → turnM Y g a 0 = some t → t = y ∧ ∀ p, g a = some p → y / 2 ≤ p := fun a y t ha han e et => by
    have ny := nar_nn RY han e
    unfold turnM at et
    rw [if_neg (by omega), e, hg0] at et
    have t2 : turn2 y (some 0) = some y := by show (if y / 2 < 0 - 0 then _ else _) = _; rw [if_neg (by omega)]
    cases eg : g a with
    | none =>
      rw [eg] at et
      have et : turn2 y (some 0) = some t := et
      rw [t2] at et
      exact ⟨(Option.some.inj et).symm, fun p h => by cases h⟩
    | some p =>
      rw [eg] at et
      have et : (if p < y / 2 then none else turn2 y (some 0)) = some t := et
      split at et
      · cases et
      · rw [t2] at et
        refine ⟨(Option.some.inj et).symm, fun q h => ?_⟩
        cases h; omega
  have hcT : ∀ l ∈ L, leO (nrw n (turnM Y g) (l.1 + 1) 0) (some (capL l)) := fun l hl => by
    refine leO_trans (nrw_le n _ _ _) ?_
    obtain ⟨y, ey, hy⟩ := leO_some (hcY l hl)
    have ny := nar_nn RY (hL l hl).pl ey
    obtain ⟨q, eq, hq⟩ := (hL l hl).ms
    have ck := (hL l hl).cap
    unfold turnM
    rw [if_neg (by omega), ey, hg0, eq]
    show leO (if q < y / 2 then none else if y / 2 < 0 - 0 then _ else some y) _
    rw [if_neg (by omega), if_neg (by omega)]
    exact hy
  refine cap_of fp (fun l hl => (hL l hl).pl) hcT (fun a b ha e => ?_) h1 hb
  have eYa : ∃ y, Y a 0 = some y := by
    cases e2 : Y a 0 with
    | none =>
      unfold turnM at e
      rw [if_neg (by omega), e2] at e
      cases e
    | some y => exact ⟨y, rfl⟩
  obtain ⟨y, ey⟩ := eYa
  have han : a < n := by
    by_cases c : a < n
    · exact c
    · rw [eY, nrw_out (by omega)] at ey
      obtain ⟨l, hl, rfl, _⟩ := inA a y ha ey
      exact (hL l hl).pl
  obtain ⟨rfl, hya⟩ := tn a y b ha han ey e
  obtain ⟨l, hl, hle⟩ := capY a b ha han ey
  refine ⟨l, hl, leO_trans (addO_mono (leO_trans (nrw_le n _ _ _) ?_) (leO_refl _)) hle⟩
  have u := hL l hl
  have un := u.nn
  obtain ⟨q, eq, hq⟩ := u.ms
  have ck := u.cap
  cases ev : Y a (l.1 + 1) with
  | none => exact leO_none _
  | some v =>
    rw [ev] at hle
    obtain ⟨w, ew, hw⟩ := addO_half (x := v) (y := capL l)
    rw [ew] at hle
    have hle : w ≤ b := hle
    have nb := nar_nn RY han ey
    have lo : b / 2 ≤ v / 2 + capL l / 2 := by
      have t := leO_trans (RY.tri _ u.pl a 0 han (by omega)) (addO_mono (leO_refl _) (hcY l hl))
      rw [ey, ev, ew] at t
      have t : b ≤ w := t
      omega
    unfold turnM
    by_cases ca : a = l.1 + 1
    · rw [if_pos ca, ev]; exact leO_refl _
    · rw [if_neg ca, ev, eq]
      have t2 : turn2 v (some q) = some v := by show (if v / 2 < 0 - q then _ else _) = _; rw [if_neg (by omega)]
      cases eg : g a with
      | none => show leO (turn2 v (some q)) _; rw [t2]; exact leO_refl _
      | some p =>
        have := hya p eg
        show leO (if p < v / 2 then none else turn2 v (some q)) _
        rw [if_neg (by omega), t2]
        exact leO_refl _
/-! ### what a search lists: plain -/
def Cov (n : Nat) (ns : List Nd) (x : Nd) : Prop := ∃ o ∈ ns, o.rm = x.rm ∧ LeN n x.zn o.zn
def Chain (M : MachD) (mo : List (Option Int)) (fr : Option Nat) (ns : List Nd) : Prop := ∀ (i : Nat) (x : Nd), ns[i]? = some x → (i = 0 ∧ ∃ Z, settledO M (room0 M) mo fr oneM = some Z ∧ x = ⟨room0 M, Z, none, none⟩) ∨ ∃ k t, k < i ∧ nextO M mo fr ns k t = some x
theorem next_pre {M : MachD} {mo : List (Option Int)} {fr : Option Nat} {ns l : List Nd} {k t : Nat} (h : k < ns.length) : nextO M mo fr (ns ++ l) k t = nextO M mo fr ns k t := by
  unfold nextO
  rw [List.getElem?_append_left h]
theorem chain_app {M : MachD} {mo : List (Option Int)} {fr : Option Nat} {ns : List Nd} {k t : Nat} {x : Nd} (h : Chain M mo fr ns) (hk : k < ns.length) (e : nextO M mo fr ns k t = some x) : Chain M mo fr (ns ++ [x]) := fun i y hy => by
  by_cases c : i < ns.length
  · rw [List.getElem?_append_left c] at hy
    rcases h i y hy with h | ⟨k', t', h1, h2⟩
    · exact .inl h
    · exact .inr ⟨k', t', h1, by rw [next_pre (by omega)]; exact h2⟩
  · have hl := (List.getElem?_eq_some_iff.mp hy).1
    rw [List.length_append, List.length_singleton] at hl
    rw [List.getElem?_append_right (by omega), show i - ns.length = 0 by omega] at hy
    obtain rfl : x = y := by simpa using hy
    exact .inr ⟨k, t, by omega, by rw [next_pre hk]; exact e⟩
/-- no node of a search hits, where it stops at hits -/
def NoHit (M : MachD) (gs : List Rq) (st : Bool) (ns : List Nd) : Prop := st = true → ∀ x ∈ ns, ¬ HitP M gs x.rm x.zn
theorem leN_refl (n : Nat) (A : Mx) : LeN n A A := fun i j _ _ => leO_refl _
section
variable {M : MachD} {gs : List Rq} {mo : List (Option Int)} {fr : Option Nat} {st : Bool} {most k : Nat}
structure DoorsOk (M : MachD) (gs : List Rq) (mo : List (Option Int)) (fr : Option Nat) (st : Bool) (most k : Nat) (ts : List Nat) (ns ns' : List Nd) : Prop where
  pre : ∃ l, ns' = ns ++ l
  chain : Chain M mo fr ns'
  noh : NoHit M gs st ns'
  len : ns'.length ≤ most
  cov : ∀ t ∈ ts, ∀ x, nextO M mo fr ns k t = some x → Cov (dimM M) ns' x
def HitEnd (M : MachD) (gs : List Rq) (mo : List (Option Int)) (fr : Option Nat) (st : Bool) (most : Nat) (ns' : List Nd) (hit : Bool) : Prop := hit = true ∧ st = true ∧ Chain M mo fr ns' ∧ ns'.length ≤ most ∧ ∃ l x, ns' = l ++ [x] ∧ HitP M gs x.rm x.zn
theorem doorsS_ok : ∀ (ts : List Nat) (ns : List Nd), Chain M mo fr ns → NoHit M gs st ns → ns.length ≤ most → k < ns.length →
    match doorsS M gs mo fr st most k ts ns with
    | .inl .many => True
    | .inl (.done ns' hit) => HitEnd M gs mo fr st most ns' hit
    | .inr ns' => DoorsOk M gs mo fr st most k ts ns ns'
  | [], ns, c, h, l, hk => by
    unfold doorsS
    exact ⟨⟨[], by simp⟩, c, h, l, fun t ht => by cases ht⟩
  | t :: ts, ns, c, h, l, hk => by
    unfold doorsS
    cases e : nextO M mo fr ns k t with
    | none =>
      have ih := doorsS_ok ts ns c h l hk
      dsimp only
      generalize doorsS M gs mo fr st most k ts ns = D at *
      rcases D with (_ | ⟨ns', hit⟩) | ns'
      · trivial
      · exact ih
      · refine ⟨ih.pre, ih.chain, ih.noh, ih.len, fun t' ht' x hx => ?_⟩
        rcases List.mem_cons.mp ht' with rfl | ht'
        · rw [e] at hx; cases hx
        · exact ih.cov t' ht' x hx
    | some x =>
      dsimp only
      by_cases nw : NewP (dimM M) ns x
      · rw [if_pos nw]
        by_cases lm : most ≤ ns.length
        · rw [if_pos lm]; trivial
        · rw [if_neg lm]
          have c2 := chain_app c hk e
          have l2 : (ns ++ [x]).length ≤ most := by rw [List.length_append, List.length_singleton]; omega
          by_cases hh : st = true ∧ HitP M gs x.rm x.zn
          · rw [if_pos hh]
            exact ⟨rfl, hh.1, c2, l2, ns, x, rfl, hh.2⟩
          · rw [if_neg hh]
            have h2 : NoHit M gs st (ns ++ [x]) := fun hst y hy => by
              rcases List.mem_append.mp hy with hy | hy
              · exact h hst y hy
              · rw [show y = x by simpa using hy]; exact fun z => hh ⟨hst, z⟩
            have ih := doorsS_ok ts (ns ++ [x]) c2 h2 l2 (by rw [List.length_append, List.length_singleton]; omega)
            generalize doorsS M gs mo fr st most k ts (ns ++ [x]) = D at *
            rcases D with (_ | ⟨ns', hit⟩) | ns'
            · trivial
            · exact ih
            · obtain ⟨l', rfl⟩ := ih.pre
              refine ⟨⟨[x] ++ l', by simp⟩, ih.chain, ih.noh, ih.len, fun t' ht' y hy => ?_⟩
              rcases List.mem_cons.mp ht' with rfl | ht'
              · rw [e] at hy; cases hy
                exact ⟨x, by simp, rfl, leN_refl _ _⟩
              · exact ih.cov t' ht' y (by rw [next_pre hk]; exact hy)
      · rw [if_neg nw]
        have ih := doorsS_ok ts ns c h l hk
        generalize doorsS M gs mo fr st most k ts ns = D at *
        rcases D with (_ | ⟨ns', hit⟩) | ns'
        · trivial
        · exact ih
        · obtain ⟨l', rfl⟩ := ih.pre
          refine ⟨⟨l', rfl⟩, ih.chain, ih.noh, ih.len, fun t' ht' y hy => ?_⟩
          rcases List.mem_cons.mp ht' with rfl | ht'
          · rw [e] at hy; cases hy
            obtain ⟨o, ho, k1, k2⟩ : ∃ o ∈ ns, o.rm = x.rm ∧ LeN (dimM M) x.zn o.zn := Classical.byContradiction fun z => nw fun o ho k1 k2 => z ⟨o, ho, k1, k2⟩
            exact ⟨o, List.mem_append_left _ ho, k1, k2⟩
          · exact ih.cov t' ht' y hy
def ClosedTo (M : MachD) (mo : List (Option Int)) (fr : Option Nat) (k : Nat) (ns : List Nd) : Prop := ∀ j, j < k → ∀ t, t < M.doors.length → ∀ x, nextO M mo fr ns j t = some x → Cov (dimM M) ns x
theorem Cov.mono {n : Nat} {ns l : List Nd} {x : Nd} (h : Cov n ns x) : Cov n (ns ++ l) x := by
  obtain ⟨o, ho, a, b⟩ := h
  exact ⟨o, List.mem_append_left _ ho, a, b⟩
structure SearchEnd (M : MachD) (gs : List Rq) (mo : List (Option Int)) (fr : Option Nat) (st : Bool) (most : Nat) (ns : List Nd) : Prop where
  chain : Chain M mo fr ns
  noh : NoHit M gs st ns
  len : ns.length ≤ most
  cls : ClosedTo M mo fr ns.length ns
theorem outerS_ok : ∀ (f k : Nat) (ns : List Nd), Chain M mo fr ns → NoHit M gs st ns → ns.length ≤ most → k ≤ ns.length → most + 1 ≤ f + k → ClosedTo M mo fr k ns →
    match outerS M gs mo fr st most f k ns with
    | .many => True
    | .done ns' hit => HitEnd M gs mo fr st most ns' hit ∨ (hit = false ∧ (∃ l, ns' = ns ++ l) ∧ SearchEnd M gs mo fr st most ns')
  | 0, k, ns, _, _, l, hk, hf, _ => by omega
  | f + 1, k, ns, c, h, l, hk, hf, cl => by
    unfold outerS
    by_cases hlt : k < ns.length
    · rw [if_pos hlt]
      have ih := doorsS_ok (gs := gs) (st := st) (most := most) (List.range M.doors.length) ns c h l hlt
      generalize doorsS M gs mo fr st most k (List.range M.doors.length) ns = D at *
      rcases D with (_ | ⟨ns', hit⟩) | ns'
      · trivial
      · exact .inl ih
      · obtain ⟨l', rfl⟩ := ih.pre
        have ih2 := outerS_ok f (k + 1) (ns ++ l') ih.chain ih.noh ih.len (by rw [List.length_append]; omega) (by omega) (fun j hj t ht x hx => by
          rw [next_pre (by omega)] at hx
          by_cases e : j = k
          · subst e; exact ih.cov t (List.mem_range.mpr ht) x hx
          · exact (cl j (by omega) t ht x hx).mono)
        dsimp only
        generalize outerS M gs mo fr st most f (k + 1) (ns ++ l') = R at *
        cases R with
        | many => trivial
        | done ns' hit =>
          rcases ih2 with h | ⟨h1, ⟨l2, h2⟩, h3⟩
          · exact .inl h
          · exact .inr ⟨h1, ⟨l' ++ l2, by rw [h2, List.append_assoc]⟩, h3⟩
    · rw [if_neg hlt]
      have : k = ns.length := by omega
      subst this
      exact .inr ⟨rfl, ⟨[], by simp⟩, c, h, l, cl⟩
theorem searchS_ok (hm : 1 ≤ most) : match searchS M gs mo fr st most with
    | .many => True
    | .done ns hit => (ns = [] ∧ hit = false ∧ settledO M (room0 M) mo fr oneM = none) ∨ (∃ Z l, settledO M (room0 M) mo fr oneM = some Z ∧ ns = ⟨room0 M, Z, none, none⟩ :: l ∧ (HitEnd M gs mo fr st most ns hit ∨ (hit = false ∧ SearchEnd M gs mo fr st most ns))) := by
  unfold searchS
  cases e : settledO M (room0 M) mo fr oneM with
  | none => exact .inl ⟨rfl, rfl, rfl⟩
  | some Z =>
    dsimp only
    have c0 : Chain M mo fr [⟨room0 M, Z, none, none⟩] := fun i x hx => by
      cases i with
      | zero =>
        obtain rfl : (⟨room0 M, Z, none, none⟩ : Nd) = x := by simpa using hx
        exact .inl ⟨rfl, Z, e, rfl⟩
      | succ i => simp at hx
    by_cases hh : st = true ∧ HitP M gs (room0 M) Z
    · rw [if_pos hh]
      exact .inr ⟨Z, [], rfl, rfl, .inl ⟨rfl, hh.1, c0, by simpa using hm, [], _, rfl, hh.2⟩⟩
    · rw [if_neg hh]
      have h0 : NoHit M gs st [⟨room0 M, Z, none, none⟩] := fun hst y hy => by
        rw [show y = ⟨room0 M, Z, none, none⟩ by simpa using hy]; exact fun z => hh ⟨hst, z⟩
      have ih := outerS_ok (gs := gs) (st := st) (most := most) (most + 1) 0 _ c0 h0 (by simpa using hm) (Nat.zero_le _) (by omega) (fun j hj => by omega)
      generalize hR : outerS M gs mo fr st most (most + 1) 0 [⟨room0 M, Z, none, none⟩] = R at *
      cases R with
      | many => trivial
      | done ns hit =>
        have first : ∃ l, ns = ⟨room0 M, Z, none, none⟩ :: l := by
          rcases ih with h | ⟨_, ⟨l, h⟩, _⟩
          · obtain ⟨_, _, ch, _, l, x, rfl, _⟩ := h
            cases l with
            | nil =>
              rcases ch 0 x rfl with ⟨_, Z', e', rfl⟩ | ⟨k, t, h, _⟩
              · rw [e] at e'; cases e'; exact ⟨[], rfl⟩
              · omega
            | cons y l =>
              rcases ch 0 y rfl with ⟨_, Z', e', rfl⟩ | ⟨k, t, h, _⟩
              · rw [e] at e'; cases e'; exact ⟨l ++ [x], rfl⟩
              · omega
          · exact ⟨l, h⟩
        obtain ⟨l, rfl⟩ := first
        refine .inr ⟨Z, l, rfl, rfl, ?_⟩
        rcases ih with h | ⟨h1, _, h3⟩
        · exact .inl h
        · exact .inr ⟨h1, h3⟩
end
/-! ### the list of a search is let by: plain -/
theorem nrwO_nar {n : Nat} {N : Mx} (R : Nar n N) : nrwO n N = some N := by
  have e := R.idem
  rw [nrwO_pos fun i hi => by unfold Pos; rw [e, R.one i hi]; exact leO_refl _, e]
def Asked (M : MachD) (mo : List (Option Int)) : Prop := ∀ r ∈ M.rooms, ∀ l ∈ lks M.watches r.2, UpL (dimM M) (mostAt mo) l
theorem most0 (mo : List (Option Int)) : mostAt mo 0 = some 0 := rfl
section
variable {M : MachD} {mo : List (Option Int)} {fr : Option Nat}
theorem settled_split {r : Rq} {N X : Mx} (ok : MachOk M) (hr : r ∈ M.rooms) (e : settledO M r.1 mo fr X = some N) : ∃ X1 Y, metO (dimM M) X (lks M.watches r.2) = some X1 ∧ metO (dimM M) (waitM X1) (lks M.watches r.2) = some Y ∧ N = freeOf fr (nrw (dimM M) (turnM Y (mostAt mo))) ∧ PosAll (dimM M) (nrw (dimM M) (turnM Y (mostAt mo))) := by
  unfold settledO stayO at e
  rw [stayOf_at ok.rnd hr] at e
  obtain ⟨X1, h1, e⟩ := Option.bind_eq_some_iff.mp e
  obtain ⟨Y, h2, e⟩ := Option.bind_eq_some_iff.mp e
  obtain ⟨Z, h3, rfl⟩ := Option.map_eq_some_iff.mp e
  obtain ⟨rfl, p⟩ := nrwO_some h3
  exact ⟨X1, Y, h1, h2, rfl, p⟩
theorem settled_nar {r : Rq} {N X : Mx} (ok : MachOk M) (hr : r ∈ M.rooms) (fok : FrOk M fr) (e : settledO M r.1 mo fr X = some N) : Nar (dimM M) N := by
  obtain ⟨X1, Y, _, _, rfl, p⟩ := settled_split ok hr e
  have R := Nar.of_nrw p
  cases fr with
  | none => exact R
  | some q => exact free_nar R (by have := (fok q rfl).1; omega)
theorem free_ge (fr : Option Nat) (N : Mx) : LeM N (freeOf fr N) := fun a b => by
  cases fr with
  | none => exact leO_refl _
  | some p => unfold freeOf freeM; dsimp only; split; exact leO_none _; exact leO_refl _
theorem settled_stay {r : Rq} {N X S : Mx} (ok : MachOk M) (hr : r ∈ M.rooms) (fok : FrOk M fr) (ask : Asked M mo) (e : settledO M r.1 mo fr X = some N) (h : stayO M r.1 (waitM N) = some S) : LeN (dimM M) S N := by
  have R := settled_nar ok hr fok e
  obtain ⟨X1, Y, h1, h2, eN, p⟩ := settled_split ok hr e
  have hL := ask r hr
  have up : ∀ l ∈ lks M.watches r.2, l.2.1 = .lt ∨ l.2.1 = .le := fun l hl => (hL l hl).wd
  unfold stayO at h
  rw [stayOf_at ok.rnd hr] at h
  obtain ⟨rfl, pS⟩ := nrwO_some h
  have RS := Nar.of_nrw pS
  intro i j hi hj
  by_cases c : j = 0 ∧ 1 ≤ i
  · obtain ⟨rfl, c⟩ := c
    cases eb : N i 0 with
    | none => exact leO_none _
    | some b =>
      -- not the freed row
      have hi' : ∀ q, fr = some q → i ≠ q := fun q hq y => by
        subst y hq
        rw [eN] at eb
        unfold freeOf freeM at eb
        dsimp only at eb
        rw [if_pos ⟨rfl, by omega⟩] at eb
        cases eb
      have row : ∀ k, N i k = nrw (dimM M) (turnM Y (mostAt mo)) i k := fun k => by
        rw [eN]
        cases fr with
        | none => rfl
        | some q =>
          unfold freeOf freeM
          dsimp only
          rw [if_neg fun z => hi' q rfl z.1]
      rw [row 0] at eb
      obtain ⟨l, hl, hle⟩ := wait_fold (most0 mo) hL h2 c hi eb
      rw [← row (l.1 + 1)] at hle
      refine leO_trans (RS.tri _ (hL l hl).pl i 0 hi (by omega)) (leO_trans (addO_mono ?_ ?_) hle)
      · refine leO_trans (nrw_le _ _ _ _) ?_
        rw [up_else up (by omega)]
        unfold waitM
        rw [if_neg (by omega)]
        exact leO_refl _
      · exact leO_trans (nrw_le _ _ _ _) (up_sat up l hl)
  · refine leO_trans (nrw_le _ _ _ _) ?_
    rw [up_else up c]
    unfold waitM
    rw [if_neg (by omega)]
    exact leO_refl _
theorem met_ge {n : Nat} {X Y : Mx} {L : List Look} (h : metO n X L = some Y) : ∃ Z, metO n (waitM Y) L = some Z ∧ LeM Y Z := by
  obtain ⟨e, p⟩ := nrwO_some h
  have le : LeM Y (lookM X L) := by rw [e]; exact nrw_le n _
  have sat : ∀ l ∈ L, SatL Y l := fun l hl => sat_mono le (look_sat L X l hl)
  have ge := lookM_ge L (waitM Y) (wait_ge Y) sat
  have idem : nrw n Y = Y := by rw [e]; exact (Nar.of_nrw p).idem
  have mono := nrw_mono (n := n) ge
  rw [idem] at mono
  obtain ⟨Z, hZ⟩ := met_again h
  refine ⟨Z, hZ, ?_⟩
  rw [(nrwO_some hZ).1]
  exact mono
theorem settled_in {r : Rq} {N X S : Mx} (ok : MachOk M) (hr : r ∈ M.rooms) (e : settledO M r.1 mo fr X = some N) (h : stayO M r.1 X = some S) : LeM S N := by
  obtain ⟨X1, Y, h1, h2, eN, p⟩ := settled_split ok hr e
  unfold stayO at h
  rw [stayOf_at ok.rnd hr, h1] at h
  cases h
  obtain ⟨Z, hZ, hle⟩ := met_ge h1
  rw [h2] at hZ
  cases hZ
  rw [eN]
  refine hle.trans (LeM.trans ?_ (free_ge fr _))
  have iY : nrw (dimM M) Y = Y := by
    obtain ⟨eY, pY⟩ := nrwO_some h2
    rw [eY]; exact (Nar.of_nrw pY).idem
  have mono := nrw_mono (n := dimM M) (turnM_le Y (mostAt mo))
  rw [iY] at mono
  exact mono
theorem settled_some {r : Rq} {X S : Mx} (ok : MachOk M) (hr : r ∈ M.rooms) (h : stayO M r.1 X = some S) : ∃ N, settledO M r.1 mo fr X = some N := by
  unfold settledO
  obtain ⟨Y, hY⟩ := stay_again h
  have hY2 := hY
  unfold stayO at hY2
  rw [h]
  show ∃ N, (stayO M r.1 (waitM S)).bind _ = some N
  rw [hY]
  show ∃ N, Option.map _ _ = some N
  rw [nrwO_pos (fold_pos hY2)]
  exact ⟨_, rfl⟩
theorem room0_mem (ok : MachOk M) : ∃ r ∈ M.rooms, r.1 = room0 M := by
  obtain ⟨r0, hr0⟩ : ∃ r0, M.rooms[0]? = some r0 := ⟨_, List.getElem?_eq_getElem (List.length_pos_iff.mpr ok.rne)⟩
  exact ⟨r0, List.mem_of_getElem? hr0, by unfold room0; rw [List.headD_eq_head?_getD, List.head?_eq_getElem?, hr0]; rfl⟩
theorem chain_room {ns : List Nd} (ok : MachOk M) (c : Chain M mo fr ns) {x : Nd} (hx : x ∈ ns) : ∃ r ∈ M.rooms, r.1 = x.rm ∧ ∃ X, settledO M r.1 mo fr X = some x.zn := by
  obtain ⟨i, hi, e⟩ := List.mem_iff_getElem.mp hx
  have h1 := List.getElem?_eq_getElem hi
  rw [e] at h1
  rcases c i x h1 with ⟨_, Z, hZ, rfl⟩ | ⟨k, t, _, h⟩
  · obtain ⟨r, hr, er⟩ := room0_mem ok
    exact ⟨r, hr, er, oneM, by rw [er]; exact hZ⟩
  · obtain ⟨d, y, Z, Y, hd, h2, _, _, h4, h5, rfl⟩ := nextO_some h
    obtain ⟨r, hr, er⟩ := List.mem_map.mp (ok.door (List.mem_of_getElem? hd)).2.2.1
    exact ⟨r, hr, er, Z, by rw [er]; exact h5⟩
theorem lets_of {gs : List Rq} {most : Nat} {ns : List Nd} {hit : Bool} {paper : List (Str × Mx)} (ok : MachOk M) (fok : FrOk M fr) (ask : Asked M mo) (hm : 1 ≤ most) (h : searchS M gs mo fr true most = .done ns hit)
    (hz : ∀ r Z, Z ∈ zonesP (dimM M) paper r ↔ ∃ x ∈ ns, x.rm = r ∧ x.zn = Z) : LetsP M gs paper ↔ hit = false := by
  have s := searchS_ok (M := M) (gs := gs) (mo := mo) (fr := fr) (st := true) hm
  rw [h] at s
  have cov : ∀ {x : Nd} {S : Mx}, Cov (dimM M) ns x → LeN (dimM M) S x.zn → ∃ Z ∈ zonesP (dimM M) paper x.rm, LeN (dimM M) S Z := fun {x S} ⟨o, ho, e, l⟩ hS => ⟨o.zn, (hz _ _).mpr ⟨o, ho, e, rfl⟩, fun i j hi hj => leO_trans (hS i j hi hj) (l i j hi hj)⟩
  have hd0 : (M.rooms.headD ("", [])).1 = room0 M := rfl
  obtain ⟨r0, hr0, er0⟩ := room0_mem ok
  rcases s with ⟨rfl, rfl, e0⟩ | ⟨Z, l, e0, rfl, he | ⟨rfl, he⟩⟩
  · refine ⟨fun _ => rfl, fun _ => ⟨fun Y hY => ?_, fun r hr N hN => ?_⟩⟩
    · rw [hd0, ← er0] at hY
      obtain ⟨N, hN⟩ := settled_some (mo := mo) (fr := fr) ok hr0 hY
      rw [er0, e0] at hN; cases hN
    · obtain ⟨x, hx, _⟩ := (hz _ _).mp hN
      cases hx
  · obtain ⟨rfl, _, ch, _, l', x, el, hh⟩ := he
    refine ⟨fun L => ?_, fun h => by cases h⟩
    exfalso
    have hx : x ∈ (⟨room0 M, Z, none, none⟩ :: l : List Nd) := by rw [el]; simp
    obtain ⟨r, hr, er, _⟩ := chain_room ok ch hx
    have := (L.2 r hr x.zn ((hz _ _).mpr ⟨x, hx, er.symm, rfl⟩)).1
    rw [er] at this
    exact this hh
  · refine ⟨fun _ => rfl, fun _ => ⟨fun Y hY => ?_, fun r hr N hN => ?_⟩⟩
    · rw [hd0, ← er0] at hY
      rw [← er0] at e0
      have le := settled_in ok hr0 e0 hY
      exact ⟨Z, (hz _ _).mpr ⟨_, List.mem_cons_self, rfl, rfl⟩, fun i j _ _ => le i j⟩
    · obtain ⟨x, hx, ex, rfl⟩ := (hz _ _).mp hN
      obtain ⟨i, hi, e⟩ := List.mem_iff_getElem.mp hx
      have h1 := List.getElem?_eq_getElem hi
      rw [e] at h1
      refine ⟨by rw [← ex]; exact he.noh rfl x hx, fun Y hY => ?_, fun d hd hst hsg X hX Y hY => ?_⟩
      · obtain ⟨r', hr', er', X, hX⟩ := chain_room ok he.chain hx
        have err : r'.1 = r.1 := by rw [er', ex]
        rw [err] at hX
        exact ⟨x.zn, (hz _ _).mpr ⟨x, hx, ex, rfl⟩, settled_stay ok hr fok ask hX hY⟩
      · obtain ⟨t, ht, et⟩ := List.mem_iff_getElem.mp hd
        have h2 := List.getElem?_eq_getElem ht
        rw [et] at h2
        obtain ⟨r2, hr2, er2⟩ := List.mem_map.mp (ok.door hd).2.2.1
        rw [← er2] at hY
        obtain ⟨N2, hN2⟩ := settled_some (mo := mo) (fr := fr) ok hr2 hY
        have nx : nextO M mo fr (⟨room0 M, Z, none, none⟩ :: l) i t = some ⟨d.en, N2, some i, some t⟩ := by
          unfold nextO
          rw [h2, h1]
          show (if d.st = x.rm ∧ d.sg = "" then _ else none) = _
          rw [if_pos ⟨by rw [hst, ex], hsg⟩, hX]
          show Option.map _ (settledO M d.en mo fr X) = _
          rw [← er2, hN2]; rfl
        have le := settled_in ok hr2 hN2 hY
        exact cov (he.cls i hi t ht _ nx) fun a b _ _ => le a b
end
/-- a door whose parts are all new -/
def MdAt (C : Addr) (Hb : Hp) (Hx : Hp) (q : Addr) (d : DoorD) : Prop := ∃ dx g n, Hx q = some (.ins C dx (doorF d.st d.en d.sg g n)) ∧ LsAt Hx g d.looks ∧ Hx n = some (.lst (d.backs.map V.str)) ∧ Hb q = none ∧ Hb g = none ∧ Hb n = none
theorem MdAt.keep {C : Addr} {Hb : Hp} : ∀ (H H' : Hp) (q : Addr) (d : DoorD), Same H H' → MdAt C Hb H q d → MdAt C Hb H' q d := fun _ _ _ _ s ⟨dx, g, n, a, b, c, e⟩ => ⟨dx, g, n, s _ _ a, b.keep s, s _ _ c, e⟩
theorem del_rem {D : Addr} {H : Hp} : remU (fun b => b = D) H = delH D H := by
  funext b
  unfold remU delH
  by_cases h : b = D
  · rw [if_pos h, if_pos h]
  · rw [if_neg h, if_neg h]
theorem ix_last {K : PySem.W.Frag} {H : Hp} {p : Addr} {xs : List V} {v : V} {Q : VK} (h : SqL K H p xs) (hv : xs.getLast? = some v) (q : Q v H) : rIxL K (.ref p) (.int (-1)) H Q := by
  obtain ⟨ys, e⟩ := List.getLast?_eq_some_iff.mp hv
  exact ⟨p, xs, -1, v, rfl, rfl, h, by rw [e]; exact atI_last ys v, q⟩
/-! ### the greatest number asked about -/
def numsW (w : Str) (ls : List Lq) : List Int := ls.filterMap fun l => if l.1 = w then some (numOf l.2.2) else none
theorem numsW_cons (w : Str) (l : Lq) (ls : List Lq) : numsW w (l :: ls) = (if l.1 = w then [numOf l.2.2] else []) ++ numsW w ls := by
  unfold numsW
  rw [List.filterMap_cons]
  by_cases h : l.1 = w
  · rw [if_pos h, if_pos h]; rfl
  · rw [if_neg h, if_neg h]; rfl
theorem fold_best (w : Str) : ∀ (ls : List Lq) (a : Int), a ≤ ls.foldl (bst w) a ∧ (ls.foldl (bst w) a = a ∨ ls.foldl (bst w) a ∈ numsW w ls) ∧ ∀ y ∈ numsW w ls, y ≤ ls.foldl (bst w) a := by
  intro ls
  induction ls with
  | nil => intro a; exact ⟨Int.le_refl _, .inl rfl, fun y h => by cases h⟩
  | cons l ls ih =>
    intro a
    have h := ih (bst w a l)
    rw [List.foldl_cons, numsW_cons]
    by_cases c : l.1 = w
    · have e : bst w a l = if numOf l.2.2 > a then numOf l.2.2 else a := by unfold bst; rw [if_pos c]
      rw [if_pos c]
      have le : a ≤ bst w a l ∧ numOf l.2.2 ≤ bst w a l ∧ (bst w a l = a ∨ bst w a l = numOf l.2.2) := by
        rw [e]; split <;> omega
      refine ⟨by omega, ?_, fun y hy => ?_⟩
      · rcases h.2.1 with h1 | h1
        · rw [h1]
          rcases le.2.2 with h2 | h2
          · exact .inl h2
          · exact .inr (by rw [h2]; simp)
        · exact .inr (List.mem_append_right _ h1)
      · rcases List.mem_append.mp hy with h1 | h1
        · have : y = numOf l.2.2 := by simpa using h1
          rw [this]; omega
        · exact h.2.2 y h1
    · have e : bst w a l = a := by unfold bst; rw [if_neg c]
      rw [e] at h ⊢
      rw [if_neg c]
      exact ⟨h.1, by simpa using h.2.1, fun y hy => h.2.2 y (by simpa using hy)⟩
theorem best_max (w : Str) : ∀ (gss : List (List Lq)) (a : Int), a ≤ gss.foldl (fun a ls => ls.foldl (bst w) a) a ∧ (gss.foldl (fun a ls => ls.foldl (bst w) a) a = a ∨ gss.foldl (fun a ls => ls.foldl (bst w) a) a ∈ gss.flatMap (numsW w)) ∧ ∀ y ∈ gss.flatMap (numsW w), y ≤ gss.foldl (fun a ls => ls.foldl (bst w) a) a := by
  intro gss
  induction gss with
  | nil => intro a; exact ⟨Int.le_refl _, .inl rfl, fun y h => by cases h⟩
  | cons g gss ih =>
    intro a
    have h1 := fold_best w g a
    have h := ih (g.foldl (bst w) a)
    rw [List.foldl_cons, List.flatMap_cons]
    refine ⟨by omega, ?_, fun y hy => ?_⟩
    · rcases h.2.1 with h2 | h2
      · rw [h2]
        rcases h1.2.1 with h3 | h3
        · exact .inl h3
        · exact .inr (List.mem_append_left _ h3)
      · exact .inr (List.mem_append_right _ h2)
    · rcases List.mem_append.mp hy with h2 | h2
      · have := h1.2.2 y h2; omega
      · exact h.2.2 y h2
theorem max_best {w : Str} {gss : List (List Lq)} {m : Int} (h1 : m ∈ 0 :: gss.flatMap (numsW w)) (h2 : ∀ y ∈ 0 :: gss.flatMap (numsW w), y ≤ m) : m = best w gss := by
  have b := best_max w gss 0
  unfold best
  have hb : gss.foldl (fun a ls => ls.foldl (bst w) a) 0 ∈ 0 :: gss.flatMap (numsW w) := by
    rcases b.2.1 with h | h
    · rw [h]; exact List.mem_cons_self ..
    · exact List.mem_cons_of_mem _ h
  have le := h2 _ hb
  have ge : m ≤ gss.foldl (fun a ls => ls.foldl (bst w) a) 0 := by
    rcases List.mem_cons.mp h1 with h | h
    · rw [h]; exact b.1
    · exact b.2.2 m h
  omega
/-! ### new zones over a range; what mosts ask -/
theorem lcR_zone {n : Nat} {M : Mx} {g : TG} {te : TE} {vs : List Nat} {σ : L2.St} {H : Hp} {Q : VK} (hn : n ≤ 60)
    (ht : ∀ (j : Nat) (H2 : Hp) (Yes : VK), j < n → Same H H2 → (∀ r H5, Same H2 H5 → H2 r = none → H5 r = some (.lst (zrow n (M j))) → Yes (.ref r) H5) → g (.int (0 + (j : Int))) (wipe σ vs) H2 fun σ2 H3 => wipe σ2 vs = wipe σ vs ∧ te σ2 H3 Yes)
    (q : ∀ D as' H', Same H H' → ZAt H' D as' n M → H D = none → (∀ a ∈ as', H a = none) → Q (.ref D) H') : LcGR n g tYes te vs σ H Q := fun D hD => by
  refine lc_range (lo := 0) (n := n) (fun i H' => ∃ as' : List Addr, Same H H' ∧ H' D = some (.lst (as'.map V.ref)) ∧ as'.length = i ∧ as'.Nodup ∧ (∀ a ∈ as', H a = none ∧ a ≠ D) ∧ ∀ (j : Nat) (a : Addr), as'[j]? = some a → H' a = some (.lst (zrow n (M j))))
    ⟨[], upd_keep hD, upd_same, rfl, List.nodup_nil, (fun a h => by cases h), (fun j a h => by cases h)⟩ ?_ ?_
  · rintro i H' hi ⟨as', sm, eD, hl, nd, hf, hr⟩
    have := ht i H' (fun y H4 => ∃ acc, H4 D = some (.lst acc) ∧ acc.length < sizeLine ∧ ∃ as' : List Addr, Same H (upd H4 D (.lst (acc ++ [y]))) ∧ (upd H4 D (.lst (acc ++ [y]))) D = some (.lst (as'.map V.ref)) ∧ as'.length = i + 1 ∧ as'.Nodup ∧ (∀ a ∈ as', H a = none ∧ a ≠ D) ∧ ∀ (j : Nat) (a : Addr), as'[j]? = some a → (upd H4 D (.lst (acc ++ [y]))) a = some (.lst (zrow n (M j)))) hi sm (fun l H2 s2 fl e2 => ?_)
    · simpa only [tYes, if_true] using this
    have nD : l ≠ D := fun e => by rw [e, eD] at fl; cases fl
    have nl : l ∉ as' := fun hm => by
      obtain ⟨j, hj, e⟩ := List.mem_iff_getElem.mp hm
      have := hr j l (by rw [List.getElem?_eq_getElem hj, e])
      rw [fl] at this; cases this
    refine ⟨as'.map V.ref, s2 _ _ eD, by rw [List.length_map, hl]; exact small1000 (by omega), as' ++ [l], same_updN hD (sm.trans s2), ?_, by simp [hl], ?_, ?_, ?_⟩
    · rw [upd_same, List.map_append]; rfl
    · rw [List.nodup_append]
      refine ⟨nd, by simp, fun a ha b hb e => ?_⟩
      have : b = l := by simpa using hb
      exact nl (by rw [← this, ← e]; exact ha)
    · intro a ha
      rcases List.mem_append.mp ha with h | h
      · exact hf a h
      · have : a = l := by simpa using h
        subst this
        exact ⟨sm.free fl, nD⟩
    · intro j a hj
      by_cases c1 : j < as'.length
      · rw [List.getElem?_append_left c1] at hj
        rw [upd_ne (hf a (List.mem_of_getElem? hj)).2]
        exact s2 _ _ (hr j a hj)
      · have hlt := (List.getElem?_eq_some_iff.mp hj).1
        rw [List.length_append, List.length_singleton] at hlt
        obtain rfl : j = as'.length := by omega
        rw [List.getElem?_append_right (Nat.le_refl _), Nat.sub_self] at hj
        have : l = a := by simpa using hj
        subst this
        rw [upd_ne nD, hl]
        exact e2
  · rintro H' ⟨as', sm, eD, hl, nd, hf, hr⟩
    exact q D as' H' sm ⟨eD, hl, hr, nd⟩ hD fun a ha => (hf a ha).1
theorem cutTo3 (xs : List V) (k : Nat) : cutV xs none (some (k : Int)) = xs.take k := by
  unfold cutV
  rw [HT.sIx_none, HT.sIx_nat, List.drop_zero, Nat.sub_zero]
  by_cases h : k ≤ xs.length
  · rw [Nat.min_eq_left h]
  · rw [Nat.min_eq_right (by omega), List.take_of_length_le (Nat.le_refl _), List.take_of_length_le (by omega)]
theorem best_ge {w : Str} {gss : List (List Lq)} {ls : List Lq} {l : Lq} (h1 : ls ∈ gss) (h2 : l ∈ ls) (e : l.1 = w) : numOf l.2.2 ≤ best w gss := by
  refine (best_max w gss 0).2.2 _ (List.mem_flatMap.mpr ⟨ls, h1, ?_⟩)
  unfold numsW
  exact List.mem_filterMap.mpr ⟨l, h2, if_pos e⟩
theorem wd_up {s : Str} (h : s ∈ (["<", "<="] : List Str)) : wdOf s = .lt ∨ wdOf s = .le := by
  simp only [List.mem_cons, List.not_mem_nil, or_false] at h
  rcases h with rfl | rfl
  · left; unfold wdOf; rw [if_pos rfl]
  · right; unfold wdOf; rw [if_neg (by decide +kernel), if_pos rfl]
theorem asked_mosts {M : MachD} {gs : List Rq} {fr : Option Nat} (ok : MachOk M) (fok : FrOk M fr) (hfr : ∀ p, fr = some p → ∀ r ∈ M.rooms, ∀ l ∈ r.2, M.watches.idxOf l.1 + 1 ≠ p) : Asked M (mostsOf M gs fr) := fun r hr l hl => by
  obtain ⟨x, hx, rfl⟩ := List.mem_map.mp hl
  have rk := List.all_eq_true.mp ok.rok r hr
  unfold roomOk at rk
  have gk := (Bool.and_eq_true_iff.mp rk).2
  have k := look_parts (List.all_eq_true.mp gk x hx)
  have il := List.idxOf_lt_length_iff.mpr k.1
  refine ⟨by show M.watches.idxOf x.1 + 1 < dimM M; unfold dimM; omega, wd_up k.2.1, numOf_nn (List.all_eq_true.mp gk x hx), best x.1 (allG M gs), ?_, best_ge (List.mem_append_left _ (List.mem_append_left _ (List.mem_map_of_mem hr))) hx rfl⟩
  have e0 : (M.watches.map fun w => some (best w (allG M gs)))[M.watches.idxOf x.1]? = some (some (best x.1 (allG M gs))) := by
    rw [List.getElem?_map, List.getElem?_eq_getElem il, List.getElem_idxOf]; rfl
  have e1 : (mostsOf M gs fr)[M.watches.idxOf x.1]? = some (some (best x.1 (allG M gs))) := by
    cases hf : fr with
    | none => exact e0
    | some p =>
      show ((M.watches.map fun w => some (best w (allG M gs))).set (p - 1) none)[M.watches.idxOf x.1]? = _
      have hn := hfr p hf r hr x hx
      by_cases c : p - 1 = M.watches.idxOf x.1
      · exfalso
        have := (fok p hf).1
        omega
      · rw [List.getElem?_set_ne c]; exact e0
  show (some 0 :: mostsOf M gs fr).getD (M.watches.idxOf x.1 + 1) none = _
  rw [List.getD_eq_getElem?_getD, List.getElem?_cons_succ, e1]; rfl
theorem seq_zip {α : Type} {R : Hp → Addr → α → Prop} {H : Hp} {p : Addr} {xs : List α} (h : SeqOf R H p xs) : ∃ zq : List (Addr × α), H p = some (.lst (zq.map fun z => V.ref z.1)) ∧ zq.map (·.2) = xs ∧ ∀ z ∈ zq, R H z.1 z.2 := by
  obtain ⟨qs, a, b, c⟩ := h
  refine ⟨qs.zip xs, ?_, ?_, fun z hz => ?_⟩
  · rw [a, show (fun z : Addr × α => V.ref z.1) = V.ref ∘ Prod.fst from rfl, ← List.map_map, List.map_fst_zip (by omega)]
  · exact List.map_snd_zip (by omega)
  · obtain ⟨i, hi, e⟩ := List.mem_iff_getElem.mp hz
    have h1 := List.getElem?_eq_getElem hi
    rw [e, List.getElem?_zip_eq_some] at h1
    exact c i z.1 z.2 h1.1 h1.2
theorem zip_seq {α : Type} {R : Hp → Addr → α → Prop} {H : Hp} {p : Addr} {zq : List (Addr × α)} (h : H p = some (.lst (zq.map fun z => V.ref z.1))) (k : ∀ z ∈ zq, R H z.1 z.2) : SeqOf R H p (zq.map (·.2)) := by
  refine ⟨zq.map (·.1), by rw [List.map_map]; exact h, by simp, fun i q x h1 h2 => ?_⟩
  rw [List.getElem?_map] at h1 h2
  obtain ⟨z, hz, rfl⟩ := Option.map_eq_some_iff.mp h1
  rw [hz] at h2
  obtain rfl : z.2 = x := by simpa using h2
  exact k z (List.mem_of_getElem? hz)
theorem zonesP_mem {n : Nat} {ps : List (Str × Mx)} {r : Str} {Z : Mx} : Z ∈ zonesP n ps r ↔ ∃ y ∈ ps, y.1 = r ∧ nrwO n y.2 = some Z := by
  unfold zonesP
  rw [List.mem_filterMap]
  constructor
  · rintro ⟨y, hy, e⟩
    split at e
    · exact ⟨y, hy, by assumption, e⟩
    · cases e
  · rintro ⟨y, hy, e, h⟩
    exact ⟨y, hy, by rw [if_pos e]; exact h⟩
theorem zero_none {n : Nat} (h : 1 ≤ n) : nrwO n (fun _ _ => some 0) = none := nrwO_no fun c => by
  have := leO_trans (c 0 (by omega)) (nrw_le n (fun _ _ => some 0) 0 0)
  have : (1 : Int) ≤ 0 := this
  omega
theorem same_delN {H H' : Hp} {D : Addr} (f : H D = none) (s : Same H H') : Same H (delH D H') := fun b o e => del_at (fun y => by rw [y, f] at e; cases e) (s _ _ e)
theorem chain_sz {M : MachD} {mo : List (Option Int)} {fr : Option Nat} {ns : List Nd} (ok : MachOk M) (msz : MSz M) (mok : MsOk mo) (c : Chain M mo fr ns) : SzNs (dimM M) ns := by
  intro i
  induction i using Nat.strongRecOn with
  | _ i ih =>
    intro x hx
    rcases c i x hx with ⟨rfl, Z, hZ, rfl⟩ | ⟨k, t, hk, h⟩
    · obtain ⟨r, hr, er⟩ := room0_mem ok
      rw [← er] at hZ
      exact (settledO_sz (s := 300) ok hr (msz.1 r hr) mok (by decide) (one_szP (by decide)) hZ).mono (by omega)
    · obtain ⟨d, y, Z, Y, hd, h2, _, _, h4, h5, rfl⟩ := nextO_some h
      have hdm := List.mem_of_getElem? hd
      obtain ⟨r, hr, er⟩ := List.mem_map.mp (ok.door hdm).2.2.1
      rw [← er] at h5
      have sY := settledO_sz ok hr (msz.1 r hr) mok (by omega) (thruO_szT ok hdm (msz.2 d hdm) (by omega) (ih k hk y h2) h4) h5
      refine sY.mono ?_
      have : 8 * dimM M * (k + 2) ≤ 8 * dimM M * (i + 1) := Nat.mul_le_mul_left _ (by omega)
      have e : 8 * dimM M * (k + 2) = 8 * dimM M * (k + 1) + 8 * dimM M := by rw [show k + 2 = k + 1 + 1 by omega, Nat.mul_add (8 * dimM M) (k + 1) 1, Nat.mul_one]
      omega
/-- a paper that tells the zones of some nodes -/
def PaperOk (n : Nat) (names : List Str) (ns : List Nd) (H : Hp) (q : Addr) (_ : Unit) : Prop := ∃ zq : List (Addr × (Str × Mx)), H q = some (.lst (zq.map fun z => V.ref z.1)) ∧ (∀ z ∈ zq, PpAt n H z.1 z.2) ∧ zq.length ≤ 30 ∧ (∀ z ∈ zq, z.2.1 ∈ names ∧ SzM 3000 z.2.2) ∧ ∀ r Z, (∃ z ∈ zq, z.2.1 = r ∧ nrwO n z.2.2 = some Z) ↔ ∃ x ∈ ns, x.rm = r ∧ x.zn = Z
instance {n : Nat} {names : List Str} {ns : List Nd} : Kp2 (PaperOk n names ns) := ⟨fun _ _ _ _ s ⟨zq, a, b, c⟩ => ⟨zq, s _ _ a, fun z hz => PpAt.keep _ _ _ _ s (b z hz), c⟩⟩
theorem idx_inj {l : List Str} {a b : Str} (ha : a ∈ l) (hb : b ∈ l) (h : l.idxOf a = l.idxOf b) : a = b := by
  have h1 := List.getElem?_eq_getElem (List.idxOf_lt_length_iff.mpr ha)
  have h2 := List.getElem?_eq_getElem (List.idxOf_lt_length_iff.mpr hb)
  rw [List.getElem_idxOf] at h1 h2
  rw [h, h2] at h1
  exact (Option.some.inj h1).symm
/-! ### runs stay in a paper that is let by: plain -/
def numv (v : Nat → Rat) : Nat → Int × Int := fun i => ((v i).num, ((v i).den : Int))
theorem rq_num (x : Rat) : rq (x.num, (x.den : Int)) = x := by
  show (x.num : Rat) / ((x.den : Int) : Rat) = x
  rw [← Rat.divInt_eq_div]
  exact Rat.num_divInt_den x
structure Val (v : Nat → Rat) : Prop where
  zero : v 0 = 0
  nn : ∀ i, 0 ≤ v i
theorem Val.v0 {v : Nat → Rat} (h : Val v) (n : Nat) : Vals0 n (numv v) := by
  refine ⟨?_, fun i _ => ?_, fun i _ => ?_⟩
  · show ((v 0).num, ((v 0).den : Int)) = (0, 1)
    rw [h.zero]; rfl
  · show 0 < ((v i).den : Int)
    have := (v i).den_pos; omega
  · show 0 ≤ (v i).num
    exact Rat.num_nonneg.mpr (h.nn i)
theorem lies_ratS {n : Nat} {M : Mx} {v : Nat → Int × Int} (h : ∀ i, i < n → 0 < (v i).2) : Lies n M v ↔ ∀ i j, i < n → j < n → letsR (M i j) (rq (v i) - rq (v j)) := by
  have key : ∀ i j, i < n → j < n → (letsO (M i j) (dif (v i) (v j)).1 (dif (v i) (v j)).2 = true ↔ letsR (M i j) (rq (v i) - rq (v j))) := fun i j hi hj => by
    rw [lets_rat (dif_pos (h i hi) (h j hj)), ← rq_dif (h i hi) (h j hj)]
  exact ⟨fun k i j hi hj => (key i j hi hj).mp (k i j hi hj), fun k i j hi hj => (key i j hi hj).mpr (k i j hi hj)⟩
theorem lies_num {v : Nat → Rat} (h : Val v) {n : Nat} {M : Mx} : Lies n M (numv v) ↔ LiesR n M v := by
  rw [lies_ratS fun i hi => (h.v0 n).pos i hi]
  unfold LiesR numv
  simp only [rq_num]
def meetQ (l : Look) (x : Rat) : Prop := match l.2.1 with
  | .lt => x < (l.2.2 : Rat)
  | .le => x ≤ (l.2.2 : Rat)
  | .gt => (l.2.2 : Rat) < x
  | .ge => (l.2.2 : Rat) ≤ x
  | .eq => x = (l.2.2 : Rat)
theorem meets_rq {l : Look} {t u : Int} (hu : 0 < u) : meetsL l (t, u) = true ↔ meetQ l (rq (t, u)) := by
  obtain ⟨p, w, k⟩ := l
  have h1 := rq_lt (t := t) k hu
  have h2 := rq_eq (t := t) k hu
  cases w with
  | lt => show decide (t < k * u) = true ↔ rq (t, u) < (k : Rat); rw [decide_eq_true_iff]; exact h1.symm
  | le =>
    show decide (t ≤ k * u) = true ↔ rq (t, u) ≤ (k : Rat)
    rw [decide_eq_true_iff, Rat.le_iff_lt_or_eq, h1, h2]; omega
  | gt =>
    show decide (k * u < t) = true ↔ (k : Rat) < rq (t, u)
    rw [decide_eq_true_iff]
    have : (k : Rat) < rq (t, u) ↔ ¬ (rq (t, u) ≤ (k : Rat)) := by rw [Rat.not_le]
    rw [this, Rat.le_iff_lt_or_eq, h1, h2]; omega
  | ge =>
    show decide (k * u ≤ t) = true ↔ (k : Rat) ≤ rq (t, u)
    rw [decide_eq_true_iff]
    have : (k : Rat) ≤ rq (t, u) ↔ ¬ (rq (t, u) < (k : Rat)) := by rw [Rat.not_lt]
    rw [this, h1]; omega
  | eq => show decide (t = k * u) = true ↔ rq (t, u) = (k : Rat); rw [decide_eq_true_iff]; exact h2.symm
theorem look_R {v : Nat → Rat} (h : Val v) {n : Nat} {M : Mx} {L : List Look} (hp : ∀ l ∈ L, l.1 + 1 < n) : LiesR n (lookM M L) v ↔ LiesR n M v ∧ ∀ l ∈ L, meetQ l (v (l.1 + 1)) := by
  rw [← lies_num h, ← lies_num h, lies_look (h.v0 n) L M hp]
  refine and_congr Iff.rfl ⟨fun k l hl => ?_, fun k l hl => ?_⟩
  · have := (meets_rq ((h.v0 n).pos _ (hp l hl))).mp (k l hl)
    have this : meetQ l (rq ((v (l.1 + 1)).num, ((v (l.1 + 1)).den : Int))) := this
    rw [rq_num] at this; exact this
  · refine (meets_rq ((h.v0 n).pos _ (hp l hl))).mpr ?_
    show meetQ l (rq ((v (l.1 + 1)).num, ((v (l.1 + 1)).den : Int)))
    rw [rq_num]; exact k l hl
theorem nrw_R {v : Nat → Rat} (h : Val v) {n : Nat} {M : Mx} : LiesR n (nrw n M) v ↔ LiesR n M v := by
  rw [← lies_num h, ← lies_num h]; exact nrw_lies (h.v0 n)
theorem pos_R {v : Nat → Rat} (h : Val v) {n : Nat} {M : Mx} (k : LiesR n M v) : PosAll n (nrw n M) := fun i hi => lies_pos (h.v0 n) hi (lies_nrw (h.v0 n) ((lies_num h).mpr k))
theorem met_R {v : Nat → Rat} (h : Val v) {n : Nat} {N : Mx} {L : List Look} (hp : ∀ l ∈ L, l.1 + 1 < n) (k : LiesR n N v) (m : ∀ l ∈ L, meetQ l (v (l.1 + 1))) : ∃ X, metO n N L = some X ∧ LiesR n X v := by
  have k2 := (look_R h hp).mpr ⟨k, m⟩
  exact ⟨_, nrwO_pos (pos_R h k2), (nrw_R h).mpr k2⟩
theorem met_of {v : Nat → Rat} (h : Val v) {n : Nat} {N X : Mx} {L : List Look} (hp : ∀ l ∈ L, l.1 + 1 < n) (e : metO n N L = some X) (k : LiesR n X v) : LiesR n N v ∧ ∀ l ∈ L, meetQ l (v (l.1 + 1)) := by
  obtain ⟨rfl, _⟩ := nrwO_some e
  exact (look_R h hp).mp ((nrw_R h).mp k)
theorem le_R {v : Nat → Rat} {n : Nat} {A B : Mx} (l : LeN n A B) (k : LiesR n A v) : LiesR n B v := fun i j hi hj => letsR_mono (l i j hi hj) (k i j hi hj)
def zeroV : Nat → Rat := fun _ => 0
def laterV (v : Nat → Rat) (t : Rat) : Nat → Rat := fun i => if i = 0 then 0 else v i + t
def putV (p : Nat) (v : Nat → Rat) : Nat → Rat := fun i => if i = p then 0 else v i
def putsV : List Nat → (Nat → Rat) → Nat → Rat
  | [], v => v
  | p :: ps, v => putsV ps (putV p v)
theorem zero_val : Val zeroV := ⟨rfl, fun _ => Rat.le_refl⟩
theorem later_val {v : Nat → Rat} {t : Rat} (h : Val v) (ht : 0 ≤ t) : Val (laterV v t) := ⟨if_pos rfl, fun i => by
  unfold laterV
  split
  · exact Rat.le_refl
  · have := h.nn i; grind⟩
theorem put_val {v : Nat → Rat} {p : Nat} (h : Val v) : Val (putV p v) := ⟨by unfold putV; split; rfl; exact h.zero, fun i => by
  unfold putV
  split
  · exact Rat.le_refl
  · exact h.nn i⟩
theorem puts_val : ∀ {ps : List Nat} {v : Nat → Rat}, Val v → Val (putsV ps v)
  | [], _, h => h
  | _ :: ps, _, h => puts_val (ps := ps) (put_val h)
theorem puts_lies {n : Nat} : ∀ {ps : List Nat} {N : Mx} {v : Nat → Rat}, Val v → LiesR n N v → LiesR n (putsM N ps) (putsV ps v)
  | [], _, _, _, k => k
  | p :: ps, N, v, h, k => puts_lies (ps := ps) (put_val h) (put_lies k fun i _ => by
      unfold putV sg
      split
      · rw [h.zero]
      · rfl)
/-- values meet a guard of a machine's watches -/
def meetG (M : MachD) (ls : List Lq) (v : Nat → Rat) : Prop := ∀ l ∈ lks M.watches ls, meetQ l (v (l.1 + 1))
theorem one_lies (n : Nat) : LiesR n oneM zeroV := fun i j _ _ => by
  show letsR (some 1) (0 - 0)
  right
  refine ⟨?_, by decide⟩
  rw [Rat.sub_self]; rfl
section
variable {M : MachD} {gs : List Rq} {paper : List (Str × Mx)}
theorem stay_R {r : Rq} {N : Mx} {v : Nat → Rat} (ok : MachOk M) (hr : r ∈ M.rooms) (h : Val v) (k : LiesR (dimM M) N v) (m : meetG M r.2 v) : ∃ X, stayO M r.1 N = some X ∧ LiesR (dimM M) X v := by
  unfold stayO
  rw [stayOf_at ok.rnd hr]
  have gk : guardOk WORDS M.watches r.2 = true := by
    have := List.all_eq_true.mp ok.rok r hr
    unfold roomOk at this
    exact guard_words (Bool.and_eq_true_iff.mp this).2
  refine met_R h (fun l hl => ?_) k m
  obtain ⟨x, hx, rfl⟩ := List.mem_map.mp hl
  have k := look_parts (List.all_eq_true.mp gk x hx)
  have := List.idxOf_lt_length_iff.mpr k.1
  show M.watches.idxOf x.1 + 1 < dimM M
  unfold dimM; omega
theorem lks_pl {ls : List Lq} (gk : guardOk WORDS M.watches ls = true) : ∀ l ∈ lks M.watches ls, l.1 + 1 < dimM M := fun l hl => by
  obtain ⟨x, hx, rfl⟩ := List.mem_map.mp hl
  have k := look_parts (List.all_eq_true.mp gk x hx)
  have := List.idxOf_lt_length_iff.mpr k.1
  show M.watches.idxOf x.1 + 1 < dimM M
  unfold dimM; omega
/-- values in a room lie in a zone of it -/
def InP (M : MachD) (paper : List (Str × Mx)) (r : Str) (v : Nat → Rat) : Prop := ∃ Z ∈ zonesP (dimM M) paper r, LiesR (dimM M) Z v
theorem cov_in {r : Str} {X : Option Mx} {Y : Mx} {v : Nat → Rat} (c : CovP (dimM M) (zonesP (dimM M) paper r) X) (e : X = some Y) (k : LiesR (dimM M) Y v) : InP M paper r v := by
  obtain ⟨Z, hZ, l⟩ := c Y e
  exact ⟨Z, hZ, le_R l k⟩
theorem lets_start (ok : MachOk M) (L : LetsP M gs paper) {r : Rq} (hr : r ∈ M.rooms) (e : r.1 = room0 M) (m : meetG M r.2 zeroV) : InP M paper r.1 zeroV := by
  obtain ⟨X, hX, k⟩ := stay_R ok hr zero_val (one_lies _) m
  have c := L.1
  rw [show (M.rooms.headD ("", [])).1 = r.1 from e.symm] at c
  exact cov_in c hX k
theorem lets_wait (ok : MachOk M) (L : LetsP M gs paper) {r : Rq} (hr : r ∈ M.rooms) {v : Nat → Rat} {t : Rat} (h : Val v) (ht : 0 ≤ t) (k : InP M paper r.1 v) (m : meetG M r.2 (laterV v t)) : InP M paper r.1 (laterV v t) := by
  obtain ⟨Z, hZ, k⟩ := k
  have k2 : LiesR (dimM M) (waitM Z) (laterV v t) := wait_lies k ht h.zero (if_pos rfl) fun i _ hi => if_neg hi
  obtain ⟨X, hX, k3⟩ := stay_R ok hr (later_val h ht) k2 m
  exact cov_in ((L.2 r hr Z hZ).2.1) hX k3
theorem lets_door (ok : MachOk M) (L : LetsP M gs paper) {r r2 : Rq} (hr : r ∈ M.rooms) (hr2 : r2 ∈ M.rooms) {d : DoorD} (hd : d ∈ M.doors) (e1 : d.st = r.1) (e2 : d.en = r2.1) (e3 : d.sg = "") {v : Nat → Rat} (h : Val v) (k : InP M paper r.1 v) (mg : meetG M d.looks v) (ms : meetG M r2.2 (putsV (backsN M d) v)) : InP M paper r2.1 (putsV (backsN M d) v) := by
  obtain ⟨Z, hZ, k⟩ := k
  obtain ⟨X, hX, k2⟩ := met_R h (lks_pl (ok.door hd).2.2.2.1) k mg
  have k3 := puts_lies (ps := backsN M d) h k2
  have et : thruO M Z d = some (putsM X (backsN M d)) := by unfold thruO; rw [hX]; rfl
  obtain ⟨Y, hY, k4⟩ := stay_R ok hr2 (puts_val h) k3 ms
  have c := (L.2 r hr Z hZ).2.2 d hd e1 e3 _ et
  rw [e2] at c
  exact cov_in c hY k4
theorem lets_nohit (L : LetsP M gs paper) {r : Rq} (hr : r ∈ M.rooms) (gok : gs.all (markOk M) = true) {v : Nat → Rat} (h : Val v) (k : InP M paper r.1 v) : ∀ g ∈ gs, g.1 = r.1 → ¬ meetG M g.2 v := fun g hg e m => by
  obtain ⟨Z, hZ, k⟩ := k
  have gk : guardOk WORDS M.watches g.2 = true := by
    have := List.all_eq_true.mp gok g hg
    unfold markOk at this
    exact (Bool.and_eq_true_iff.mp this).2
  obtain ⟨X, hX, _⟩ := met_R h (lks_pl gk) k m
  exact (L.2 r hr Z hZ).1 ⟨g, hg, e, by rw [hX]; exact fun h => by cases h⟩
end
/-! ### values as rational numbers, on the heap -/
def vOf (vs : List Rat) : Nat → Rat := fun i => (0 :: vs).getD i 0
def pairs (vs : List Rat) : List (Int × Int) := vs.map fun r => (r.num, (r.den : Int))
def VR (H : Hp) (p : Addr) (vs : List Rat) : Prop := VAt H p (pairs vs)
theorem VR.keep {H H' : Hp} {p : Addr} {vs : List Rat} (s : Same H H') (h : VR H p vs) : VR H' p vs := VAt.keep h s
def SzV (B : Nat) (vs : List Rat) : Prop := ∀ r ∈ vs, Sz B r.num ∧ Sz B (r.den : Int)
theorem den_pos (r : Rat) : 0 < (r.den : Int) := by have := r.den_pos; omega
theorem vOf_at {vs : List Rat} {i : Nat} {r : Rat} (h : vs[i]? = some r) : vOf vs (i + 1) = r := by
  unfold vOf
  rw [List.getD_eq_getElem?_getD, List.getElem?_cons_succ, h]; rfl
theorem VR.get {K : PySem.W.Frag} {H : Hp} {p : Addr} {vs : List Rat} {i : Nat} {r : Rat} {Q : VK} (v : VR H p vs) (h : vs[i]? = some r) (q : ∀ a, H a = some (.tup [.int r.num, .int (r.den : Int)]) → Q (.ref a) H) : rIxL K (.ref p) (.int i) H Q :=
  VAt.get v (x := (r.num, (r.den : Int))) (by unfold pairs; rw [List.getElem?_map, h]; rfl) q
theorem vOf_val {vs : List Rat} (h : ∀ r ∈ vs, 0 ≤ r) : Val (vOf vs) := ⟨rfl, fun i => by
  unfold vOf
  rw [List.getD_eq_getElem?_getD]
  cases e : (0 :: vs)[i]? with
  | none => exact Rat.le_refl
  | some r =>
    rcases List.mem_cons.mp (List.mem_of_getElem? e) with rfl | h1
    · exact Rat.le_refl
    · exact h r h1⟩
theorem meetsQ_num {l : Look} {r : Rat} : meetsL l (r.num, (r.den : Int)) = true ↔ meetQ l r := by
  rw [meets_rq (den_pos r), rq_num]
theorem rq_inj {x y : Int × Int} (hx : 0 < x.2) (hy : 0 < y.2) (h : rq x = rq y) : x.1 * y.2 = y.1 * x.2 := by
  have a : ¬ x.1 * y.2 < y.1 * x.2 := fun c => by
    have := (rq_cross hx hy).mpr c
    rw [h] at this
    exact Rat.lt_irrefl this
  have b : ¬ y.1 * x.2 < x.1 * y.2 := fun c => by
    have := (rq_cross hy hx).mpr c
    rw [h] at this
    exact Rat.lt_irrefl this
  omega
theorem rq_lowest {t u : Int} (hu : 0 < u) (c : Int.gcd t u = 1) : (rq (t, u)).num = t ∧ ((rq (t, u)).den : Int) = u := by
  have h := rq_inj (x := ((rq (t, u)).num, ((rq (t, u)).den : Int))) (y := (t, u)) (den_pos _) hu (rq_num _)
  refine cop_uniq (den_pos _) hu ?_ c h
  have := (rq (t, u)).reduced
  exact this
theorem red_rat {a b t u : Int} (hb : 0 < b) (h : Red a b t u) : (rq (a, b)).num = t ∧ ((rq (a, b)).den : Int) = u := by
  rw [← rq_red hb h]
  exact rq_lowest h.pos h.one
theorem num0 : (0 : Rat).num = 0 ∧ (((0 : Rat).den : Nat) : Int) = 1 := ⟨rfl, rfl⟩
/-! ### steps of a drawn machine: plain -/
def lstF {α : Type} (n : Nat) (f : Nat → α) : List α := (List.range n).map f
theorem lstF_get {α : Type} {n i : Nat} {f : Nat → α} (h : i < n) : (lstF n f)[i]? = some (f i) := by
  unfold lstF
  rw [List.getElem?_map, List.getElem?_range h]; rfl
theorem lstF_len {α : Type} {n : Nat} {f : Nat → α} : (lstF n f).length = n := by unfold lstF; simp
theorem lstF_set {α : Type} {n k : Nat} {f : Nat → α} {x : α} : (lstF n f).set k x = lstF n (fun i => if i = k then x else f i) := by
  refine List.ext_getElem? fun i => ?_
  by_cases h : i < n
  · rw [lstF_get h, List.getElem?_set]
    by_cases c : k = i
    · subst c; rw [if_pos rfl, if_pos (by rw [lstF_len]; exact h), if_pos rfl]
    · rw [if_neg c, lstF_get h, if_neg fun e => c e.symm]
  · rw [List.getElem?_eq_none (by rw [List.length_set, lstF_len]; omega), List.getElem?_eq_none (by rw [lstF_len]; omega)]
theorem lstF_self {α : Type} {xs : List α} {d : α} : lstF xs.length (fun i => xs.getD i d) = xs := by
  refine List.ext_getElem? fun i => ?_
  by_cases h : i < xs.length
  · rw [lstF_get h, List.getD_eq_getElem?_getD, List.getElem?_eq_getElem h]; rfl
  · rw [List.getElem?_eq_none (by rw [lstF_len]; omega), List.getElem?_eq_none (by omega)]
theorem lstF_congr {α : Type} {n : Nat} {f g : Nat → α} (h : ∀ i, i < n → f i = g i) : lstF n f = lstF n g := List.map_congr_left fun i hi => h i (List.mem_range.mp hi)
def stayAt (S : Spec) (i : Nat) : List Lq := (S.rooms[i]?).elim [] (·.2)
/-- values with 0 at some watches -/
def backV (W ns : List Str) (xs : List Rat) : List Rat := lstF xs.length fun i => if W.getD i "" ∈ ns then 0 else xs.getD i 0
open Classical in
noncomputable def stepR (S : Spec) (s : Nat × List Rat) (w : Rat) (k : Option Nat) : Option (Nat × List Rat) :=
  if meetG S.mach (stayAt S s.1) (vOf (s.2.map (· + w))) then (match k with
    | none => some (s.1, s.2.map (· + w))
    | some t => (S.doors[t]?).bind fun d => if d.b = s.1 ∧ d.sg = "" ∧ meetG S.mach d.gd (vOf (s.2.map (· + w))) ∧ meetG S.mach (stayAt S d.e) (vOf (backV S.watches d.ns (s.2.map (· + w)))) then some (d.e, backV S.watches d.ns (s.2.map (· + w))) else none) else none
def FrR (H : Hp) (q : Addr) (r : Rat) : Prop := H q = some (.tup [.int r.num, .int (r.den : Int)])
theorem FrR.keep : ∀ (H H' : Hp) (q : Addr) (r : Rat), Same H H' → FrR H q r → FrR H' q r := fun _ _ _ _ s h => s _ _ h
instance : Kp2 FrR := ⟨FrR.keep⟩
theorem vr_seq {H : Hp} {p : Addr} {xs : List Rat} : VR H p xs ↔ SeqOf FrR H p xs := by
  constructor
  · rintro ⟨qs, a, b, c⟩
    unfold pairs at b c
    refine ⟨qs, a, by rw [b, List.length_map], fun i q r h1 h2 => c i q (r.num, (r.den : Int)) h1 (by rw [List.getElem?_map, h2]; rfl)⟩
  · rintro ⟨qs, a, b, c⟩
    unfold VR pairs
    refine ⟨qs, a, by rw [b, List.length_map], fun i q x h1 h2 => ?_⟩
    rw [List.getElem?_map] at h2
    obtain ⟨r, hr, rfl⟩ := Option.map_eq_some_iff.mp h2
    exact c i q r h1 hr
theorem VR.kp {H H' : Hp} {p : Addr} {vs : List Rat} (s : Same H H') (h : VR H p vs) : VR H' p vs := VAt.keep h s
theorem VR.set {H : Hp} {o q : Addr} {xs : List Rat} {i : Nat} {r : Rat} (v : VR H o xs) (hq : FrR H q r) : ∃ items, H o = some (.lst items) ∧ items.length = xs.length ∧ VR (upd H o (.lst (items.set i (.ref q)))) o (xs.set i r) := by
  obtain ⟨items, a, b, c⟩ := VAt.set (i := i) v (x := (r.num, (r.den : Int))) hq
  refine ⟨items, a, by rw [b]; unfold pairs; rw [List.length_map], ?_⟩
  unfold VR pairs
  rw [List.map_set]
  exact c
theorem sum_sz {A B : Nat} {x y : Rat} (hx : Sz A x.num ∧ Sz A (x.den : Int)) {t u : Int} (hu : 0 < u) (hy : y = rq (t, u)) (ht : Sz B t) (hu2 : Sz B u) : Sz (A + B + 1) (x + y).num ∧ Sz (A + B + 1) ((x + y).den : Int) := by
  have e : x + y = rq (x.num * u + t * (x.den : Int), (x.den : Int) * u) := by
    rw [rq_sum (x := (x.num, (x.den : Int))) (y := (t, u)) (den_pos x) hu, rq_num, hy]
  have hb : 0 < (x.den : Int) * u := Int.mul_pos (den_pos x) hu
  have R := (low_of (a := x.num * u + t * (x.den : Int)) (b := (x.den : Int) * u) (by omega)).red hb
  have k := red_rat hb R
  rw [← e] at k
  rw [k.1, k.2]
  refine ⟨Sz.le R.tle (Sz.add (a := A + B) (b := B + A) (hx.1.mul hu2 (Nat.le_refl _)) (ht.mul hx.2 (Nat.le_refl _)) (by omega) (by omega)), Sz.le R.ule ((hx.2.mul hu2 (Nat.le_refl _)).mono (by omega))⟩
local macro_rules | `(tactic| walk_at "hp") => `(tactic| (refine ZW.VR.kp (by assumption) ?_; walk_at "hp"))
/-! ### fractions of sixths: plain -/
theorem rq_of_cross {x y : Int × Int} (hx : 0 < x.2) (hy : 0 < y.2) (h : x.1 * y.2 = y.1 * x.2) : rq x = rq y := by
  refine Rat.le_antisymm (Rat.not_lt.mp fun c => ?_) (Rat.not_lt.mp fun c => ?_)
  · have := (rq_cross hy hx).mp c; omega
  · have := (rq_cross hx hy).mp c; omega
def S6 (B : Nat) (x : Int × Int) : Prop := 0 < x.2 ∧ x.2 ∣ 6 ∧ Sz B x.1
def Six (B : Nat) (r : Rat) : Prop := (r.den : Int) ∣ 6 ∧ Sz B r.num
theorem six_u {u : Int} (h0 : 0 < u) (h : u ∣ 6) : u ≤ 6 := Int.le_of_dvd (by decide) h
theorem S6.u {B : Nat} {x : Int × Int} (h : S6 B x) : Sz 3 x.2 := by
  have := six_u h.1 h.2.1
  have := h.1
  unfold Sz; omega
theorem S6.mono {a b : Nat} {x : Int × Int} (h : S6 a x) (k : a ≤ b) : S6 b x := ⟨h.1, h.2.1, h.2.2.mono k⟩
theorem Six.mono {a b : Nat} {x : Rat} (h : Six a x) (k : a ≤ b) : Six b x := ⟨h.1, h.2.mono k⟩
theorem Six.s6 {B : Nat} {r : Rat} (h : Six B r) : S6 B (r.num, (r.den : Int)) := ⟨den_pos r, h.1, h.2⟩
theorem Six.sz {B : Nat} {r : Rat} (h : Six B r) (hb : 3 ≤ B) : Sz B r.num ∧ Sz B (r.den : Int) := ⟨h.2, (Six.s6 h).u.mono hb⟩
theorem six_zero {B : Nat} : Six B 0 := ⟨⟨6, rfl⟩, (show Sz 0 0 by unfold Sz; decide).mono (Nat.zero_le _)⟩
theorem six_as {x : Int × Int} (h0 : 0 < x.2) (h : x.2 ∣ 6) : ∃ c, 0 < c ∧ c ≤ 6 ∧ rq x = rq (x.1 * c, 6) := by
  obtain ⟨c, hc⟩ := h
  have c0 : 0 < c := by
    have : 0 < x.2 * c := by omega
    exact Int.pos_of_mul_pos_right this h0
  refine ⟨c, c0, ?_, rq_of_cross h0 (show (0 : Int) < 6 by decide) ?_⟩
  · have : 1 * c ≤ x.2 * c := Int.mul_le_mul_of_nonneg_right (by omega) (by omega)
    omega
  · show x.1 * 6 = x.1 * c * x.2
    rw [hc, Int.mul_assoc, Int.mul_comm c]
theorem six_sum {B : Nat} {x y : Int × Int} (hx : S6 B x) (hy : S6 B y) : Six (B + 4) (rq x + rq y) := by
  obtain ⟨c, c0, c6, ec⟩ := six_as hx.1 hx.2.1
  obtain ⟨d, d0, d6, ed⟩ := six_as hy.1 hy.2.1
  have e : rq x + rq y = rq (x.1 * c + y.1 * d, 6) := by
    rw [ec, ed, ← rq_sum (x := (x.1 * c, 6)) (y := (y.1 * d, 6)) (show (0 : Int) < 6 by decide) (show (0 : Int) < 6 by decide)]
    refine rq_of_cross (show (0 : Int) < 6 * 6 by decide) (show (0 : Int) < 6 by decide) ?_
    show (x.1 * c * 6 + y.1 * d * 6) * 6 = (x.1 * c + y.1 * d) * (6 * 6)
    omega
  have R := (low_of (a := x.1 * c + y.1 * d) (b := 6) (by decide)).red (by decide)
  have k := red_rat (by decide) R
  rw [← e] at k
  refine ⟨?_, ?_⟩
  · rw [k.2]
    exact dvd_cop (t := (x.1 * c + y.1 * d).fdiv (Int.gcd (x.1 * c + y.1 * d) 6)) ⟨x.1 * c + y.1 * d, by rw [R.eq, Int.mul_comm]⟩ R.one
  · rw [k.1]
    refine Sz.le R.tle ?_
    have s1 : Sz (B + 3) (x.1 * c) := hx.2.2.mul (b := 3) (by unfold Sz; omega) (Nat.le_refl _)
    have s2 : Sz (B + 3) (y.1 * d) := hy.2.2.mul (b := 3) (by unfold Sz; omega) (Nat.le_refl _)
    exact Sz.add s1 s2 (by omega) (by omega)
open Classical in
noncomputable def startR (S : Spec) : Option (Nat × List Rat) := if meetG S.mach (stayAt S 0) (vOf (S.watches.map fun _ => (0 : Rat))) then some (0, S.watches.map fun _ => (0 : Rat)) else none
/-- steps, one behind the other -/
noncomputable def runR (S : Spec) : Nat × List Rat → List ((Int × Int) × Option Nat) → Option (Nat × List Rat)
  | s, [] => some s
  | s, (w, k) :: st => (stepR S s (rq w) k).bind fun s' => runR S s' st
theorem runR_app {S : Spec} : ∀ {st : List ((Int × Int) × Option Nat)} {s s' : Nat × List Rat} {x : (Int × Int) × Option Nat}, runR S s st = some s' → runR S s (st ++ [x]) = stepR S s' (rq x.1) x.2
  | [], s, s', (w, k), h => by
    cases h
    show (stepR S s (rq w) k).bind _ = stepR S s (rq w) k
    cases stepR S s (rq w) k <;> rfl
  | (w, k) :: st, s, s', x, h => by
    obtain ⟨s2, h1, h2⟩ := Option.bind_eq_some_iff.mp h
    show (stepR S s (rq w) k).bind _ = _
    rw [h1]
    exact runR_app h2
/-! ### values in papers: plain -/
theorem vOf_later {xs : List Rat} {w : Rat} {i : Nat} (h : i < xs.length + 1) : vOf (xs.map (· + w)) i = laterV (vOf xs) w i := by
  unfold vOf laterV
  cases i with
  | zero => rfl
  | succ i =>
    rw [if_neg (by omega), List.getD_cons_succ]
    show _ = (0 :: xs).getD (i + 1) 0 + w
    rw [List.getD_cons_succ, List.getD_eq_getElem?_getD, List.getD_eq_getElem?_getD, List.getElem?_map, List.getElem?_eq_getElem (by omega)]
    rfl
theorem putsV_at : ∀ {ps : List Nat} {v : Nat → Rat} {i : Nat}, putsV ps v i = if i ∈ ps then 0 else v i
  | [], v, i => by rw [if_neg List.not_mem_nil]; rfl
  | p :: ps, v, i => by
    show putsV ps (putV p v) i = _
    rw [putsV_at]
    unfold putV
    by_cases h1 : i ∈ ps
    · rw [if_pos h1, if_pos (List.mem_cons_of_mem _ h1)]
    · rw [if_neg h1]
      by_cases h2 : i = p
      · rw [if_pos h2, if_pos (by rw [h2]; exact List.mem_cons_self)]
      · rw [if_neg h2, if_neg fun h => by rcases List.mem_cons.mp h with h | h; exact h2 h; exact h1 h]
theorem liesR_congr {n : Nat} {M : Mx} {u v : Nat → Rat} (h : ∀ i, i < n → u i = v i) (k : LiesR n M u) : LiesR n M v := fun i j hi hj => by
  rw [← h i hi, ← h j hj]; exact k i j hi hj
theorem inP_congr {M : MachD} {paper : List (Str × Mx)} {r : Str} {u v : Nat → Rat} (h : ∀ i, i < dimM M → u i = v i) (k : InP M paper r u) : InP M paper r v := by
  obtain ⟨Z, hZ, k⟩ := k
  exact ⟨Z, hZ, liesR_congr h k⟩
theorem meetG_congr {M : MachD} {ls : List Lq} {u v : Nat → Rat} (gk : guardOk WORDS M.watches ls = true) (h : ∀ i, i < dimM M → u i = v i) (k : meetG M ls u) : meetG M ls v := fun l hl => by
  have := k l hl
  rw [h _ (lks_pl gk l hl)] at this
  exact this
theorem room_guard {M : MachD} {r : Rq} (ok : MachOk M) (hr : r ∈ M.rooms) : guardOk WORDS M.watches r.2 = true := by
  have := List.all_eq_true.mp ok.rok r hr
  unfold roomOk at this
  exact guard_words (Bool.and_eq_true_iff.mp this).2
theorem vOf_backM {M : MachD} {d : DoorD} {xs : List Rat} {i : Nat} (nd : M.watches.Nodup) (sub : ∀ x ∈ d.backs, x ∈ M.watches) (xl : xs.length = M.watches.length) (hi : i < M.watches.length + 1) : vOf (backV M.watches d.backs xs) i = putsV (backsN M d) (vOf xs) i := by
  rw [putsV_at]
  cases i with
  | zero =>
    have : (0 : Nat) ∉ backsN M d := fun h => by
      obtain ⟨x, _, e⟩ := List.mem_map.mp h
      omega
    rw [if_neg this]; rfl
  | succ i =>
    have e1 : vOf (backV M.watches d.backs xs) (i + 1) = if M.watches.getD i "" ∈ d.backs then 0 else xs.getD i 0 := by
      unfold vOf
      rw [List.getD_cons_succ, List.getD_eq_getElem?_getD]
      unfold backV
      rw [lstF_get (by omega)]; rfl
    rw [e1]
    have key : M.watches.getD i "" ∈ d.backs ↔ i + 1 ∈ backsN M d := by
      rw [List.getD_eq_getElem?_getD, List.getElem?_eq_getElem (show i < M.watches.length by omega)]
      show M.watches[i] ∈ d.backs ↔ i + 1 ∈ d.backs.map fun x => M.watches.idxOf x + 1
      constructor
      · intro h
        exact List.mem_map.mpr ⟨_, h, by rw [nd.idxOf_getElem i (by omega)]⟩
      · intro h
        obtain ⟨x, hx, e⟩ := List.mem_map.mp h
        have e : M.watches.idxOf x = i := by omega
        have hl := List.idxOf_lt_length_iff.mpr (sub x hx)
        have : M.watches[i] = x := by
          have k := List.getElem_idxOf hl
          simp only [e] at k
          exact k
        rw [this]; exact hx
    by_cases h : M.watches.getD i "" ∈ d.backs
    · rw [if_pos h, if_pos (key.mp h)]
    · rw [if_neg h, if_neg fun k => h (key.mpr k)]; rfl
/-! ### stands that lie in each paper that is let by: plain -/
def AllIn (M : MachD) (gs : List Rq) (r : Str) (xs : List Rat) : Prop := ∀ paper, LetsP M gs paper → InP M paper r (vOf xs)
theorem zero_vOf {α : Type} (W : List α) : vOf (W.map fun _ => (0 : Rat)) = zeroV := by
  funext i
  unfold vOf zeroV
  rw [List.getD_eq_getElem?_getD]
  cases i with
  | zero => rfl
  | succ i =>
    rw [List.getElem?_cons_succ, List.getElem?_map]
    cases W[i]? <;> rfl
section
variable {M : MachD} {gs : List Rq}
theorem allin_start (ok : MachOk M) {r : Rq} (hr : r ∈ M.rooms) (e : r.1 = room0 M) (m : meetG M r.2 (vOf (M.watches.map fun _ => (0 : Rat)))) : AllIn M gs r.1 (M.watches.map fun _ => (0 : Rat)) := fun paper L => by
  rw [zero_vOf] at m ⊢
  exact lets_start ok L hr e m
theorem allin_wait (ok : MachOk M) {r : Rq} (hr : r ∈ M.rooms) {xs : List Rat} {t : Rat} (xl : xs.length = M.watches.length) (nn : ∀ x ∈ xs, 0 ≤ x) (ht : 0 ≤ t) (k : AllIn M gs r.1 xs) (m : meetG M r.2 (vOf (xs.map (· + t)))) : AllIn M gs r.1 (xs.map (· + t)) := fun paper L => by
  have hl : ∀ i, i < dimM M → vOf (xs.map (· + t)) i = laterV (vOf xs) t i := fun i hi => vOf_later (by unfold dimM at hi; omega)
  exact inP_congr (fun i hi => (hl i hi).symm) (lets_wait ok L hr (vOf_val nn) ht (k paper L) (meetG_congr (room_guard ok hr) hl m))
theorem allin_door (ok : MachOk M) {r r2 : Rq} (hr : r ∈ M.rooms) (hr2 : r2 ∈ M.rooms) {d : DoorD} (hd : d ∈ M.doors) (e1 : d.st = r.1) (e2 : d.en = r2.1) (e3 : d.sg = "") {xs : List Rat} (xl : xs.length = M.watches.length) (nn : ∀ x ∈ xs, 0 ≤ x) (k : AllIn M gs r.1 xs) (mg : meetG M d.looks (vOf xs)) (ms : meetG M r2.2 (vOf (backV M.watches d.backs xs))) : AllIn M gs r2.1 (backV M.watches d.backs xs) := fun paper L => by
  have hl : ∀ i, i < dimM M → vOf (backV M.watches d.backs xs) i = putsV (backsN M d) (vOf xs) i := fun i hi => vOf_backM ok.wnd (fun x hx => (ok.door hd).2.2.2.2.1 x hx) xl hi
  exact inP_congr (fun i hi => (hl i hi).symm) (lets_door ok L hr hr2 hd e1 e2 e3 (vOf_val nn) (k paper L) mg (meetG_congr (room_guard ok hr2) hl ms))
/-- what a stay asks is met by less, too -/
theorem stay_less (ok : MachOk M) {r : Rq} (hr : r ∈ M.rooms) {u v : Nat → Rat} (h : ∀ i, i < dimM M → u i ≤ v i) (m : meetG M r.2 v) : meetG M r.2 u := fun l hl => by
  have gk : guardOk ["<", "<="] M.watches r.2 = true := by
    have := List.all_eq_true.mp ok.rok r hr
    unfold roomOk at this
    exact (Bool.and_eq_true_iff.mp this).2
  have k := m l hl
  have hi := h _ (lks_pl (room_guard ok hr) l hl)
  obtain ⟨x, hx, rfl⟩ := List.mem_map.mp hl
  have w := (look_parts (List.all_eq_true.mp gk x hx)).2.1
  simp only [List.mem_cons, List.not_mem_nil, or_false] at w
  unfold meetQ at k ⊢
  rcases w with w | w
  · rw [w, show wdOf "<" = .lt by unfold wdOf; rw [if_pos rfl]] at k ⊢
    have k : _ < _ := k
    show _ < _
    grind
  · rw [w, show wdOf "<=" = .le by unfold wdOf; rw [if_neg (by decide +kernel), if_pos rfl]] at k ⊢
    have k : _ ≤ _ := k
    show _ ≤ _
    grind
theorem allin_nohit (ok : MachOk M) {r : Rq} (hr : r ∈ M.rooms) (gok : gs.all (markOk M) = true) {xs : List Rat} (nn : ∀ x ∈ xs, 0 ≤ x) (k : AllIn M gs r.1 xs) {paper : List (Str × Mx)} (L : LetsP M gs paper) : ∀ g ∈ gs, g.1 = r.1 → ¬ meetG M g.2 (vOf xs) :=
  lets_nohit L hr gok (vOf_val nn) (k paper L)
end
/-- a stand that is come to -/
structure StoodOk (M : MachD) (s : Str × List Rat) : Prop where
  room : ∃ r ∈ M.rooms, r.1 = s.1
  len : s.2.length = M.watches.length
  nn : ∀ x ∈ s.2, 0 ≤ x
  sz : SzV 2000 s.2
  all : ∀ gs, AllIn M gs s.1 s.2
theorem half_rq (t : Rat) : rq (t.num, 2 * (t.den : Int)) = t * (1 / 2) := by
  have h : rq (t.num * 1, (t.den : Int) * 2) = rq (t.num, (t.den : Int)) * rq (1, 2) := by
    show ((t.num * 1 : Int) : Rat) / (((t.den : Int) * 2 : Int) : Rat) = _
    rw [Int.mul_one]
    show _ = ((t.num : Rat) / ((t.den : Int) : Rat)) * ((1 : Int) / (2 : Int) : Rat)
    rw [Rat.intCast_mul]
    grind
  rw [rq_num] at h
  rw [Int.mul_one] at h
  rw [Int.mul_comm 2]
  rw [h]
  congr 1
theorem half_le {t : Rat} (h : 0 ≤ t) : 0 ≤ t * (1 / 2) ∧ t * (1 / 2) ≤ t := by constructor <;> grind
theorem vOf_mono {xs ys : List Rat} (hl : xs.length = ys.length) (h : ∀ (i : Nat) (x y : Rat), xs[i]? = some x → ys[i]? = some y → x ≤ y) : ∀ i, vOf xs i ≤ vOf ys i := fun i => by
  unfold vOf
  cases i with
  | zero => exact Rat.le_refl
  | succ i =>
    rw [List.getD_cons_succ, List.getD_cons_succ, List.getD_eq_getElem?_getD, List.getD_eq_getElem?_getD]
    by_cases c : i < xs.length
    · rw [List.getElem?_eq_getElem c, List.getElem?_eq_getElem (by omega)]
      exact h i _ _ (List.getElem?_eq_getElem c) (List.getElem?_eq_getElem (by omega))
    · rw [List.getElem?_eq_none (by omega), List.getElem?_eq_none (by omega)]
      exact Rat.le_refl
theorem map_add_mono {xs : List Rat} {s t : Rat} (h : s ≤ t) : ∀ i, vOf (xs.map (· + s)) i ≤ vOf (xs.map (· + t)) i := vOf_mono (by simp) fun i x y h1 h2 => by
  rw [List.getElem?_map] at h1 h2
  obtain ⟨a, ha, rfl⟩ := Option.map_eq_some_iff.mp h1
  rw [ha] at h2
  obtain rfl : a + t = y := by simpa using h2
  grind
theorem back_nil {W : List Str} {xs : List Rat} : backV W [] xs = xs := by
  unfold backV
  have : lstF xs.length (fun i => if W.getD i "" ∈ ([] : List Str) then (0 : Rat) else xs.getD i 0) = lstF xs.length (fun i => xs.getD i 0) := lstF_congr fun i _ => if_neg List.not_mem_nil
  rw [this, lstF_self]
theorem hits_refs {A : Around} {s : Shared} {kvs : List (Key × V)} {vb : List (Key × Value)} (rb : KV kvs vb) {ks : List (Key × V)} {va : List (Key × Value)} (ra : KV ks va) :
    (∀ p ∈ ks, ∃ r, p.2 = .ref r ∧ valV kvs p.1 = some p.2) → PySem.W.KeqHits A s vb va true := by
  unfold KV at ra
  induction ra with
  | nil => intro _; exact .nil
  | @cons p q ps qs h t ih =>
    intro hp
    obtain ⟨h1, h2⟩ := h
    obtain ⟨r, e2, e⟩ := hp p List.mem_cons_self
    have rr : RelO (some p.2) (valueAt vb p.1) := by rw [← e]; exact rb.val p.1
    obtain ⟨y, hy, ry⟩ := rr.some_of
    obtain ⟨k, v⟩ := q
    have h1' : p.1 = k := h1
    rw [h1'] at hy
    rw [e2] at h2 ry
    obtain rfl : v = Value.ref r := h2
    obtain rfl : y = Value.ref r := ry
    show PySem.W.KeqHits A s vb ((k, Value.ref r) :: qs) (true && true)
    exact .hit hy (SeqAt.EqAt.same _) (ih fun p' hm => hp p' (List.mem_cons_of_mem _ hm))
/-- two dicts that hold the same things are told apart: no -/
def rNeDR : R2 := fun x y H Q => ∃ a b ks ls, x = .ref a ∧ y = .ref b ∧ H a = some (.dK ks) ∧ H b = some (.dK ls) ∧ ks.length = ls.length ∧ (∀ p ∈ ks, ∃ r, p.2 = .ref r ∧ valV ls p.1 = some p.2) ∧ Q (.bl false) H
theorem op_neDR {X : Cx} (hu : X.A.units < cLine) : OpR X (compareOp .NotEq) rNeDR := by
  intro pins s σ H x y v u Q I rx ry h
  obtain ⟨a, b, ks, ls, rfl, rfl, ea, eb, hlen, hp, q⟩ := h
  obtain rfl : v = Value.ref a := rx
  obtain rfl : u = Value.ref b := ry
  obtain ⟨_, ya, va, ra, da⟩ := (show ObjOk X.prog X.w H s.heap a (.dK ks) from I.hok a _ ea)
  obtain ⟨_, yb, vb, rb, db⟩ := (show ObjOk X.prog X.w H s.heap b (.dK ls) from I.hok b _ eb)
  have hl : va.length = vb.length := by rw [← ra.length, ← rb.length]; exact hlen
  exact PySem.W.keq_ne (knd := mixKind X.prog X.w) (r := true) ya yb da db hu (fun _ => hits_refs rb ra hp) (fin_bl I q (by simp [hl]))
def rDictN : List V → Hp → VK → Prop := fun xs H Q => ∃ (a : Addr) (kvs : List (Key × V)), xs = [.ref a] ∧ H a = some (.dK kvs) ∧ ∀ p H2, Same H H2 → H p = none → H2 p = some (.dK kvs) → Q (.ref p) H2
theorem call_dictN {X : Cx} : CallR X (.type "dict") rDictN := call_imp call_dictD fun _ _ _ ⟨a, kvs, e, h, q⟩ => ⟨a, kvs, e, .inl h, fun p hp => q p _ (upd_keep hp) hp upd_same⟩
/-! ### whether a list is not empty, told by != [] -/
def rNeNil : R2 := fun x y H Q => ∃ a b xs, x = .ref a ∧ y = .ref b ∧ H a = some (.lst xs) ∧ H b = some (.lst []) ∧ Q (.bl (!decide (xs = []))) H
theorem op_neNil {X : Cx} (hu : X.A.units < cLine) : OpR X (compareOp .NotEq) rNeNil := by
  rintro pins s σ H x y v u Q I rx ry ⟨a, b, xs, rfl, rfl, ea, eb, q⟩
  obtain rfl : v = Value.ref a := rx
  obtain rfl : u = Value.ref b := ry
  obtain ⟨us, ru, pl, _⟩ := I.list (xs := xs) (.of ea)
  obtain ⟨us2, ru2, pl2, _⟩ := I.list (xs := []) (.of eb)
  cases ru2
  have len := ru.length
  by_cases c : xs = []
  · subst c
    cases ru
    refine SeqAt.RcNeAt.lists (e := fun _ => true) pl.isList pl2.isList rfl hu (fun j h1 h2 => SeqAt.EqAt.same _) X.prog X.w _ _ ?_
    exact ⟨.bl _, H, I, by show _ = Value.bool _; simp, q⟩
  · have hx := List.length_pos_iff.mpr c
    refine SeqAt.RcNeAt.lists_lengths pl.isList pl2.isList (by have h : us.length ≠ 0 := (by omega); simpa using h) hu X.prog X.w _ _ ?_
    rw [decide_eq_false c] at q
    exact ⟨.bl _, H, I, rfl, q⟩
/-! ### dicts of values by names -/
theorem kvz_put : ∀ {ns : List Str} {ls : List Addr} {i : Nat} {n : Str} {l l' : Addr}, ns.Nodup → ns[i]? = some n → ls[i]? = some l → putK (kvz ns ls) (.inr n : Key) (.ref l') = kvz ns (ls.set i l') := by
  have key : ∀ {ns : List Str} {ls : List Addr} {i : Nat} {n : Str} {l l' : Addr}, ns.Nodup → ns[i]? = some n → ls[i]? = some l → (kvz ns ls).map (fun p => if p.1 = (.inr n : Key) then ((.inr n : Key), V.ref l') else p) = kvz ns (ls.set i l') := by
    intro ns
    induction ns with
    | nil => intro ls i n l l' _ h _; simp at h
    | cons a ns ih =>
      intro ls i n l l' nd h1 h2
      cases ls with
      | nil => simp at h2
      | cons b ls =>
        rw [List.nodup_cons] at nd
        cases i with
        | zero =>
          rw [List.getElem?_cons_zero] at h1 h2
          cases h1; cases h2
          show (if ((.inr a : Key)) = .inr a then ((.inr a : Key), V.ref l') else _) :: (kvz ns ls).map _ = (.inr a, .ref l') :: kvz ns ls
          rw [if_pos rfl]
          congr 1
          refine (List.map_congr_left fun p hp => ?_).trans (List.map_id _)
          obtain ⟨j, hj, e⟩ := List.mem_iff_getElem.mp hp
          have hg := List.getElem?_eq_getElem hj
          rw [e] at hg
          obtain ⟨pk, pv'⟩ := p
          obtain ⟨m, l2, h3, _, rfl, _⟩ := kvz_get hg
          rw [if_neg fun e => nd.1 (by injection e with e; rw [← e]; exact List.mem_of_getElem? h3)]; rfl
        | succ i =>
          rw [List.getElem?_cons_succ] at h1 h2
          show (if ((.inr a : Key)) = .inr n then ((.inr n : Key), V.ref l') else (.inr a, .ref b)) :: (kvz ns ls).map _ = (.inr a, .ref b) :: kvz ns (ls.set i l')
          rw [if_neg fun e => nd.1 (by injection e with e; rw [e]; exact List.mem_of_getElem? h1), ih nd.2 h1 h2]
  intro ns ls i n l l' nd h1 h2
  rw [← key nd h1 h2]
  have h3 := kvz_at nd h1 h2
  have ha : ((kvz ns ls).any fun kv => decide (kv.1 = (.inr n : Key))) = true := List.any_eq_true.mpr ⟨_, valV_mem h3, decide_eq_true rfl⟩
  unfold putK
  rw [if_pos ha]
  refine List.map_congr_left fun p _ => ?_
  split
  · rename_i c; rw [c]
  · rfl
/-- values by the watches' names -/
def VDAt (H : Hp) (pd : Addr) (W : List Str) (xs : List Rat) : Prop := ∃ as : List Addr, W.length = as.length ∧ xs.length = W.length ∧ H pd = some (.dK (kvz W as)) ∧ ∀ (i : Nat) (a : Addr) (r : Rat), as[i]? = some a → xs[i]? = some r → FrR H a r
theorem VDAt.keep {H H' : Hp} {pd : Addr} {W : List Str} {xs : List Rat} (s : Same H H') (h : VDAt H pd W xs) : VDAt H' pd W xs := by
  obtain ⟨as, a, b, c, d⟩ := h
  exact ⟨as, a, b, s _ _ c, fun i q r h1 h2 => s _ _ (d i q r h1 h2)⟩
theorem VDAt.at {H : Hp} {pd : Addr} {W : List Str} {xs : List Rat} {n : Str} {r : Rat} (h : VDAt H pd W xs) (nd : W.Nodup) (hn : n ∈ W) (hr : xs[W.idxOf n]? = some r) : ∃ a, DGet H pd (.str n) (some (.ref a)) ∧ FrR H a r := by
  obtain ⟨as, a, b, c, d⟩ := h
  have hl := List.idxOf_lt_length_iff.mpr hn
  obtain ⟨q, hq⟩ : ∃ q, as[W.idxOf n]? = some q := ⟨_, List.getElem?_eq_getElem (by omega)⟩
  have hn2 : W[W.idxOf n]? = some n := by rw [List.getElem?_eq_getElem hl, List.getElem_idxOf]
  have g := DGet.k (k := .inr n) c
  rw [kvz_at nd hn2 hq] at g
  exact ⟨q, g, d _ _ _ hq hr⟩
/-- stands that were told: a room's name and the values -/
abbrev Sd := Str × List Rat
def SvAt (W : List Str) (H : Hp) (q : Addr) (s : Sd) : Prop := ∃ pd, H q = some (.tup [.str s.1, .ref pd]) ∧ VDAt H pd W s.2
theorem SvAt.keep {W : List Str} : ∀ (H H' : Hp) (q : Addr) (s : Sd), Same H H' → SvAt W H q s → SvAt W H' q s := fun _ _ _ _ s ⟨pd, a, b⟩ => ⟨pd, s _ _ a, b.keep s⟩
instance {W : List Str} : Kp2 (SvAt W) := ⟨SvAt.keep⟩
theorem VDAt.del {H : Hp} {D pd : Addr} {W : List Str} {xs : List Rat} {l : List V} (h : VDAt H pd W xs) (e : H D = some (.lst l)) : VDAt (delH D H) pd W xs := by
  obtain ⟨as, a, b, c, d⟩ := h
  exact ⟨as, a, b, del_at (ne_of c e (by intro z; cases z)) c, fun i q r h1 h2 => del_at (ne_of (d i q r h1 h2) e (by intro z; cases z)) (d i q r h1 h2)⟩
theorem ite_b {b : Bool} {A B : Prop} (h1 : b = true → A) (h2 : b = false → B) : if b = true then A else B := by
  cases b
  · exact h2 rfl
  · exact h1 rfl
theorem VDAt.put {H : Hp} {pb p : Addr} {W : List Str} {ys : List Rat} {w : Str} {r : Rat} (h : VDAt H pb W ys) (nd : W.Nodup) (hw : w ∈ W) (hp : FrR H p r) : ∃ kvs, H pb = some (.dK kvs) ∧ kvs.length = W.length ∧ VDAt (upd H pb (.dK (putK kvs (.inr w : Key) (.ref p)))) pb W (ys.set (W.idxOf w) r) := by
  obtain ⟨as, a, b, c, d⟩ := h
  have hl := List.idxOf_lt_length_iff.mpr hw
  have hn2 : W[W.idxOf w]? = some w := by rw [List.getElem?_eq_getElem hl, List.getElem_idxOf]
  obtain ⟨q, hq⟩ : ∃ q, as[W.idxOf w]? = some q := ⟨_, List.getElem?_eq_getElem (by omega)⟩
  refine ⟨_, c, kvz_len a, as.set (W.idxOf w) p, by rw [List.length_set]; exact a, by rw [List.length_set]; exact b, by rw [upd_same, kvz_put nd hn2 hq], fun i x y h1 h2 => ?_⟩
  have ne : ∀ {z : Addr} {s : Rat}, FrR H z s → FrR (upd H pb (.dK (putK (kvz W as) (.inr w : Key) (.ref p)))) z s := fun {z s} k => by
    show upd _ _ _ z = _
    rw [upd_ne (ne_of k c (by intro z; cases z))]; exact k
  by_cases e : W.idxOf w = i
  · subst e
    rw [List.getElem?_set_self (by omega)] at h1
    rw [List.getElem?_set_self (by omega)] at h2
    cases h1; cases h2
    exact ne hp
  · rw [List.getElem?_set_ne e] at h1 h2
    exact ne (d i x y h1 h2)
theorem VDAt.len {H : Hp} {pd : Addr} {W : List Str} {xs : List Rat} (h : VDAt H pd W xs) : xs.length = W.length := by obtain ⟨_, _, b, _⟩ := h; exact b
theorem VDAt.top {H : Hp} {pd : Addr} {W : List Str} {xs : List Rat} (h : VDAt H pd W xs) : ∃ kvs, H pd = some (.dK kvs) ∧ kvs.length = W.length ∧ ∀ p H', Same H H' → H' p = some (.dK kvs) → VDAt H' p W xs := by
  obtain ⟨as, a, b, c, d⟩ := h
  exact ⟨_, c, kvz_len a, fun p H' s e => ⟨as, a, b, e, fun i x y h1 h2 => s _ _ (d i x y h1 h2)⟩⟩
theorem VDAt.upd_lst {H : Hp} {D pd : Addr} {W : List Str} {xs : List Rat} {l : List V} {o : HO} (h : VDAt H pd W xs) (e : H D = some (.lst l)) : VDAt (upd H D o) pd W xs := (h.del e).keep (del_upd.trans del_sub)
theorem back_snoc {W bs : List Str} {xs : List Rat} {i : Nat} {w : Str} (nd : W.Nodup) (xl : xs.length = W.length) (hw : w ∈ W) (h : bs[i]? = some w) : backV W (bs.take (i + 1)) xs = (backV W (bs.take i) xs).set (W.idxOf w) 0 := by
  unfold backV
  rw [lstF_set]
  refine lstF_congr fun j hj => ?_
  rw [take_snocP h]
  have hl := List.idxOf_lt_length_iff.mpr hw
  by_cases c : j = W.idxOf w
  · subst c
    rw [if_pos rfl, if_pos]
    rw [List.getD_eq_getElem?_getD, List.getElem?_eq_getElem hl, List.getElem_idxOf]
    exact List.mem_append_right _ (List.mem_singleton.mpr rfl)
  · rw [if_neg c]
    have : W.getD j "" ∈ bs.take i ++ [w] ↔ W.getD j "" ∈ bs.take i := by
      rw [List.mem_append]
      refine ⟨fun k => k.elim id fun k => ?_, .inl⟩
      have k := List.mem_singleton.mp k
      exfalso
      have hj2 : j < W.length := by omega
      rw [List.getD_eq_getElem?_getD, List.getElem?_eq_getElem hj2] at k
      have k : W[j] = w := k
      exact c (by rw [← k, nd.idxOf_getElem j hj2])
    simp only [this]
def DtAt (H : Hp) (q : Addr) (d : DoorD) : Prop := ∃ g n, H q = some (.tup [.str d.st, .str d.en, .ref g, .ref n, .str d.sg]) ∧ LsAt H g d.looks ∧ H n = some (.lst (d.backs.map V.str))
theorem DtAt.keep : ∀ (H H' : Hp) (q : Addr) (d : DoorD), Same H H' → DtAt H q d → DtAt H' q d := fun _ _ _ _ s ⟨g, n, a, b, c⟩ => ⟨g, n, s _ _ a, b.keep s, s _ _ c⟩
noncomputable def behO (M : MachD) (N : Mx) (d : DoorD) : Option Mx := (thruO M N d).bind fun X => stayO M d.en X
instance : Kp2 DtAt := ⟨DtAt.keep⟩
theorem DtAt.kpq {H H' : Hp} {q : Addr} {d : DoorD} (s : Same H H') (h : DtAt H q d) : DtAt H' q d := DtAt.keep _ _ _ _ s h
local macro_rules | `(tactic| walk_at "hp") => `(tactic| (refine ZW.DtAt.kpq (by assumption) ?_; walk_at "hp"))
def spMeets62 : Sp := fun vs H Q _ => ∃ (pl pd : Addr) (W : List Str) (ls : List Lq) (xs : List Rat), vs = [.ref pl, .ref pd] ∧ LsAt H pl ls ∧ ls.length ≤ 60 ∧ guardOk WORDS W ls = true ∧ SzL ls ∧ W.Nodup ∧ W.length ≤ 7 ∧ VDAt H pd W xs ∧ SzV 100000 xs ∧ ∀ (b : Bool) (H' : Hp), Same H H' → (b = true ↔ ∀ l ∈ lks W ls, meetQ l (vOf xs (l.1 + 1))) → Q (.bl b) H'
theorem ok_l_meets (T : Top K mg) : FnOk P w K mg base CX0 1 T.f_l_meets T.d_l_meets ["_law_looks_here", "_law_values"] spMeets62 := by
  refine T.F_l_meets.ok sc_l_meets (fun vs H Q E h => ?_) (fun cdv A outer s H vs Q E hr h => ?_)
  · obtain ⟨pl, pd, W, ls, xs, rfl, _⟩ := h; rfl
  · obtain ⟨pl, pd, W, ls, xs, rfl, ⟨lq, l1, l2, l3⟩, l60, gk, sz, wnd, w7, hv, xsz, q⟩ := h
    refine ⟨_, (pss_cons (ps_for PassesOwn.never rfl (pi_listA (K := K) rfl (pv 0)) (pg_tupA (K := K) (n := 3) rfl (by rfl) (pgs_cons (pg_name (i := 2) sc_l_meets.nd rfl (.inl rfl)) (pgs_cons (pg_name (i := 3) sc_l_meets.nd rfl (.inl rfl)) (pgs_cons (pg_name (i := 4) sc_l_meets.nd rfl (.inl rfl)) pgs_nil)))) (pss_cons (ps_asg (pe_dget (hu_of hr) (pv 1) (pv 2) (fun _ _ => rfl)) (pg_tupA (K := K) (n := 2) rfl (by rfl) (pgs_cons (pg_name (i := 5) sc_l_meets.nd rfl (.inl rfl)) (pgs_cons (pg_name (i := 6) sc_l_meets.nd rfl (.inl rfl)) pgs_nil))))
      (pss_cons (ps_set (i := 7) sc_l_meets.nd rfl (.inl rfl) (pe_op op_mulW (pv 4) (pv 6)))
      (pss_cons (ps_if (PW.pt (pw_or (PW.pt (pw_and (pt_cmpR op_eq (pv 3) pe_str (nomark _)) (pw_and1 (pt_cmpR op_ge (pv 5) (pv 7) (nomark _))))) (pw_or1 (PW.pt (pw_and (pt_cmpR op_eq (pv 3) pe_str (nomark _)) (pw_and1 (pt_cmpR op_gt (pv 5) (pv 7) (nomark _)))))))) (pss_one (ps_ret pe_bl)) pss_nil)
      (pss_cons (ps_if (PW.pt (pw_or (PW.pt (pw_and (pt_cmpR op_eq (pv 3) pe_str (nomark _)) (pw_and1 (pt_cmpR op_le (pv 5) (pv 7) (nomark _))))) (pw_or1 (PW.pt (pw_and (pt_cmpR op_eq (pv 3) pe_str (nomark _)) (pw_and1 (pt_cmpR op_lt (pv 5) (pv 7) (nomark _)))))))) (pss_one (ps_ret pe_bl)) pss_nil)
      (pss_one (ps_if (PW.pt (pw_and (pt_cmpR op_eq (pv 3) pe_str (nomark _)) (pw_and1 (pt_cmpR op_ne (pv 5) (pv 7) (nomark _))))) (pss_one (ps_ret pe_bl)) pss_nil)))))))
      (pss_one (ps_ret pe_bl))), ?_⟩
    have xl : xs.length = W.length := by obtain ⟨_, _, b, _⟩ := hv; exact b
    refine seq_step ?_
    refine for_li ?_
    walk_at "rd"
    obtain ⟨Iv, hIv⟩ : ∃ Iv : Nat → L2.St → Hp → Prop, ∀ i σ' H', Iv i σ' H' ↔ (∃ v3 v4 v5 v6 v7 v8, σ' = [some (.ref pl), some (.ref pd), v3, v4, v5, v6, v7, v8] ∧ H' = H ∧ ∀ l ∈ lks W (ls.take i), meetQ l (vOf xs (l.1 + 1))) := ⟨_, fun _ _ _ => Iff.rfl⟩
    refine forL_by (xs := lq.map V.ref) Iv ((hIv _ _ _).mpr ⟨_, _, _, _, _, _, rfl, rfl, fun l h => by simp [lks] at h⟩) (fun i σ H' _ h => (fun (⟨_, _, _, _, _, _, _, k, _⟩ : ∃ _ _ _ _ _ _, _ ∧ H' = H ∧ _) => .of (by rw [k]; exact l1)) ((hIv _ _ _).mp h)) ?_ ?_
    · rintro i x σ' H' hi hinv
      obtain ⟨v3, v4, v5, v6, v7, v8, rfl, rfl, don⟩ := (hIv _ _ _).mp hinv
      rw [List.getElem?_map] at hi
      obtain ⟨qi, h1, rfl⟩ := Option.map_eq_some_iff.mp hi
      have hil := (List.getElem?_eq_some_iff.mp h1).1
      obtain ⟨z, hz⟩ : ∃ z, ls[i]? = some z := ⟨_, List.getElem?_eq_getElem (by omega)⟩
      have hzm := List.mem_of_getElem? hz
      obtain ⟨ez, _⟩ := l3 i qi z h1 hz
      obtain ⟨kw, kwd, n, kn, n0⟩ := look_parts (List.all_eq_true.mp gk z hzm)
      have nsz := sz z hzm
      have il := List.idxOf_lt_length_iff.mpr kw
      obtain ⟨r, hr0⟩ : ∃ r, xs[W.idxOf z.1]? = some r := ⟨_, List.getElem?_eq_getElem (by omega)⟩
      have rsz := xsz r (List.mem_of_getElem? hr0)
      have tk : ∀ l ∈ lks W (ls.take (i + 1)), l ∈ lks W (ls.take i) ∨ l = (W.idxOf z.1, wdOf z.2.1, numOf z.2.2) := fun l hl => by
        unfold lks at hl
        rw [List.take_add_one, hz, List.map_append] at hl
        rcases List.mem_append.mp hl with h | h
        · exact .inl h
        · exact .inr (by simpa using h)
      have mq : meetQ (W.idxOf z.1, wdOf z.2.1, numOf z.2.2) (vOf xs (W.idxOf z.1 + 1)) ↔ meetsL (W.idxOf z.1, wdOf z.2.1, numOf z.2.2) (r.num, (r.den : Int)) = true := by
        rw [vOf_at hr0]; exact meetsQ_num.symm
      have hin : (W.idxOf z.1, wdOf z.2.1, numOf z.2.2) ∈ lks W ls := List.mem_map_of_mem (f := fun l : Lq => (W.idxOf l.1, wdOf l.2.1, numOf l.2.2)) hzm
      obtain ⟨za, zb, zc⟩ := z
      obtain rfl : zc = .int n := kn
      have kwd : zb ∈ WORDS := kwd
      have nsz : Sz 250 n := nsz
      have good : meetsL (W.idxOf za, wdOf zb, n) (r.num, (r.den : Int)) = true → ∀ {v3 v4 v5 v6 v7 v8}, Iv (i + 1) [some (.ref pl), some (.ref pd), v3, v4, v5, v6, v7, v8] H' := fun h {v3 v4 v5 v6 v7 v8} => (hIv _ _ _).mpr ⟨_, _, _, _, _, _, rfl, rfl, fun l hl => by
        rcases tk l hl with k | rfl
        · exact don l k
        · exact mq.mpr h⟩
      have bad : ¬ meetsL (W.idxOf za, wdOf zb, n) (r.num, (r.den : Int)) = true → Q (.bl false) H' := fun h => q false H' (Same.refl _) ⟨fun h => (by cases h), fun k => absurd (mq.mp (k _ hin)) h⟩
      refine gTup_of (sqt ez) rfl ?_
      walk_at "rd"
      refine seq_step ?_
      walk_at "rd"
      obtain ⟨a0, hg, ea⟩ := hv.at wnd kw hr0
      refine ⟨_, hg, ?_⟩
      refine gTup_of (sqt ea) rfl ?_
      walk_at "rd"
      refine seq_step ?_
      walk_at "rd"
      refine ⟨Sz.mulW (a := 250) (b := 100000) nsz rsz.2 (by decide), ?_⟩
      obtain ⟨m, hm⟩ : ∃ m, n * (r.den : Int) = m := ⟨_, rfl⟩
      generalize hnn : r.num = tp at *
      generalize hdd : (r.den : Int) = bt at *
      rw [hm]
      refine seq_step ?_
      simp only [List.mem_cons, List.not_mem_nil, or_false] at kwd
      have w1 : wdOf "<" = .lt := by unfold wdOf; rw [if_pos rfl]
      have w2 : wdOf "<=" = .le := by unfold wdOf; rw [if_neg (by decide +kernel), if_pos rfl]
      have w3 : wdOf ">" = .gt := by unfold wdOf; rw [if_neg (by decide +kernel), if_neg (by decide +kernel), if_pos rfl]
      have w4 : wdOf ">=" = .ge := by unfold wdOf; rw [if_neg (by decide +kernel), if_neg (by decide +kernel), if_neg (by decide +kernel), if_pos rfl]
      have w5 : wdOf "=" = .eq := by unfold wdOf; rw [if_neg (by decide +kernel), if_neg (by decide +kernel), if_neg (by decide +kernel), if_neg (by decide +kernel)]
      rcases kwd with rfl | rfl | rfl | rfl | rfl
      · rw [w1] at good bad
        walk_at "rd"
        refine ite_d (fun c => bad (by show ¬ decide (tp < n * bt) = true; rw [hm, decide_eq_true_iff]; omega)) (fun c => ?_)
        refine if_f (by decide +kernel) ?_
        refine seq_step ?_
        walk_at "rd"
        refine if_f (by decide +kernel) ?_
        refine if_f (by decide +kernel) ?_
        refine if_f (by decide +kernel) ?_
        exact good (by show decide (tp < n * bt) = true; rw [hm, decide_eq_true_iff]; omega)
      · rw [w2] at good bad
        walk_at "rd"
        refine if_f (by decide +kernel) ?_
        refine ite_d (fun c => bad (by show ¬ decide (tp ≤ n * bt) = true; rw [hm, decide_eq_true_iff]; omega)) (fun c => ?_)
        refine seq_step ?_
        walk_at "rd"
        refine if_f (by decide +kernel) ?_
        refine if_f (by decide +kernel) ?_
        refine if_f (by decide +kernel) ?_
        exact good (by show decide (tp ≤ n * bt) = true; rw [hm, decide_eq_true_iff]; omega)
      · rw [w3] at good bad
        walk_at "rd"
        refine if_f (by decide +kernel) ?_
        refine if_f (by decide +kernel) ?_
        refine seq_step ?_
        walk_at "rd"
        refine ite_d (fun c => bad (by show ¬ decide (n * bt < tp) = true; rw [hm, decide_eq_true_iff]; omega)) (fun c => ?_)
        refine if_f (by decide +kernel) ?_
        refine if_f (by decide +kernel) ?_
        exact good (by show decide (n * bt < tp) = true; rw [hm, decide_eq_true_iff]; omega)
      · rw [w4] at good bad
        walk_at "rd"
        refine if_f (by decide +kernel) ?_
        refine if_f (by decide +kernel) ?_
        refine seq_step ?_
        walk_at "rd"
        refine if_f (by decide +kernel) ?_
        refine ite_d (fun c => bad (by show ¬ decide (n * bt ≤ tp) = true; rw [hm, decide_eq_true_iff]; omega)) (fun c => ?_)
        refine if_f (by decide +kernel) ?_
        exact good (by show decide (n * bt ≤ tp) = true; rw [hm, decide_eq_true_iff]; omega)
      · rw [w5] at good bad
        walk_at "rd"
        refine if_f (by decide +kernel) ?_
        refine if_f (by decide +kernel) ?_
        refine seq_step ?_
        walk_at "rd"
        refine if_f (by decide +kernel) ?_
        refine if_f (by decide +kernel) ?_
        by_cases c : tp = m
        rotate_left
        · exact if_t (by rw [decide_eq_false c]; rfl) (bad (by show ¬ decide (tp = n * bt) = true; rw [hm, decide_eq_true_iff]; omega))
        refine if_f (by rw [decide_eq_true c]; rfl) ?_
        exact good (by show decide (tp = n * bt) = true; rw [hm, decide_eq_true_iff]; omega)
    · rintro σ' H' hinv
      obtain ⟨v3, v4, v5, v6, v7, v8, rfl, rfl, don⟩ := (hIv _ _ _).mp hinv
      rw [List.length_map, l2, List.take_length] at don
      walk_at "rd"
      exact q true _ (Same.refl _) ⟨fun _ => don, fun _ => rfl⟩
def spLowest (K : PySem.W.Frag) : Sp := fun vs H Q _ => ∃ a b : Int, vs = [.int a, .int b] ∧ b ≠ 0 ∧ Sz 8000 b ∧ LowT a b H Q
theorem ok_l_lowest (T : Top K mg) : FnOk P w K mg base CX0 1 T.f_l_lowest T.d_l_lowest ["_law_top", "_law_bottom"] (spLowest K) := by
  refine T.F_l_lowest.ok sc_l_lowest (fun vs H Q E h => ?_) (fun cdv A outer s H vs Q E hr h => ?_)
  · obtain ⟨a, b, rfl, _⟩ := h; rfl
  · obtain ⟨a, b, rfl, hb, hz, q⟩ := h
    refine ⟨_, (pss_cons (ps_set (i := 2) sc_l_lowest.nd rfl (.inl rfl) (pv 0))
      (pss_cons (ps_set (i := 3) sc_l_lowest.nd rfl (.inl rfl) (pv 1))
      (pss_cons (ps_while PassesOwn.never (pt_cmpR op_ne (pv 3) pe_int (nomark _)) (pss_one (ps_par (i := 2) (j := 3) (by rfl) sc_l_lowest.nd rfl rfl (by decide) rfl rfl (pa_cons (pv 3) (pa_cons (pe_op op_modN (pv 2) (pv 3)) pa_nil)) (by rfl))))
      (pss_one (ps_ret (pe_tupN (pa_cons (pe_op op_fdivZ (pv 0) (pe_callB call_abs (by rfl) T.m_abs (by decide +kernel) (pa_cons (pv 2) pa_nil))) (pa_cons (pe_op op_fdivZ (pv 1) (pe_callB call_abs (by rfl) T.m_abs (by decide +kernel) (pa_cons (pv 2) pa_nil))) pa_nil)))))))), ?_⟩
    refine seq_step ?_
    walk_at "rd"
    refine seq_step ?_
    walk_at "rd"
    refine seq_step ?_
    refine while_by (fun σ H' => H' = H ∧ ∃ x y : Int, σ = [some (.int a), some (.int b), some (.int x), some (.int y)] ∧ Int.gcd x y = Int.gcd a b) (fun σ _ => match σ with | [_, _, _, some (.int y)] => y.natAbs | _ => 0) ⟨rfl, a, b, rfl, rfl⟩ ?_ ?_
    · rintro σ H' ⟨rfl, x, y, rfl, hg⟩
      walk_at "rd"
      by_cases c : y = 0
      · subst c
        rw [decide_eq_true rfl, Bool.not_true, if_neg Bool.false_ne_true]
        have e : (if x < 0 then -x else x) = ((Int.gcd a b : Nat) : Int) := by
          rw [← hg, Int.gcd_zero_right]; split <;> omega
        rw [e]
        have g := gcd_pos_right (a := a) hb
        have gs := gcd_le_size (a := a) hb
        have c : DivOk ((Int.gcd a b : Nat) : Int) := .of (by omega) (Sz.le (by omega) hz) (by omega)
        exact ⟨c, c, fun p H2 s2 _ e2 => q _ _ p H2 (low_of hb) s2 e2⟩
      · rw [decide_eq_false c, Bool.not_false, if_pos rfl]
        exact ⟨c, by rw [fmod_gcd, hg], fmod_lt x y c⟩
    · rintro σ H Q Q' m ⟨v, hv, hs, k, hk, q⟩
      exact ⟨v, hv, hs, k, hk, m _ _ q⟩
def spLater62 : Sp := fun vs H Q _ => ∃ (pd pw : Addr) (W : List Str) (xs : List Rat) (y : Int × Int), vs = [.ref pd, .ref pw] ∧ VDAt H pd W xs ∧ W.Nodup ∧ W.length ≤ 7 ∧ SzV 2000 xs ∧ H pw = some (.tup [.int y.1, .int y.2]) ∧ 0 < y.2 ∧ Sz 2000 y.1 ∧ Sz 2000 y.2 ∧ ∀ q H', Same H H' → H q = none → VDAt H' q W (xs.map (· + rq y)) → Q (.ref q) H'
theorem ok_l_later (T : Top K mg) : FnOk P w K mg base CX0 2 T.f_l_later T.d_l_later ["_law_values", "_law_wait"] spLater62 := by
  refine T.F_l_later.ok sc_l_later (fun vs H Q E h => ?_) (fun cdv A outer s H vs Q E hr h => ?_)
  · obtain ⟨pd, pw, W, xs, y, rfl, _⟩ := h; rfl
  · obtain ⟨pd, pw, W, xs, ⟨t, u⟩, rfl, ⟨as, al, xl, ed, ea⟩, wnd, w7, xsz, ew, hu, st, su, q⟩ := h
    have hu : 0 < u := hu
    have st : Sz 2000 t := st
    have su : Sz 2000 u := su
    refine ⟨_, (pss_cons (ps_set (i := 2) sc_l_later.nd rfl (.inl rfl) pe_dnewN)
      (pss_cons (ps_lock (ps_for PassesOwn.never rfl (pi_items (pv 0)) (pg_tupA (K := K) (n := 2) rfl (by rfl) (pgs_cons (pg_name (i := 3) sc_l_later.nd rfl (.inl rfl)) (pgs_cons (pg_name (i := 4) sc_l_later.nd rfl (.inl rfl)) pgs_nil))) (pss_one (ps_dput (hu_of hr) (pv 2) (pv 3) (pe_call (ok_l_lowest T) (hr.mono (by decide)) rfl T.g_l_lowest T.F_l_lowest.kp T.b_l_lowest .nil pass0 (pa_cons (pe_op op_add (pe_op op_mulW (pe_ix (ix_tupA (K := K) rfl) (pv 4) pe_int (fun _ _ => rfl)) (pe_ix (ix_tupA (K := K) rfl) (pv 1) pe_int (fun _ _ => rfl))) (pe_op op_mulW (pe_ix (ix_tupA (K := K) rfl) (pv 1) pe_int (fun _ _ => rfl)) (pe_ix (ix_tupA (K := K) rfl) (pv 4) pe_int (fun _ _ => rfl)))) (pa_cons (pe_op op_mulW (pe_ix (ix_tupA (K := K) rfl) (pv 4) pe_int (fun _ _ => rfl)) (pe_ix (ix_tupA (K := K) rfl) (pv 1) pe_int (fun _ _ => rfl))) pa_nil))) rfl))))
      (pss_one (ps_ret (pv 2))))), ?_⟩
    refine seq_step ?_
    walk_at "rd"
    intro pf H1 s1 f1 e1
    refine seq_step ?_
    refine for_items rfl (s1 _ _ ed) fun od => ?_
    have npf : pf ≠ pd := fun e => by rw [e, ed] at f1; cases f1
    have tk : ∀ {b : Addr} {l : List V}, H b = some (.tup l) → (upd H pd (.frz od (.dK (kvz W as)))) b = some (.tup l) := fun {b l} h => by rw [upd_ne (ne_of h ed (by intro z; cases z))]; exact h
    have s1l : Same (upd H pd (.frz od (.dK (kvz W as)))) (upd H1 pd (.frz od (.dK (kvz W as)))) := fun b o e => by
      by_cases c : b = pd
      · subst c; rw [upd_same] at e ⊢; exact e
      · rw [upd_ne c] at e ⊢; exact s1 _ _ e
    have hh : (upd H pd (.frz od (.dK (kvz W as)))) pd = some (.frz od (.dK (kvz W as))) := upd_same
    have ew' := tk ew
    have ea' : ∀ (i : Nat) (a : Addr) (r : Rat), as[i]? = some a → xs[i]? = some r → FrR (upd H pd (.frz od (.dK (kvz W as)))) a r := fun i a r h1 h2 => tk (ea i a r h1 h2)
    have ul : ∀ H', Same (upd H pd (.frz od (.dK (kvz W as)))) H' → Same H (upd H' pd (.dK (kvz W as))) := fun H' s => unlock_same ed s
    have f1l : (upd H pd (.frz od (.dK (kvz W as)))) pf = none := by rw [upd_ne npf]; exact f1
    have e1l : (upd H1 pd (.frz od (.dK (kvz W as)))) pf = some (.dK []) := by rw [upd_ne npf]; exact e1
    generalize hHl : upd H pd (.frz od (.dK (kvz W as))) = Hl at *
    generalize upd H1 pd (.frz od (.dK (kvz W as))) = H2 at *
    obtain ⟨Iv, hIv⟩ : ∃ Iv : Nat → L2.St → Hp → Prop, ∀ i σ' H', Iv i σ' H' ↔ (∃ v3 v4, ∃ bs : List Addr, σ' = [some (.ref pd), some (.ref pw), some (.ref pf), v3, v4] ∧ Same Hl H' ∧ bs.length = i ∧ H' pf = some (.dK (kvz (W.take i) bs)) ∧ ∀ (j : Nat) (a : Addr) (r : Rat), bs[j]? = some a → xs[j]? = some r → FrR H' a (r + rq (t, u))) := ⟨_, fun _ _ _ => Iff.rfl⟩
    refine forD_by Iv ((hIv _ _ _).mpr ⟨_, _, [], rfl, s1l, rfl, e1l, fun j a r h => by simp at h⟩) (fun i σ H' h => (fun (⟨_, _, _, _, k, _⟩ : ∃ _ _, ∃ _ : List Addr, _ ∧ Same _ _ ∧ _) => k _ _ hh) ((hIv _ _ _).mp h)) ?_ ?_
    · rintro i key v t0 σ' H8 H9 hi hinv s9 et
      obtain ⟨v3, v4, bs, rfl, s8, bl, e8, fb⟩ := (hIv _ _ _).mp hinv
      obtain ⟨nm, l, h1, h2, rfl, rfl⟩ := kvz_get hi
      have hil := (List.getElem?_eq_some_iff.mp h1).1
      obtain ⟨r, hr0⟩ : ∃ r, xs[i]? = some r := ⟨_, List.getElem?_eq_getElem (by omega)⟩
      have rsz := xsz r (List.mem_of_getElem? hr0)
      have el := (s8.trans s9) _ _ (ea' i l r h2 hr0)
      have ew9 := (s8.trans s9) _ _ ew'
      refine gTup_of (sqt et) rfl ?_
      walk_at "rd"
      refine ix_t (sqt el) (by decide) rfl ?_
      refine ix_t (sqt ew9) (by decide) rfl ?_
      walk_at "rd"
      refine ⟨rsz.1.mulW su (by decide), ?_⟩
      refine ix_t (sqt ew9) (by decide) rfl ?_
      refine ix_t (sqt el) (by decide) rfl ?_
      walk_at "rd"
      refine ⟨st.mulW rsz.2 (by decide), ?_⟩
      refine ix_t (sqt el) (by decide) rfl ?_
      refine ix_t (sqt ew9) (by decide) rfl ?_
      walk_at "rd"
      refine ⟨rsz.2.mulW su (by decide), ?_⟩
      have hb : 0 < (r.den : Int) * u := Int.mul_pos (den_pos r) hu
      have sb : Sz 4000 ((r.den : Int) * u) := rsz.2.mul su (by decide)
      have er : rq (r.num * u + t * (r.den : Int), (r.den : Int) * u) = r + rq (t, u) := by
        rw [rq_sum (x := (r.num, (r.den : Int))) (y := (t, u)) (den_pos r) hu, rq_num]
      refine ⟨_, _, rfl, by omega, sb.mono (by decide), fun t' u' p Ha L sa ep => ?_⟩
      have R := red_rat hb (L.red hb)
      rw [er] at R
      have s8a := s9.trans sa
      clear L
      have tl : (W.take i).length = bs.length := by rw [List.length_take, bl]; omega
      refine ⟨_, DPut.k (k := .inr nm) (s8a _ _ e8) (small1000 (by rw [kvz_len tl, List.length_take]; omega)), ?_⟩
      rw [putK_new _ (kvz_no (not_take wnd h1)), ← kvz_snoc tl, ← take_snocP h1]
      refine (hIv _ _ _).mpr ⟨_, _, bs ++ [p], rfl, same_updN f1l (s8.trans s8a), by rw [List.length_append, bl]; rfl, upd_same, fun j a r' h3 h4 => ?_⟩
      have hpf := s8a _ _ e8
      by_cases c : j < bs.length
      · rw [List.getElem?_append_left c] at h3
        have k := s8a _ _ (fb j a r' h3 h4)
        show (upd Ha pf _) a = _
        rw [upd_ne (ne_of k hpf (by intro z; cases z))]; exact k
      · have hlt := (List.getElem?_eq_some_iff.mp h3).1
        rw [List.length_append, List.length_singleton] at hlt
        rw [List.getElem?_append_right (by omega), show j - bs.length = 0 by omega] at h3
        obtain rfl : p = a := by simpa using h3
        obtain rfl : j = i := by omega
        rw [hr0] at h4; cases h4
        show (upd Ha pf _) p = _
        rw [upd_ne (ne_of ep hpf (by intro z; cases z)), R.1, R.2]; exact ep
    · rintro σ' H8 hinv
      obtain ⟨v3, v4, bs, rfl, s8, bl, e8, fb⟩ := (hIv _ _ _).mp hinv
      rw [kvz_len al] at bl e8
      rw [List.take_length] at e8
      refine ⟨s8 _ _ hh, ?_⟩
      walk_at "rd"
      refine q pf _ (ul _ s8) f1 ⟨bs, bl.symm, by rw [List.length_map, xl], by rw [upd_ne npf]; exact e8, fun j a r h1 h2 => ?_⟩
      rw [List.getElem?_map] at h2
      obtain ⟨r0, h3, rfl⟩ := Option.map_eq_some_iff.mp h2
      have k := fb j a r0 h1 h3
      show (upd H8 pd _) a = _
      rw [upd_ne (ne_of k (s8 _ _ hh) (by intro z; cases z))]; exact k
theorem only_name : ∀ {rs : List Rq} {r : Rq}, (rs.map (·.1)).Nodup → r ∈ rs → (rs.filterMap fun x : Rq => if x.1 = r.1 then some x.2 else none) = [r.2]
  | [], _, _, h => by cases h
  | a :: rs, r, nd, h => by
    rw [List.map_cons, List.nodup_cons] at nd
    rcases List.mem_cons.mp h with rfl | h
    · rw [List.filterMap_cons, if_pos rfl]
      show _ :: _ = _
      congr 1
      refine List.filterMap_eq_nil_iff.mpr fun x hx => if_neg fun e => nd.1 (by rw [← e]; exact List.mem_map_of_mem hx)
    · rw [List.filterMap_cons, if_neg fun e => nd.1 (by rw [e]; exact List.mem_map_of_mem h)]
      exact only_name nd.2 h
def spStay62 : Sp := fun vs H Q _ => ∃ (pr : Addr) (rs : List Rq) (r : Rq), vs = [.ref pr, .str r.1] ∧ RsAt H pr rs ∧ rs.length ≤ 60 ∧ (rs.map (·.1)).Nodup ∧ r ∈ rs ∧ ∀ q H', Same H H' → LsAt H' q r.2 → Q (.ref q) H'
theorem ok_l_stay (T : Top K mg) : FnOk P w K mg base CX0 1 T.f_l_stay T.d_l_stay ["_law_rooms", "_law_room"] spStay62 := by
  refine T.F_l_stay.ok sc_l_stay (fun vs H Q E h => ?_) (fun cdv A outer s H vs Q E hr h => ?_)
  · obtain ⟨pr, rs, r, rfl, _⟩ := h; rfl
  · obtain ⟨pr, rs, r, rfl, ⟨rqs, r1, r2, r3⟩, r60, nd, hrm, q⟩ := h
    refine ⟨_, (pss_one (ps_ret (pe_ix (ix_listA (K := K) rfl) (lc_vs (vs := [2, 3]) (pe_lc (own := [("_law_name", 2), ("_law_stay_here", 3)]) rfl sc_l_stay.nd (pi_listA (K := K) rfl (pv 0)) (blkOk_by (own := [("_law_name", 2), ("_law_stay_here", 3)]) (N := ["_law_rooms", "_law_room", "_law_name", "_law_stay_here"]) (sc := defScope s_l_stay) (by decide +kernel)) (fun _ _ _ _ _ => (pg_tupA (K := K) (n := 2) rfl (by rfl) (pgs_cons (pg_name (i := 2) sc_l_stay.nd rfl (.inl rfl)) (pgs_cons (pg_name (i := 3) sc_l_stay.nd rfl (.inl rfl)) pgs_nil)))) (fun _ _ _ _ _ => pts_one (pt_cmpR op_eq (pv 2) (pv 1) (nomark _))) (fun _ _ _ _ _ => (pv 3))) rfl) pe_int (fun _ _ => rfl)))), ?_⟩
    walk_at "rd"
    refine lcg_src ?_
    walk_at "rd"
    refine ⟨⟨_, .of r1⟩, ?_⟩
    refine lcG (RV := fun H v ls => ∃ p, v = .ref p ∧ LsAt H p ls) (fun _ _ _ _ s ⟨p, e, h⟩ => ⟨p, e, LsAt.keep h s⟩) (F := fun x : Rq => if x.1 = r.1 then some x.2 else none) (zs := rs) r1 (by simp [r2]) (by simp; omega) (fun k x z H3 Yes No hx hz s3 yes no => ?_) (fun c1 H3 s3 f3 hs1 => ?_)
    · rw [List.getElem?_map] at hx
      obtain ⟨qk, h3, rfl⟩ := Option.map_eq_some_iff.mp hx
      obtain ⟨g, ez, hg⟩ := r3 k qk z h3 hz
      refine gTup_of (sqt (s3 _ _ ez)) rfl ?_
      walk_at "rd"
      by_cases c : z.1 = r.1
      · refine if_t (decide_eq_true (by rw [c])) ?_
        exact yes _ H3 (Same.refl _) ⟨z.2, if_pos c, fun D acc fD eD => ⟨g, rfl, LsAt.del (LsAt.keep hg s3) (fun y => by obtain ⟨_, k, _⟩ := hg; rw [y, fD] at k; cases k) eD⟩⟩
      · exact if_f (decide_eq_false fun h => c (by injection h)) (no H3 (Same.refl _) (if_neg c))
    · have sd := (seqVD_of hs1)
      rw [only_name nd hrm] at sd
      obtain ⟨qs, a1, a2, a3⟩ := sd
      obtain ⟨q0, hq0⟩ : ∃ q0, qs[0]? = some q0 := ⟨_, List.getElem?_eq_getElem (by rw [a2]; exact Nat.zero_lt_one)⟩
      refine ix_l (.of a1) (by decide) (by show (qs.map V.ref)[0]? = _; rw [List.getElem?_map, hq0]; rfl) ?_
      exact q q0 H3 s3 (LsAt.keep (a3 0 q0 _ hq0 rfl) del_sub)
def nm61 (k : Nat) : Str := ["a", "bb", "ccc"].getD k ""
theorem nm61_mul {i : Nat} (h : i < 3) : ∃ c, atI ("abc" : Str).cps.toList (i : Int) = some c ∧ MulOk ⟨#[c]⟩ (1 + (i : Int)) ∧ Txt.mul ⟨#[c]⟩ (1 + (i : Int)) = nm61 i := by
  obtain rfl | rfl | rfl : i = 0 ∨ i = 1 ∨ i = 2 := by omega
  · exact ⟨97, by decide +kernel, ⟨by decide +kernel, by decide +kernel, by decide +kernel⟩, by decide +kernel⟩
  · exact ⟨98, by decide +kernel, ⟨by decide +kernel, by decide +kernel, by decide +kernel⟩, by decide +kernel⟩
  · exact ⟨99, by decide +kernel, ⟨by decide +kernel, by decide +kernel, by decide +kernel⟩, by decide +kernel⟩
theorem nm61_ok {k : Nat} (h : k ≤ 3) : ((List.range k).map nm61).Nodup ∧ ∀ x ∈ (List.range k).map nm61, okName x = true := by
  obtain rfl | rfl | rfl | rfl : k = 0 ∨ k = 1 ∨ k = 2 ∨ k = 3 := by omega
  all_goals exact ⟨by decide +kernel, by decide +kernel⟩
def MP (W : List Str) (rs : List Rq) (ds : List DoorD) : MachD := ⟨W, rs, ds⟩
def spParts61 (K : PySem.W.Frag) : Sp := fun vs H Q _ => ∃ (a pw : Addr) (cs : List Int) (W : List Str) (unit : Int), vs = [.ref a, .ref pw, .int unit] ∧ SqL K H a (cs.map V.int) ∧ H pw = some (.lst (W.map V.str)) ∧ (∀ x ∈ W, okName x = true) ∧ W.Nodup ∧ W.length ≤ 2 ∧ 1 ≤ unit ∧ unit ≤ 10 ^ 12 ∧
  ∀ (q pr pd pg : Addr) (H' : Hp) (rs : List Rq) (ds : List DoorD) (gs : List Rq), Same H H' → H' q = some (.tup [.ref pr, .ref pd, .ref pg]) → RsAt H' pr rs → SeqOf DtAt H' pd ds → RsAt H' pg gs → MachOk (MP W rs ds) → MSz (MP W rs ds) → rs.length ≤ 3 → ds.length ≤ 5 → gs.length ≤ 2 → gs.all (markOk (MP W rs ds)) = true → (∀ g ∈ gs, g.2.length ≤ 60 ∧ SzL g.2) → Q (.ref q) H'
theorem ok_l_parts (T : Top K mg) : FnOk P w K mg base CX0 2 T.f_l_parts T.d_l_parts ["_law_script", "_law_watches", "_law_unit"] (spParts61 K) := by
  refine T.F_l_parts.ok sc_l_parts (fun vs H Q E h => ?_) (fun cdv A outer s H vs Q E hr h => ?_)
  · obtain ⟨a, pw, cs, W, unit, rfl, _⟩ := h; rfl
  · obtain ⟨a, pw, cs, W, unit, rfl, hS, hw, wok, wnd, w2, u1, u2, q⟩ := h
    refine ⟨_, (pss_cons (ps_set (i := 3) sc_l_parts.nd rfl (.inl rfl) (pe_lstN (pa_cons pe_str (pa_cons pe_str (pa_cons pe_str (pa_cons pe_str (pa_cons pe_str pa_nil)))))))
      (pss_cons (ps_set (i := 4) sc_l_parts.nd rfl (.inl rfl) (pe_lstN pa_nil))
      (pss_cons (ps_for PassesOwn.never rfl (pi_range1 (by rfl) T.m_range (pa_cons (pe_op op_add pe_int (pe_op op_modN (pe_call (ok_l_cell_at T) (hr.mono (by decide)) rfl T.g_l_cell_at T.F_l_cell_at.kp T.b_l_cell_at .nil pass0 (pa_cons (pv 0) (pa_cons pe_int pa_nil))) pe_int)) pa_nil)) (pg_name (i := 5) sc_l_parts.nd rfl (.inl rfl)) (pss_cons (ps_set (i := 6) sc_l_parts.nd rfl (.inr rfl) (pe_call (ok_l_stream T) (hr.mono (by decide)) rfl T.g_l_stream T.F_l_stream.kp T.b_l_stream .nil pass0 (pa_cons (pe_op op_add (pe_op op_fdivZ (pe_call (ok_l_cell_at T) (hr.mono (by decide)) rfl T.g_l_cell_at T.F_l_cell_at.kp T.b_l_cell_at .nil pass0 (pa_cons (pv 0) (pa_cons pe_int pa_nil))) pe_int) (pe_op op_mulW pe_int (pv 5))) (pa_cons pe_int pa_nil))))
      (pss_one (ps_expr (pe_bm PySem.F.plainAttrs_list PySem.F.slot_list_append PySem.F.type_list_append mt_append (pv 4) (pa_cons (pe_tupN (pa_cons (pe_op op_mulS (pe_ix ix_str pe_str (pv 5) (fun _ _ => rfl)) (pe_op op_add pe_int (pv 5))) (pa_cons (pe_call (ok_l_looks T) (hr.mono (by decide)) rfl T.g_l_looks T.F_l_looks.kp T.b_l_looks .nil pass0 (pa_cons (pe_slice (sl_listA (K := K) rfl) (pv 6) (po_some pe_int) po_none) (pa_cons (pe_op op_modN (pe_ix (ix_listA (K := K) rfl) (pv 6) pe_int (fun _ _ => rfl)) pe_int) (pa_cons (pv 1) (pa_cons (pv 2) (pa_cons (pe_slice (sl_listA (K := K) rfl) (pv 3) po_none (po_some pe_int)) pa_nil)))))) pa_nil))) pa_nil))))))
      (pss_cons (ps_set (i := 7) sc_l_parts.nd rfl (.inl rfl) (pe_lstN pa_nil))
      (pss_cons (ps_for PassesOwn.never rfl (pi_listA (K := K) rfl (pe_slice (sl_listA (K := K) rfl) (pv 0) (po_some pe_int) (po_some (pe_op op_add pe_int (pe_op op_modN (pe_call (ok_l_cell_at T) (hr.mono (by decide)) rfl T.g_l_cell_at T.F_l_cell_at.kp T.b_l_cell_at .nil pass0 (pa_cons (pv 0) (pa_cons pe_int pa_nil))) pe_int))))) (pg_name (i := 8) sc_l_parts.nd rfl (.inl rfl)) (pss_cons (ps_set (i := 6) sc_l_parts.nd rfl (.inr rfl) (pe_call (ok_l_stream T) (hr.mono (by decide)) rfl T.g_l_stream T.F_l_stream.kp T.b_l_stream .nil pass0 (pa_cons (pv 8) (pa_cons pe_int pa_nil))))
      (pss_cons (ps_set (i := 9) sc_l_parts.nd rfl (.inl rfl) (pe_ix (ix_tupA (K := K) rfl) (pe_ix (ix_listA (K := K) rfl) (pv 4) (pe_op op_modN (pe_ix (ix_listA (K := K) rfl) (pv 6) pe_int (fun _ _ => rfl)) (pe_callB call_len_seq (by rfl) T.m_len (by decide +kernel) (pa_cons (pv 4) pa_nil))) (fun _ _ => rfl)) pe_int (fun _ _ => rfl)))
      (pss_cons (ps_set (i := 10) sc_l_parts.nd rfl (.inl rfl) (pe_ix (ix_tupA (K := K) rfl) (pe_ix (ix_listA (K := K) rfl) (pv 4) (pe_op op_modN (pe_ix (ix_listA (K := K) rfl) (pv 6) pe_int (fun _ _ => rfl)) (pe_callB call_len_seq (by rfl) T.m_len (by decide +kernel) (pa_cons (pv 4) pa_nil))) (fun _ _ => rfl)) pe_int (fun _ _ => rfl)))
      (pss_cons (ps_set (i := 11) sc_l_parts.nd rfl (.inl rfl) (pe_call (ok_l_looks T) (hr.mono (by decide)) rfl T.g_l_looks T.F_l_looks.kp T.b_l_looks .nil pass0 (pa_cons (pe_slice (sl_listA (K := K) rfl) (pv 6) (po_some pe_int) po_none) (pa_cons (pe_op op_modN (pe_ix (ix_listA (K := K) rfl) (pv 6) pe_int (fun _ _ => rfl)) pe_int) (pa_cons (pv 1) (pa_cons (pv 2) (pa_cons (pv 3) pa_nil)))))))
      (pss_cons (lc_vsS (vs := [5, 14]) (ps_setLc (i := 12) (own := [("_law_k", 5), ("_law_watch", 14)]) rfl sc_l_parts.nd rfl rfl (sw_true rfl rfl rfl (by decide +kernel)) (pi_enumK (K := K) rfl (by rfl) T.m_enumerate (pa_cons (pv 1) pa_nil)) (blkOk_by (own := [("_law_k", 5), ("_law_watch", 14)]) (N := ["_law_script", "_law_watches", "_law_unit", "_law_words", "_law_rooms", "_law_k", "_law_xs", "_law_doors", "_law_cell", "_law_begin", "_law_end", "_law_guard", "_law_noughts", "_law_goal", "_law_watch"]) (sc := defScope s_l_parts) (by decide +kernel)) (fun _ _ _ _ _ => (pg_tupA (K := K) (n := 2) rfl (by rfl) (pgs_cons (pg_name (i := 5) sc_l_parts.nd rfl (.inl rfl)) (pgs_cons (pg_name (i := 14) sc_l_parts.nd rfl (.inl rfl)) pgs_nil)))) (fun _ _ _ _ _ => pts_one (pt_cmpR op_eq (pe_op op_modN (pe_op op_fdivZ (pe_ix (ix_listA (K := K) rfl) (pv 6) pe_int (fun _ _ => rfl)) (pe_op op_add pe_int (pv 5))) pe_int) pe_int (nomark _))) (fun _ _ _ _ _ => (pv 14))) rfl)
      (pss_one (ps_expr (pe_bm PySem.F.plainAttrs_list PySem.F.slot_list_append PySem.F.type_list_append mt_append (pv 7) (pa_cons (pe_tupN (pa_cons (pv 9) (pa_cons (pv 10) (pa_cons (pv 11) (pa_cons (pv 12) (pa_cons (pe_ix (ix_listA (K := K) rfl) (pe_lstN (pa_cons pe_str (pa_cons pe_str (pa_cons pe_str (pa_cons pe_str (pa_cons pe_str (pa_cons pe_str pa_nil))))))) (pe_op op_modN (pe_ix (ix_listA (K := K) rfl) (pv 6) pe_int (fun _ _ => rfl)) pe_int) (fun _ _ => rfl)) pa_nil)))))) pa_nil))))))))))
      (pss_cons (ps_set (i := 13) sc_l_parts.nd rfl (.inl rfl) (pe_lstN pa_nil))
      (pss_cons (ps_for PassesOwn.never rfl (pi_range1 (by rfl) T.m_range (pa_cons (pe_op op_modN (pe_call (ok_l_cell_at T) (hr.mono (by decide)) rfl T.g_l_cell_at T.F_l_cell_at.kp T.b_l_cell_at .nil pass0 (pa_cons (pv 0) (pa_cons pe_int pa_nil))) pe_int) pa_nil)) (pg_name (i := 5) sc_l_parts.nd rfl (.inl rfl)) (pss_cons (ps_set (i := 6) sc_l_parts.nd rfl (.inr rfl) (pe_call (ok_l_stream T) (hr.mono (by decide)) rfl T.g_l_stream T.F_l_stream.kp T.b_l_stream .nil pass0 (pa_cons (pe_op op_add (pe_op op_fdivZ (pe_call (ok_l_cell_at T) (hr.mono (by decide)) rfl T.g_l_cell_at T.F_l_cell_at.kp T.b_l_cell_at .nil pass0 (pa_cons (pv 0) (pa_cons pe_int pa_nil))) pe_int) (pe_op op_mulW pe_int (pv 5))) (pa_cons pe_int pa_nil))))
      (pss_one (ps_expr (pe_bm PySem.F.plainAttrs_list PySem.F.slot_list_append PySem.F.type_list_append mt_append (pv 13) (pa_cons (pe_tupN (pa_cons (pe_ix (ix_tupA (K := K) rfl) (pe_ix (ix_listA (K := K) rfl) (pv 4) (pe_op op_modN (pe_ix (ix_listA (K := K) rfl) (pv 6) pe_int (fun _ _ => rfl)) (pe_callB call_len_seq (by rfl) T.m_len (by decide +kernel) (pa_cons (pv 4) pa_nil))) (fun _ _ => rfl)) pe_int (fun _ _ => rfl)) (pa_cons (pe_call (ok_l_looks T) (hr.mono (by decide)) rfl T.g_l_looks T.F_l_looks.kp T.b_l_looks .nil pass0 (pa_cons (pe_slice (sl_listA (K := K) rfl) (pv 6) (po_some pe_int) po_none) (pa_cons (pe_op op_modN (pe_ix (ix_listA (K := K) rfl) (pv 6) pe_int (fun _ _ => rfl)) pe_int) (pa_cons (pv 1) (pa_cons (pv 2) (pa_cons (pv 3) pa_nil)))))) pa_nil))) pa_nil))))))
      (pss_one (ps_ret (pe_tupN (pa_cons (pv 4) (pa_cons (pv 7) (pa_cons (pv 13) pa_nil))))))))))))), ?_⟩
    have wtx : ∀ x ∈ W, TxOk x := fun x hx => okName_tx (wok x hx)
    refine seq_step ?_
    walk_at "rd"
    intro wl H1 s1 f1 e1
    refine seq_step ?_
    walk_at "rd"
    intro pr H2 s2 f2 e2
    refine seq_step ?_
    refine for_rg ?_
    walk_at "rd"
    have s12 := s1.trans s2
    refine ⟨a, cs, 1, rfl, s12.seq hS, by decide, ?_⟩
    generalize hc1 : cs.getD (1 : Int).toNat 0 = c1
    walk_at "rd"
    have m3 := fm_pos (c := c1) (m := 3) (by decide)
    obtain ⟨kn, hkn⟩ : ∃ n : Nat, 1 + c1.fmod 3 = (n : Int) := ⟨(1 + c1.fmod 3).toNat, by omega⟩
    rw [hkn]
    refine ⟨(rg_ok (by omega)).1, (rg_ok (by omega)).2, ?_⟩
    rw [Int.toNat_natCast]
    obtain ⟨Iv1, hIv1⟩ : ∃ Iv : Nat → L2.St → Hp → Prop, ∀ i σ' H', Iv i σ' H' ↔ (∃ v5 v6, ∃ rs : List Rq, σ' = [some (.ref a), some (.ref pw), some (.int unit), some (.ref wl), some (.ref pr), v5, v6, none, none, none, none, none, none, none, none] ∧ Same H1 H' ∧ SeqD RqAt H' pr rs ∧ rs.map (·.1) = (List.range i).map nm61 ∧ ∀ r ∈ rs, guardOk ["<", "<="] W r.2 = true ∧ r.2.length ≤ 2 ∧ SzL r.2) := ⟨_, fun _ _ _ => Iff.rfl⟩
    refine forR_by Iv1 ((hIv1 _ _ _).mpr ⟨_, _, [], rfl, s2, SeqD.nil e2, rfl, fun r h => by cases h⟩) ?_ ?_
    · rintro i σ' H3 hi hinv
      obtain ⟨v5, v6, rs, rfl, s3, sd, rnm, rok⟩ := (hIv1 _ _ _).mp hinv
      have s13 := s1.trans s3
      walk_at "rd"
      refine seq_step ?_
      walk_at "rd"
      refine ⟨a, cs, 1, rfl, s13.seq hS, by decide, ?_⟩
      rw [hc1]
      walk_at "rd"
      refine ⟨Sz.mulW (a := 16) (b := 8) (by show (1009 : Int).natAbs < 2 ^ 16; decide) (by show (i : Int).natAbs < 2 ^ 8; omega) (by decide), ?_⟩
      refine ⟨_, 4, rfl, by decide, fun px H4 xs s4 f4 e4 xl xok => ?_⟩
      obtain ⟨_, w1, _⟩ := id sd
      obtain ⟨x0, hx0⟩ : ∃ v : Int, (xs.map V.int)[0]? = some (.int v) := ⟨xs[0], by rw [List.getElem?_map, List.getElem?_eq_getElem (by omega)]; rfl⟩
      obtain ⟨cc, hcc, hmul, hnm⟩ := nm61_mul (i := i) (by omega)
      refine ⟨_, rfl, .inl ⟨rfl, _, .of (s4 _ _ w1)⟩, ?_⟩
      walk_at "rd"
      refine ⟨"abc", _, cc, rfl, rfl, small1000' (by decide +kernel), hcc, ?_⟩
      refine ⟨_, _, rfl, rfl, hmul, ?_⟩
      rw [hnm]
      refine ⟨_, .of e4, fun p5 H5 s5 f5 e5 => ?_⟩
      rw [show (some (1 : Int)) = some ((1 : Nat) : Int) from rfl, cut_from (by rw [List.length_map]; omega), ← List.map_drop] at e5
      refine ix_l (.of (s5 _ _ e4)) (by decide) hx0 ?_
      have mm2 := fm_pos (c := x0) (m := 2) (by decide)
      obtain ⟨mm, hmm⟩ : ∃ n : Nat, x0.fmod 2 = (n : Int) := ⟨(x0.fmod 2).toNat, by omega⟩
      refine ⟨_, rfl, ?_⟩
      rw [hmm]
      have s25 := s3.trans (s4.trans s5)
      refine ⟨_, .of (s25 _ _ e1), fun p6 H6 s6 f6 e6 => ?_⟩
      have e6 : H6 p6 = some (.lst ((["<", "<="] : List Str).map V.str)) := e6.trans (by rw [show (some (2 : Int)) = some ((2 : Nat) : Int) from rfl, cutTo (by simp)]; rfl)
      have s16 := s1.trans (s25.trans s6)
      have s36 := s4.trans (s5.trans s6)
      refine ⟨p5, pw, p6, xs.drop 1, mm, W, ["<", "<="], unit, rfl, s6 _ _ e5, fun x hx => xok x (List.mem_of_mem_drop hx), by rw [List.length_drop]; omega, by omega, s16 _ _ hw, wtx, by omega, e6, by decide, by decide, u1, u2, fun lq H7 ls s7 f7 hls l2 gk sz => ?_⟩
      intro t H8 s8 f8 e8
      have s38 := s36.trans (s7.trans s8)
      have w6 := s36 _ _ w1
      have tpr : t ≠ pr := fun y => by rw [y, (s36.trans s7) _ _ w1] at f8; cases f8
      obtain ⟨items, it1, it2, it3⟩ := (sd.keep RqAt.keep' s38).app RqAt.keep' (q := t) (x := (nm61 i, ls)) ⟨lq, del_at tpr e8, LsAt.keep hls ((new_del w6).trans (del_same s8))⟩
      refine app_at it1 (by
        have := congrArg List.length rnm
        rw [List.length_map, List.length_map, List.length_range] at this
        omega) ?_
      refine (hIv1 _ _ _).mpr ⟨_, _, rs ++ [(nm61 i, ls)], rfl, same_updN f2 (s3.trans s38), it3, by rw [List.map_append, rnm, List.range_succ, List.map_append]; rfl, fun r hr => ?_⟩
      rcases List.mem_append.mp hr with h | h
      · exact rok r h
      · rw [show r = (nm61 i, ls) by simpa using h]; exact ⟨gk, l2, sz⟩
    · rintro σ' H3 hinv
      obtain ⟨v5, v6, rs, rfl, s3, sd, rnm, rok⟩ := (hIv1 _ _ _).mp hinv
      have s13 := s1.trans s3
      have hrs0 : RsAt H3 pr rs := sd.seq RqAt.keep'
      have rlen : rs.length = kn := by
        have := congrArg List.length rnm
        rw [List.length_map, List.length_map, List.length_range] at this; exact this
      have nok := nm61_ok (k := kn) (by omega)
      walk_at "rd"
      refine seq_step ?_
      walk_at "rd"
      intro pd H4 s4 f4 e4
      refine seq_step ?_
      refine for_li ?_
      walk_at "rd"
      refine ⟨a, cs, 2, rfl, (s13.trans s4).seq hS, by decide, ?_⟩
      generalize cs.getD (2 : Int).toNat 0 = c2
      have m6 := fm_pos (c := c2) (m := 5) (by decide)
      obtain ⟨dn, hdn⟩ : ∃ n : Nat, c2.fmod 5 = (n : Int) := ⟨(c2.fmod 5).toNat, by omega⟩
      refine ⟨_, rfl, _, (s13.trans s4).seq hS, fun pl H5 s5 f5 e5 => ?_⟩
      rw [hdn] at e5 m6
      obtain ⟨dsl, eds, dslen⟩ := cutInts (cs := cs) (a := 4) (b := 4 + dn) (by omega)
      have e5 : H5 pl = some (.lst (dsl.map V.int)) := e5.trans (by rw [← eds]; rfl)
      have s15 := s13.trans (s4.trans s5)
      have hrs5 : RsAt H5 pr rs := hrs0.keep (s4.trans s5)
      have e1_5 := (s3.trans (s4.trans s5)) _ _ e1
      obtain ⟨Iv2, hIv2⟩ : ∃ Iv : Nat → L2.St → Hp → Prop, ∀ i σ' H', Iv i σ' H' ↔ (∃ v5 v6 v8 v9 v10 v11 v12, ∃ ds : List DoorD, σ' = [some (.ref a), some (.ref pw), some (.int unit), some (.ref wl), some (.ref pr), v5, v6, some (.ref pd), v8, v9, v10, v11, v12, none, none] ∧ Same H3 H' ∧ H' pl = some (.lst (dsl.map V.int)) ∧ SeqD DtAt H' pd ds ∧ ds.length = i ∧ ∀ d ∈ ds, doorOk W (rs.map (·.1)) d = true ∧ d.looks.length ≤ 2 ∧ SzL d.looks) := ⟨_, fun _ _ _ => Iff.rfl⟩
      have plpd : pl ≠ pd := fun y => by rw [y, e4] at f5; cases f5
      refine forL_by (xs := dsl.map V.int) Iv2 ((hIv2 _ _ _).mpr ⟨_, _, _, _, _, _, _, [], rfl, s4.trans s5, e5, SeqD.nil (s5 _ _ e4), rfl, fun d h => by cases h⟩) (fun i σ H' _ h => (fun (⟨_, _, _, _, _, _, _, _, _, _, k, _⟩ : ∃ _ _ _ _ _ _ _, ∃ _ : List DoorD, _ ∧ _ ∧ _ ∧ _) => .of k) ((hIv2 _ _ _).mp h)) ?_ ?_
      · rintro i x σ' H6 hi hinv
        obtain ⟨v5, v6, v8, v9, v10, v11, v12, ds, rfl, s6, e6, sdd, dlen, dok⟩ := (hIv2 _ _ _).mp hinv
        rw [List.getElem?_map] at hi
        obtain ⟨cell, hcell, rfl⟩ := Option.map_eq_some_iff.mp hi
        have hil := (List.getElem?_eq_some_iff.mp hcell).1
        have s16 := s13.trans s6
        walk_at "rd"
        refine seq_step ?_
        walk_at "rd"
        refine ⟨cell, 12, rfl, by decide, fun px H7 xs s7 f7 e7 xl xok => ?_⟩
        have xat : ∀ j : Nat, j < 12 → ∃ v : Int, (xs.map V.int)[j]? = some (.int v) ∧ 0 ≤ v := fun j h => by
          have hj := List.getElem?_eq_getElem (l := xs) (i := j) (by omega)
          exact ⟨xs[j], by rw [List.getElem?_map, hj]; rfl, (xok _ (List.mem_of_getElem? hj)).1⟩
        obtain ⟨x0, h0, _⟩ := xat 0 (by omega)
        obtain ⟨x1, h1, _⟩ := xat 1 (by omega)
        obtain ⟨x2, h2, _⟩ := xat 2 (by omega)
        obtain ⟨x3, h3, _⟩ := xat 3 (by omega)
        obtain ⟨x10, h10, _⟩ := xat 10 (by omega)
        have hrs6 : RsAt H6 pr rs := hrs0.keep s6
        obtain ⟨rqs, rq1, rq2, rq3⟩ := id hrs6
        have room : ∀ {x : Int} {Q1 : VK} {J : Hp}, Same H6 J → (∀ st, st ∈ rs.map (·.1) → Q1 (.str st) J) → rIxL K (.ref pr) (.int (x.fmod (rs.length : Int))) J (fun y H1 => rIxT K y (.int 0) H1 Q1) := fun {x Q1 J} s5 hq => by
          have mr := fm_pos (c := x) (m := (rs.length : Int)) (by omega)
          have hqk := List.getElem?_eq_getElem (l := rqs) (i := (x.fmod (rs.length : Int)).toNat) (by omega)
          have hrk := List.getElem?_eq_getElem (l := rs) (i := (x.fmod (rs.length : Int)).toNat) (by omega)
          obtain ⟨g1, t1, _⟩ := rq3 _ _ _ hqk hrk
          exact ix_l (.of (s5 _ _ rq1)) mr.1 (by rw [List.getElem?_map, hqk]; rfl) (ix_t (sqt (s5 _ _ t1)) (by decide) rfl (hq _ (List.mem_map_of_mem (List.mem_of_getElem? hrk))))
        walk_at "rd"
        refine seq_step ?_
        walk_at "rd"
        refine ix_l (.of e7) (by decide) h0 ?_
        walk_at "rd"
        refine ⟨_, .inl (.of (s7 _ _ rq1)), ?_⟩
        rw [List.length_map, rq2]
        refine ⟨by omega, ?_⟩
        refine room s7 fun st hst => ?_
        walk_at "rd"
        refine seq_step ?_
        walk_at "rd"
        refine ix_l (.of e7) (by decide) h1 ?_
        walk_at "rd"
        refine ⟨_, .inl (.of (s7 _ _ rq1)), ?_⟩
        rw [List.length_map, rq2]
        refine ⟨by omega, ?_⟩
        refine room s7 fun en hen => ?_
        walk_at "rd"
        refine seq_step ?_
        walk_at "rd"
        refine ⟨_, .of e7, fun p8 H8 s8 f8 e8 => ?_⟩
        rw [show (some (4 : Int)) = some ((4 : Nat) : Int) from rfl, cut_from (by rw [List.length_map]; omega), ← List.map_drop] at e8
        refine ix_l (.of (s8 _ _ e7)) (by decide) h2 ?_
        have mm3 := fm_pos (c := x2) (m := 3) (by decide)
        obtain ⟨mm, hmm⟩ : ∃ n : Nat, x2.fmod 3 = (n : Int) := ⟨(x2.fmod 3).toNat, by omega⟩
        refine ⟨_, rfl, ?_⟩
        rw [hmm]
        have s68 := s7.trans s8
        have sH8 := s16.trans s68
        refine ⟨p8, pw, wl, xs.drop 4, mm, W, WORDS, unit, rfl, e8, fun x hx => xok x (List.mem_of_mem_drop hx), by rw [List.length_drop]; omega, by omega, sH8 _ _ hw, wtx, by omega, (s6.trans s68) _ _ (s3 _ _ e1), by decide, by decide, u1, u2, fun lq H9 ls s9 f9 hls l2 gk sz => ?_⟩
        have s69 := s68.trans s9
        walk_at "rd"
        refine seq_step ?_
        refine lce_src ?_
        walk_at "rd"
        refine ⟨_, .of ((sH8.trans s9) _ _ hw), ?_⟩
        refine lcE_fil (zs := W) (Pb := fun k => decide ((x3.fdiv (2 + (k : Int))).fmod 2 = 0)) ((sH8.trans s9) _ _ hw) (by omega) (fun k z T Ha Yes No hz sa ea hy hno => ?_) (fun nq Ha sa fa ea => ?_)
        · refine gTup_of (sqt ea) rfl ?_
          walk_at "rd"
          refine ix_l (.of ((s8.trans (s9.trans sa)) _ _ e7)) (by decide) h3 ?_
          walk_at "rd"
          refine ⟨.of (n := 8) (by omega) (by show (2 + (k : Int)).natAbs < 2 ^ 8; have := (List.getElem?_eq_some_iff.mp hz).1; omega) (by decide), ?_⟩
          refine ite_d (fun c => ?_) (fun c => ?_)
          · exact hy (decide_eq_true c) _ (Same.refl _)
          · exact hno (decide_eq_false c) _ (Same.refl _)
        obtain ⟨F, hF⟩ : ∃ F : Nat → Option Str, F = fun k : Nat => if decide ((x3.fdiv (2 + (k : Int))).fmod 2 = 0) = true then W[k]? else none := ⟨_, rfl⟩
        have fn := fm_nodup wnd (n := W.length) (F := F) (fun k x h => by
          rw [hF] at h
          have h : (if decide ((x3.fdiv (2 + (k : Int))).fmod 2 = 0) = true then W[k]? else none) = some x := h
          split at h
          · exact h
          · cases h)
        rw [← hF] at ea
        generalize (List.range W.length).filterMap F = bs at *
        walk_at "rd"
        have s6a := s69.trans sa
        obtain ⟨_, w1, _⟩ := id sdd
        refine ⟨_, rfl, .inl ⟨rfl, _, .of (s6a _ _ w1)⟩, ?_⟩
        walk_at "rd"
        intro l10 Hb sb fb eb
        have m6' := fm_pos (c := x10) (m := 6) (by decide)
        obtain ⟨sg, hsg, sgm⟩ := pick_word (ws := ["", "", "", "", "", "go!"]) (i := x10.fmod 6) m6'
        have sgo : okSign sg = true := by
          simp only [List.mem_cons, List.not_mem_nil, or_false] at sgm
          rcases sgm with rfl | rfl | rfl | rfl | rfl | rfl <;> decide +kernel
        refine ix_l (.of ((s8.trans (s9.trans (sa.trans sb))) _ _ e7)) (by decide) h10 ?_
        walk_at "rd"
        refine ix_l (.of eb) m6'.1 hsg ?_
        walk_at "rd"
        intro t Hc sc fc ec
        have s6c := s6a.trans (sb.trans sc)
        have s9c := sa.trans (sb.trans sc)
        have npd : ∀ {b : Addr} {J : Hp}, J b = none → Same H6 J → b ≠ pd := fun f s y => by rw [y, s _ _ w1] at f; cases f
        obtain ⟨items, it1, it2, it3⟩ := (sdd.keep DtAt.keep s6c).app DtAt.keep (q := t) (x := ⟨st, en, sg, ls, bs⟩) ⟨lq, nq, del_at (npd fc (s6a.trans sb)) ec, LsAt.keep hls ((new_del (s68 _ _ w1)).trans (del_same s9c)), del_at (npd fa s69) ((sb.trans sc) _ _ ea)⟩
        refine app_at it1 (by omega) ?_
        refine (hIv2 _ _ _).mpr ⟨_, _, _, _, _, _, _, ds ++ [⟨st, en, sg, ls, bs⟩], rfl, same_updN f4 (s6.trans s6c), by rw [upd_ne plpd]; exact s6c _ _ e6, it3, by rw [List.length_append, List.length_singleton]; omega, fun d hd => ?_⟩
        rcases List.mem_append.mp hd with h | h
        · exact dok d h
        · rw [show d = ⟨st, en, sg, ls, bs⟩ by simpa using h]
          refine ⟨?_, l2, sz⟩
          unfold doorOk
          rw [sgo, show guardOk ["<", "<=", ">", ">=", "="] W ls = true from gk, decide_eq_true hst, decide_eq_true hen, decide_eq_true fn.1]
          show ((true && true && true && true && bs.all _) && true) = true
          rw [List.all_eq_true.mpr (fun b hb => decide_eq_true (fn.2 b hb))]; rfl
      · rintro σ' H6 hinv
        obtain ⟨v5, v6, v8, v9, v10, v11, v12, ds, rfl, s6, e6, sdd, dlen, dok⟩ := (hIv2 _ _ _).mp hinv
        rw [List.length_map] at dlen
        have s16 := s13.trans s6
        have hds6 : SeqOf DtAt H6 pd ds := sdd.seq DtAt.keep
        have hrs6 : RsAt H6 pr rs := hrs0.keep s6
        obtain ⟨rqs, rq1, rq2, rq3⟩ := id hrs6
        have dok2 : ∀ d ∈ ds, doorOk W (rs.map (·.1)) d = true := fun d hd => (dok d hd).1
        have mok : MachOk (MP W rs ds) := {
          w7 := by show W.length ≤ 7; omega
          wok := List.all_eq_true.mpr fun x hx => by show okWatch x = true; unfold okWatch; rw [wok x hx, Bool.or_true]
          wnd := wnd
          rok := List.all_eq_true.mpr fun r hr => by
            unfold roomOk
            have hn : r.1 ∈ (List.range kn).map nm61 := by rw [← rnm]; exact List.mem_map_of_mem hr
            rw [okName_okT (nok.2 _ hn), Bool.true_and]
            exact (rok r hr).1
          rnd := by show (rs.map (·.1)).Nodup; rw [rnm]; exact nok.1
          rne := fun e => by have e : rs = [] := e; rw [e] at rlen; simp at rlen; omega
          r64 := by show rs.length ≤ 64; omega
          dok := List.all_eq_true.mpr fun d hd => dok2 d hd
          d200 := by show ds.length ≤ 200; omega
          rsz := fun r hr => by have := (rok r hr).2.1; omega
          dsz := fun d hd => by have := (dok d hd).2.1; omega }
        have msz : MSz (MP W rs ds) := ⟨fun r hr => (rok r hr).2.2, fun d hd => (dok d hd).2.2⟩
        walk_at "rd"
        refine seq_step ?_
        walk_at "rd"
        intro pg H7 s7 f7 e7
        refine seq_step ?_
        refine for_rg ?_
        walk_at "rd"
        have s17 := s16.trans s7
        refine ⟨a, cs, 3, rfl, s17.seq hS, by decide, ?_⟩
        generalize hc3 : cs.getD (3 : Int).toNat 0 = c3
        walk_at "rd"
        have m3' := fm_pos (c := c3) (m := 3) (by decide)
        obtain ⟨gn, hgn⟩ : ∃ n : Nat, c3.fmod 3 = (n : Int) := ⟨(c3.fmod 3).toNat, by omega⟩
        rw [hgn]
        refine ⟨(rg_ok (by omega)).1, (rg_ok (by omega)).2, ?_⟩
        rw [Int.toNat_natCast]
        obtain ⟨Iv3, hIv3⟩ : ∃ Iv : Nat → L2.St → Hp → Prop, ∀ i σ' H', Iv i σ' H' ↔ (∃ v5 v6 v8 v9 v10 v11 v12, ∃ gs : List Rq, σ' = [some (.ref a), some (.ref pw), some (.int unit), some (.ref wl), some (.ref pr), v5, v6, some (.ref pd), v8, v9, v10, v11, v12, some (.ref pg), none] ∧ Same H6 H' ∧ SeqD RqAt H' pg gs ∧ gs.length = i ∧ ∀ g ∈ gs, g.1 ∈ rs.map (·.1) ∧ guardOk WORDS W g.2 = true ∧ g.2.length ≤ 2 ∧ SzL g.2) := ⟨_, fun _ _ _ => Iff.rfl⟩
        refine forR_by Iv3 ((hIv3 _ _ _).mpr ⟨_, _, _, _, _, _, _, [], rfl, s7, SeqD.nil e7, rfl, fun r h => by cases h⟩) ?_ ?_
        · rintro i σ' H8 hi hinv
          obtain ⟨v5, v6, v8, v9, v10, v11, v12, gs, rfl, s8, sdg, glen, gok⟩ := (hIv3 _ _ _).mp hinv
          have s18 := s16.trans s8
          walk_at "rd"
          refine seq_step ?_
          walk_at "rd"
          refine ⟨a, cs, 3, rfl, s18.seq hS, by decide, ?_⟩
          rw [hc3]
          walk_at "rd"
          refine ⟨Sz.mulW (a := 8) (b := 8) (by show (7 : Int).natAbs < 2 ^ 8; decide) (by show (i : Int).natAbs < 2 ^ 8; omega) (by decide), ?_⟩
          refine ⟨_, 6, rfl, by decide, fun px H9 xs s9 f9 e9 xl xok => ?_⟩
          have xat : ∀ j : Nat, j < 6 → ∃ v : Int, (xs.map V.int)[j]? = some (.int v) := fun j h => by
            have hj := List.getElem?_eq_getElem (l := xs) (i := j) (by omega)
            exact ⟨xs[j], by rw [List.getElem?_map, hj]; rfl⟩
          obtain ⟨x0, h0⟩ := xat 0 (by omega)
          obtain ⟨x1, h1⟩ := xat 1 (by omega)
          obtain ⟨_, w1, _⟩ := id sdg
          refine ⟨_, rfl, .inl ⟨rfl, _, .of (s9 _ _ w1)⟩, ?_⟩
          walk_at "rd"
          have s69 := s8.trans s9
          refine ix_l (.of e9) (by decide) h0 ?_
          walk_at "rd"
          refine ⟨_, .inl (.of (s69 _ _ rq1)), ?_⟩
          rw [List.length_map, rq2]
          refine ⟨by omega, ?_⟩
          have mr := fm_pos (c := x0) (m := (rs.length : Int)) (by omega)
          obtain ⟨qk, hqk⟩ : ∃ qk, rqs[(x0.fmod (rs.length : Int)).toNat]? = some qk := ⟨_, List.getElem?_eq_getElem (by omega)⟩
          obtain ⟨rk, hrk⟩ : ∃ rk, rs[(x0.fmod (rs.length : Int)).toNat]? = some rk := ⟨_, List.getElem?_eq_getElem (by omega)⟩
          obtain ⟨g1, t1, _⟩ := rq3 _ _ _ hqk hrk
          have hrkn : rk.1 ∈ rs.map (fun x : Rq => x.1) := List.mem_map_of_mem (List.mem_of_getElem? hrk)
          refine ix_l (.of (s69 _ _ rq1)) mr.1 (by rw [List.getElem?_map, hqk]; rfl) ?_
          refine ix_t (sqt (s69 _ _ t1)) (by decide) rfl ?_
          refine ⟨_, .of e9, fun p8 Ha sa fa ea => ?_⟩
          rw [show (some (2 : Int)) = some ((2 : Nat) : Int) from rfl, cut_from (by rw [List.length_map]; omega), ← List.map_drop] at ea
          refine ix_l (.of (sa _ _ e9)) (by decide) h1 ?_
          have mm3 := fm_pos (c := x1) (m := 2) (by decide)
          obtain ⟨mm, hmm⟩ : ∃ n : Nat, x1.fmod 2 = (n : Int) := ⟨(x1.fmod 2).toNat, by omega⟩
          refine ⟨_, rfl, ?_⟩
          rw [hmm]
          have s8a := s9.trans sa
          have s6a := s8.trans s8a
          refine ⟨p8, pw, wl, xs.drop 2, mm, W, WORDS, unit, rfl, ea, fun x hx => xok x (List.mem_of_mem_drop hx), by rw [List.length_drop]; omega, by omega, (s16.trans s6a) _ _ hw, wtx, by omega, (s6.trans s6a) _ _ (s3 _ _ e1), by decide, by decide, u1, u2, fun lq Hb ls sb fb hls l2 gk sz => ?_⟩
          intro t Hc sc fc ec
          have s8c := s8a.trans (sb.trans sc)
          have npg : t ≠ pg := fun y => by rw [y, (s8a.trans sb) _ _ w1] at fc; cases fc
          obtain ⟨items, it1, it2, it3⟩ := (sdg.keep RqAt.keep' s8c).app RqAt.keep' (q := t) (x := (rk.1, ls)) ⟨lq, del_at npg ec, LsAt.keep hls ((new_del (s8a _ _ w1)).trans (del_same sc))⟩
          refine app_at it1 (by omega) ?_
          refine (hIv3 _ _ _).mpr ⟨_, _, _, _, _, _, _, gs ++ [(rk.1, ls)], rfl, same_updN f7 (s8.trans s8c), it3, by rw [List.length_append, List.length_singleton]; omega, fun g hg => ?_⟩
          rcases List.mem_append.mp hg with h | h
          · exact gok g h
          · rw [show g = (rk.1, ls) by simpa using h]; exact ⟨hrkn, gk, l2, sz⟩
        · rintro σ' H8 hinv
          obtain ⟨v5, v6, v8, v9, v10, v11, v12, gs, rfl, s8, sdg, glen, gok⟩ := (hIv3 _ _ _).mp hinv
          walk_at "rd"
          intro q9 H9 s9 f9 e9
          have s69 := s8.trans s9
          refine q q9 pr pd pg H9 rs ds gs (s16.trans s69) e9 (hrs6.keep s69) (SeqOf.keep (fun _ _ => DtAt.keep _ _ _ _ s69) s69 hds6) ((show RsAt H8 pg gs from sdg.seq RqAt.keep').keep s9) mok msz (by omega) (by omega) (by omega) (List.all_eq_true.mpr fun g hg => ?_) (fun g hg => ⟨by have := (gok g hg).2.2.1; omega, (gok g hg).2.2.2⟩)
          unfold markOk
          rw [decide_eq_true (show g.1 ∈ (MP W rs ds).rooms.map (·.1) from (gok g hg).1)]
          exact (gok g hg).2.1
def spWait62 : Sp := fun vs H Q _ => ∃ (pl pd : Addr) (W : List Str) (ls : List Lq) (xs : List Rat) (x unit : Int) (B : Nat), vs = [.ref pl, .ref pd, .int x, .int unit] ∧ LsAt H pl ls ∧ ls.length ≤ 60 ∧ guardOk WORDS W ls = true ∧ SzL ls ∧ W.Nodup ∧ W.length ≤ 7 ∧ VDAt H pd W xs ∧ (∀ r ∈ xs, Six B r) ∧ 260 ≤ B ∧ B ≤ 1500 ∧ 0 ≤ x ∧ Sz 150 x ∧ 1 ≤ unit ∧ unit ≤ 10 ^ 12 ∧ ∀ (q : Addr) (H' : Hp) (r : Rat), Same H H' → FrR H' q r → Six (B + 8) r → 0 ≤ r → Q (.ref q) H'
theorem ok_l_wait_for (T : Top K mg) : FnOk P w K mg base CX0 2 T.f_l_wait_for T.d_l_wait_for ["_law_guard", "_law_values", "_law_x", "_law_unit"] spWait62 := by
  refine T.F_l_wait_for.ok sc_l_wait_for (fun vs H Q E h => ?_) (fun cdv A outer s H vs Q E hr h => ?_)
  · obtain ⟨pl, pd, W, ls, xs, x, unit, B, rfl, _⟩ := h; rfl
  · obtain ⟨pl, pd, W, ls, xs, x0, unit, B, rfl, ⟨lq, l1, l2, l3⟩, l60, gk, sz, wnd, w7, hv, x6s, B1, B2, xn, xz, u1, u2, q⟩ := h
    refine ⟨_, (pss_cons (ps_set (i := 4) sc_l_wait_for.nd rfl (.inl rfl) (pe_tupN (pa_cons pe_int (pa_cons pe_int pa_nil))))
      (pss_cons (ps_for PassesOwn.never rfl (pi_listA (K := K) rfl (pv 0)) (pg_tupA (K := K) (n := 3) rfl (by rfl) (pgs_cons (pg_name (i := 5) sc_l_wait_for.nd rfl (.inl rfl)) (pgs_cons (pg_name (i := 6) sc_l_wait_for.nd rfl (.inl rfl)) (pgs_cons (pg_name (i := 7) sc_l_wait_for.nd rfl (.inl rfl)) pgs_nil)))) (pss_cons (ps_asg (pe_dget (hu_of hr) (pv 1) (pv 5) (fun _ _ => rfl)) (pg_tupA (K := K) (n := 2) rfl (by rfl) (pgs_cons (pg_name (i := 8) sc_l_wait_for.nd rfl (.inl rfl)) (pgs_cons (pg_name (i := 9) sc_l_wait_for.nd rfl (.inl rfl)) pgs_nil))))
      (pss_cons (ps_set (i := 10) sc_l_wait_for.nd rfl (.inl rfl) (pe_op op_sub (pe_op op_mulW (pv 7) (pv 9)) (pv 8)))
      (pss_one (ps_if (PW.pt (pw_and (pt_cmpR (op_notIn_seqA (K := K) rfl) (pv 6) (pe_tupN (pa_cons pe_str (pa_cons pe_str pa_nil))) (by rfl)) (pw_and1 (pt_cmpR op_gt (pe_op op_mulW (pv 10) (pe_ix (ix_tupA (K := K) rfl) (pv 4) pe_int (fun _ _ => rfl))) (pe_op op_mulW (pe_ix (ix_tupA (K := K) rfl) (pv 4) pe_int (fun _ _ => rfl)) (pv 9)) (nomark _))))) (pss_one (ps_set (i := 4) sc_l_wait_for.nd rfl (.inl rfl) (pe_tupN (pa_cons (pv 10) (pa_cons (pv 9) pa_nil))))) pss_nil)))))
      (pss_cons (ps_set (i := 11) sc_l_wait_for.nd rfl (.inl rfl) (pe_ix (ix_listA (K := K) rfl) (pe_lstN (pa_cons (pe_tupN (pa_cons pe_int (pa_cons pe_int pa_nil))) (pa_cons (pe_tupN (pa_cons pe_int (pa_cons pe_int pa_nil))) (pa_cons (pe_tupN (pa_cons (pe_op op_modN (pe_op op_fdivZ (pv 2) pe_int) (pe_op op_mulW pe_int (pv 3))) (pa_cons (pe_op op_add pe_int (pe_op op_modN (pe_op op_fdivZ (pv 2) pe_int) pe_int)) pa_nil))) pa_nil)))) (pe_op op_modN (pv 2) pe_int) (fun _ _ => rfl)))
      (pss_one (ps_ret (pe_call (ok_l_lowest T) (hr.mono (by decide)) rfl T.g_l_lowest T.F_l_lowest.kp T.b_l_lowest .nil pass0 (pa_cons (pe_op op_add (pe_op op_mulW (pe_ix (ix_tupA (K := K) rfl) (pv 4) pe_int (fun _ _ => rfl)) (pe_ix (ix_tupA (K := K) rfl) (pv 11) pe_int (fun _ _ => rfl))) (pe_op op_mulW (pe_ix (ix_tupA (K := K) rfl) (pv 11) pe_int (fun _ _ => rfl)) (pe_ix (ix_tupA (K := K) rfl) (pv 4) pe_int (fun _ _ => rfl)))) (pa_cons (pe_op op_mulW (pe_ix (ix_tupA (K := K) rfl) (pv 4) pe_int (fun _ _ => rfl)) (pe_ix (ix_tupA (K := K) rfl) (pv 11) pe_int (fun _ _ => rfl))) pa_nil)))))))), ?_⟩
    have xl : xs.length = W.length := by obtain ⟨_, _, b, _⟩ := hv; exact b
    refine seq_step ?_
    walk_at "rd"
    intro pn H1 s1 f1 e1
    refine seq_step ?_
    refine for_li ?_
    walk_at "rd"
    obtain ⟨Iv, hIv⟩ : ∃ Iv : Nat → L2.St → Hp → Prop, ∀ i σ' H', Iv i σ' H' ↔ (∃ pn v5 v6 v7 v8 v9 v10, ∃ x : Int × Int, σ' = [some (.ref pl), some (.ref pd), some (.int x0), some (.int unit), some (.ref pn), v5, v6, v7, v8, v9, v10, none] ∧ Same H H' ∧ H' pn = some (.tup [.int x.1, .int x.2]) ∧ S6 (B + 1) x ∧ 0 ≤ x.1) := ⟨_, fun _ _ _ => Iff.rfl⟩
    refine forL_by (xs := lq.map V.ref) Iv ((hIv _ _ _).mpr ⟨_, _, _, _, _, _, _, (0, 1), rfl, s1, e1, ⟨by decide, ⟨6, rfl⟩, (show Sz 1 0 by unfold Sz; decide).mono (by omega)⟩, by decide⟩) (fun i σ H' _ h => (fun (⟨_, _, _, _, _, _, _, _, _, k, _⟩ : ∃ _ _ _ _ _ _ _, ∃ _ : Int × Int, _ ∧ Same _ _ ∧ _) => .of (k _ _ l1)) ((hIv _ _ _).mp h)) ?_ ?_
    · rintro i x σ' H' hi hinv
      obtain ⟨pn, v5, v6, v7, v8, v9, v10, x, rfl, s', en, x6, x1⟩ := (hIv _ _ _).mp hinv
      rw [List.getElem?_map] at hi
      obtain ⟨qi, h1, rfl⟩ := Option.map_eq_some_iff.mp hi
      have hil := (List.getElem?_eq_some_iff.mp h1).1
      obtain ⟨z, hz⟩ : ∃ z, ls[i]? = some z := ⟨_, List.getElem?_eq_getElem (by omega)⟩
      have hzm := List.mem_of_getElem? hz
      obtain ⟨ez, _⟩ := l3 i qi z h1 hz
      obtain ⟨kw, kwd, n, kn, n0⟩ := look_parts (List.all_eq_true.mp gk z hzm)
      have nsz := sz z hzm
      have il := List.idxOf_lt_length_iff.mpr kw
      obtain ⟨r, hr0⟩ : ∃ r, xs[W.idxOf z.1]? = some r := ⟨_, List.getElem?_eq_getElem (by omega)⟩
      have r6 := (x6s r (List.mem_of_getElem? hr0)).s6
      obtain ⟨za, zb, zc⟩ := z
      obtain rfl : zc = .int n := kn
      have nsz : Sz 250 n := nsz
      refine gTup_of (sqt (s' _ _ ez)) rfl ?_
      walk_at "rd"
      refine seq_step ?_
      walk_at "rd"
      obtain ⟨a0, hg, ea⟩ := (hv.keep s').at wnd kw hr0
      refine ⟨_, hg, ?_⟩
      refine gTup_of (sqt ea) rfl ?_
      walk_at "rd"
      refine seq_step ?_
      walk_at "rd"
      refine ⟨nsz.mulW (b := 3) r6.u (by decide), ?_⟩
      have l6 : S6 (B + 1) (n * (r.den : Int) - r.num, (r.den : Int)) := ⟨r6.1, r6.2.1, Sz.sub (a := 253) (b := B) (nsz.mul r6.u (by decide)) r6.2.2 (by omega) (by omega)⟩
      generalize n * (r.den : Int) - r.num = tp at *
      generalize (r.den : Int) = bt at *
      intro p6 H4 s4 f4 e4
      refine ⟨p6, _, rfl, .inr (.of e4), rfl, rfl, ?_⟩
      have keep : ∀ {J : Hp}, Same H' J → ∀ {v5 v6 v7 v8 v9 v10}, Iv (i + 1) [some (.ref pl), some (.ref pd), some (.int x0), some (.int unit), some (.ref pn), v5, v6, v7, v8, v9, v10, none] J := fun {J} s {v5 v6 v7 v8 v9 v10} => (hIv _ _ _).mpr ⟨_, _, _, _, _, _, _, x, rfl, s'.trans s, s _ _ en, x6, x1⟩
      refine ⟨_, rfl, ?_⟩
      refine ite_b (fun _ => ?_) (fun _ => keep s4)
      refine ix_t (sqt (s4 _ _ en)) (by decide) rfl ?_
      walk_at "rd"
      refine ⟨(l6.2.2.mono (show B + 1 ≤ 2000 by omega)).mulW (x6.u) (by decide), ?_⟩
      refine ix_t (sqt (s4 _ _ en)) (by decide) rfl ?_
      walk_at "rd"
      refine ⟨(x6.2.2.mono (show B + 1 ≤ 2000 by omega)).mulW (l6.u) (by decide), ?_⟩
      refine ite_d (fun c => ?_) (fun _ => keep s4)
      walk_at "rd"
      intro p7 H5 s5 f5 e5
      refine (hIv _ _ _).mpr ⟨_, _, _, _, _, _, _, (tp, bt), rfl, s'.trans (s4.trans s5), e5, l6, ?_⟩
      have h1 : 0 ≤ x.1 * bt := Int.mul_nonneg x1 (by have := l6.1; omega)
      have h2 : 0 < tp * x.2 := by omega
      have := Int.pos_of_mul_pos_left h2 x6.1
      show 0 ≤ tp
      omega
    · rintro σ' H' hinv
      obtain ⟨pn, v5, v6, v7, v8, v9, v10, x, rfl, s', en, x6, x1⟩ := (hIv _ _ _).mp hinv
      refine seq_step ?_
      walk_at "rd"
      refine seq_step ?_
      walk_at "rd"
      intro p1 H2 s2 f2 e2 p2 H3 s3 f3 e3
      refine ⟨Sz.mulW (a := 8) (b := 50) (by unfold Sz; decide) (by unfold Sz; omega) (by decide), by omega, ?_⟩
      intro p3 H4 s4 f4 e4 p4 H5 s5 f5 e5
      have m3 := fm_pos (c := x0) (m := 3) (by decide)
      have mu := fm_pos (c := x0.fdiv 3) (m := 3 * unit) (by omega)
      have m7 := fm_pos (c := x0.fdiv 7) (m := 3) (by decide)
      obtain ⟨pm, m, hpm, em, m6, mn⟩ : ∃ (pm : Addr) (m : Int × Int), ([V.ref p1, V.ref p2, V.ref p3] : List V)[(x0.fmod 3).toNat]? = some (.ref pm) ∧ H5 pm = some (.tup [.int m.1, .int m.2]) ∧ S6 60 m ∧ 0 ≤ m.1 := by
        have h0 : Sz 60 0 := (show Sz 0 0 by unfold Sz; decide).mono (by decide)
        obtain h | h | h : x0.fmod 3 = 0 ∨ x0.fmod 3 = 1 ∨ x0.fmod 3 = 2 := by omega
        · exact ⟨p1, (0, 1), by rw [h]; rfl, (s3.trans (s4.trans s5)) _ _ e2, ⟨by decide, ⟨6, rfl⟩, h0⟩, by decide⟩
        · exact ⟨p2, (1, 2), by rw [h]; rfl, (s4.trans s5) _ _ e3, ⟨by decide, ⟨3, rfl⟩, by show Sz 60 1; unfold Sz; decide⟩, by decide⟩
        · refine ⟨p3, ((x0.fdiv 3).fmod (3 * unit), 1 + (x0.fdiv 7).fmod 3), by rw [h]; rfl, s5 _ _ e4, ⟨by show 0 < 1 + (x0.fdiv 7).fmod 3; omega, ?_, ?_⟩, mu.1⟩
          · show 1 + (x0.fdiv 7).fmod 3 ∣ 6
            obtain h | h | h : (x0.fdiv 7).fmod 3 = 0 ∨ (x0.fdiv 7).fmod 3 = 1 ∨ (x0.fdiv 7).fmod 3 = 2 := by omega
            · rw [h]; exact ⟨6, rfl⟩
            · rw [h]; exact ⟨3, rfl⟩
            · rw [h]; exact ⟨2, rfl⟩
          · show Sz 60 _
            unfold Sz; omega
      have en5 := (s2.trans (s3.trans (s4.trans s5))) _ _ en
      have sx : Sz 2000 x.1 := x6.2.2.mono (by omega)
      have sm : Sz 2000 m.1 := m6.2.2.mono (by omega)
      refine ix_l (.of e5) m3.1 hpm ?_
      refine ix_t (sqt en5) (by decide) rfl ?_
      refine ix_t (sqt em) (by decide) rfl ?_
      refine ⟨_, rfl, _, rfl, sx.mulW m6.u (by decide), ?_⟩
      refine ix_t (sqt em) (by decide) rfl ?_
      refine ix_t (sqt en5) (by decide) rfl ?_
      refine ⟨_, rfl, _, rfl, sm.mulW x6.u (by decide), ?_⟩
      refine ix_t (sqt en5) (by decide) rfl ?_
      refine ix_t (sqt em) (by decide) rfl ?_
      refine ⟨_, rfl, _, rfl, x6.u.mulW m6.u (by decide), ?_⟩
      have hb : 0 < x.2 * m.2 := Int.mul_pos x6.1 m6.1
      have sb : Sz 6 (x.2 * m.2) := x6.u.mul m6.u (by decide)
      refine ⟨_, _, rfl, by omega, sb.mono (by decide), fun t' u' p Ha L sa ep => ?_⟩
      have R := red_rat hb (L.red hb)
      rw [rq_sum (x := x) (y := m) x6.1 m6.1] at R
      refine q p Ha (rq x + rq m) (s'.trans (s2.trans (s3.trans (s4.trans (s5.trans sa))))) (by unfold FrR; rw [R.1, R.2]; exact ep) ((six_sum x6 (m6.mono (by omega))).mono (by omega)) ?_
      have h1 := (rq_nn x6.1).mpr x1
      have h2 := (rq_nn m6.1).mpr mn
      grind
abbrev dtKeep : ∀ (H H' : Hp) (q : Addr) (x : DoorD), Same H H' → DtAt H q x → DtAt H' q x := DtAt.keep
/-- a door that may be taken in a room, or none -/
structure TakeOk (M : MachD) (r : Rq) (d : DoorD) : Prop where
  en : ∃ r2 ∈ M.rooms, r2.1 = d.en
  gk : guardOk WORDS M.watches d.looks = true
  sz : SzL d.looks
  l60 : d.looks.length ≤ 60
  bk : ∀ b ∈ d.backs, b ∈ M.watches
  b7 : d.backs.length ≤ 7
  how : (d ∈ M.doors ∧ d.st = r.1 ∧ d.sg = "") ∨ (d.en = r.1 ∧ d.backs = [])
def spSteps62 : Sp := fun vs H Q _ => ∃ (pr pdo pc pw : Addr) (vg : V) (M : MachD) (cells : List Int) (unit : Int), vs = [.ref pr, .ref pdo, vg, .ref pc, .ref pw, .int unit] ∧ RsAt H pr M.rooms ∧ SeqOf DtAt H pdo M.doors ∧ H pc = some (.lst (cells.map V.int)) ∧ cells.length ≤ 12 ∧ H pw = some (.lst (M.watches.map V.str)) ∧ MachOk M ∧ MSz M ∧ M.rooms.length ≤ 60 ∧ M.doors.length ≤ 60 ∧ (∀ r ∈ M.rooms, r.2.length ≤ 60) ∧ (∀ d ∈ M.doors, d.looks.length ≤ 60) ∧ 1 ≤ unit ∧ unit ≤ 10 ^ 12 ∧
  ∀ (q : Addr) (H' : Hp) (sds : List Sd), Same H H' → SeqOf (SvAt M.watches) H' q sds → sds.length ≤ 40 → (∀ s ∈ sds, StoodOk M s) → Q (.ref q) H'
theorem ok_l_steps (T : Top K mg) : FnOk P w K mg base CX0 3 T.f_l_steps T.d_l_steps ["_law_rooms", "_law_doors", "_law_goal", "_law_cells", "_law_watches", "_law_unit"] spSteps62 := by
  refine T.F_l_steps.ok sc_l_steps (fun vs H Q E h => ?_) (fun cdv A outer s H vs Q E hr h => ?_)
  · obtain ⟨pr, pdo, pc, pw, vg, M, cells, unit, rfl, _⟩ := h; rfl
  · obtain ⟨pr, pdo, pc, pw, vg, M, cells, unit, rfl, hrs, hds, hc, c12, hw, ok, msz, r60, d60, rl60, dl60, u1, u2, q⟩ := h
    refine ⟨_, (pss_cons (ps_set (i := 6) sc_l_steps.nd rfl (.inr rfl) (pe_ix (ix_tupA (K := K) rfl) (pe_ix (ix_listA (K := K) rfl) (pv 0) pe_int (fun _ _ => rfl)) pe_int (fun _ _ => rfl)))
      (pss_cons (ps_set (i := 7) sc_l_steps.nd rfl (.inl rfl) pe_dnewN)
      (pss_cons (ps_for PassesOwn.never rfl (pi_listA (K := K) rfl (pv 4)) (pg_name (i := 8) sc_l_steps.nd rfl (.inl rfl)) (pss_one (ps_dput (hu_of hr) (pv 7) (pv 8) (pe_tupN (pa_cons pe_int (pa_cons pe_int pa_nil))) rfl)))
      (pss_cons (ps_set (i := 9) sc_l_steps.nd rfl (.inl rfl) (pe_lstN (pa_cons (pe_tupN (pa_cons (pv 6) (pa_cons (pv 7) pa_nil))) pa_nil)))
      (pss_cons (ps_if (pt_not (pt_val (pe_call (ok_l_meets T) (hr.mono (by decide)) rfl T.g_l_meets T.F_l_meets.kp T.b_l_meets .nil pass0 (pa_cons (pe_ix (ix_tupA (K := K) rfl) (pe_ix (ix_listA (K := K) rfl) (pv 0) pe_int (fun _ _ => rfl)) pe_int (fun _ _ => rfl)) (pa_cons (pv 7) pa_nil))))) (pss_one (ps_ret (pe_lstN pa_nil))) pss_nil)
      (pss_cons (ps_for PassesOwn.never rfl (pi_listA (K := K) rfl (pv 3)) (pg_name (i := 10) sc_l_steps.nd rfl (.inl rfl)) (pss_cons (ps_set (i := 11) sc_l_steps.nd rfl (.inl rfl) (pe_call (ok_l_stream T) (hr.mono (by decide)) rfl T.g_l_stream T.F_l_stream.kp T.b_l_stream .nil pass0 (pa_cons (pv 10) (pa_cons pe_int pa_nil))))
      (pss_cons (lc_vsS (vs := [12]) (ps_setLc (i := 13) (own := [("_law_door", 12)]) (g := gName 12) rfl sc_l_steps.nd rfl rfl (sw_true rfl rfl rfl (by decide +kernel)) (pi_listA (K := K) rfl (pv 1)) (blkOk_by (own := [("_law_door", 12)]) (N := ["_law_rooms", "_law_doors", "_law_goal", "_law_cells", "_law_watches", "_law_unit", "_law_room", "_law_values", "_law_watch", "_law_found", "_law_cell", "_law_xs", "_law_door", "_law_here", "_law_wait", "_law_later_here", "_law_behind"]) (sc := defScope s_l_steps) (by decide +kernel)) (fun _ _ _ _ _ => (pg_name (i := 12) sc_l_steps.nd rfl (.inl rfl))) (fun _ _ _ _ _ => pts_one (PW.pt (pw_and (pt_cmpR op_eq (pe_ix (ix_tupA (K := K) rfl) (pv 12) pe_int (fun _ _ => rfl)) (pv 6) (nomark _)) (pw_and1 (pt_cmpR op_eq (pe_ix (ix_tupA (K := K) rfl) (pv 12) pe_int (fun _ _ => rfl)) pe_str (nomark _)))))) (fun _ _ _ _ _ => (pv 12))) rfl)
      (pss_cons (ps_set (i := 12) sc_l_steps.nd rfl (.inl rfl) (pe_tupN (pa_cons (pv 6) (pa_cons (pv 6) (pa_cons (pe_lstN pa_nil) (pa_cons (pe_lstN pa_nil) (pa_cons pe_str pa_nil)))))))
      (pss_cons (ps_if (pt_cmpR (op_neNil (Nat.lt_of_succ_lt (hu_of hr))) (pv 13) (pe_lstN pa_nil) (nomark _)) (pss_one (ps_set (i := 12) sc_l_steps.nd rfl (.inl rfl) (pe_ix (ix_listA (K := K) rfl) (pv 13) (pe_op op_modN (pe_ix (ix_listA (K := K) rfl) (pv 11) pe_int (fun _ _ => rfl)) (pe_callB call_len_seq (by rfl) T.m_len (by decide +kernel) (pa_cons (pv 13) pa_nil))) (fun _ _ => rfl)))) pss_nil)
      (pss_cons (ps_set (i := 14) sc_l_steps.nd rfl (.inl rfl) (pe_call (ok_l_wait_for T) (hr.mono (by decide)) rfl T.g_l_wait_for T.F_l_wait_for.kp T.b_l_wait_for .nil pass0 (pa_cons (pe_ix (ix_tupA (K := K) rfl) (pv 12) pe_int (fun _ _ => rfl)) (pa_cons (pv 7) (pa_cons (pe_ix (ix_listA (K := K) rfl) (pv 11) pe_int (fun _ _ => rfl)) (pa_cons (pv 5) pa_nil))))))
      (pss_cons (ps_set (i := 15) sc_l_steps.nd rfl (.inl rfl) (pe_call (ok_l_later T) (hr.mono (by decide)) rfl T.g_l_later T.F_l_later.kp T.b_l_later .nil pass0 (pa_cons (pv 7) (pa_cons (pv 14) pa_nil))))
      (pss_cons (ps_if (pt_not (pt_val (pe_call (ok_l_meets T) (hr.mono (by decide)) rfl T.g_l_meets T.F_l_meets.kp T.b_l_meets .nil pass0 (pa_cons (pe_call (ok_l_stay T) (hr.mono (by decide)) rfl T.g_l_stay T.F_l_stay.kp T.b_l_stay .nil pass0 (pa_cons (pv 0) (pa_cons (pv 6) pa_nil))) (pa_cons (pv 15) pa_nil))))) (pss_cons (ps_set (i := 15) sc_l_steps.nd rfl (.inl rfl) (pv 7))
      (pss_one (ps_set (i := 14) sc_l_steps.nd rfl (.inl rfl) (pe_tupN (pa_cons pe_int (pa_cons pe_int pa_nil)))))) pss_nil)
      (pss_cons (ps_expr (pe_bm PySem.F.plainAttrs_list PySem.F.slot_list_append PySem.F.type_list_append mt_append (pv 9) (pa_cons (pe_tupN (pa_cons (pv 6) (pa_cons (pe_call (ok_l_later T) (hr.mono (by decide)) rfl T.g_l_later T.F_l_later.kp T.b_l_later .nil pass0 (pa_cons (pv 7) (pa_cons (pe_tupN (pa_cons (pe_ix (ix_tupA (K := K) rfl) (pv 14) pe_int (fun _ _ => rfl)) (pa_cons (pe_op op_mulW pe_int (pe_ix (ix_tupA (K := K) rfl) (pv 14) pe_int (fun _ _ => rfl))) pa_nil))) pa_nil))) pa_nil))) pa_nil)))
      (pss_cons (ps_expr (pe_bm PySem.F.plainAttrs_list PySem.F.slot_list_append PySem.F.type_list_append mt_append (pv 9) (pa_cons (pe_tupN (pa_cons (pv 6) (pa_cons (pv 15) pa_nil))) pa_nil)))
      (pss_cons (ps_set (i := 7) sc_l_steps.nd rfl (.inl rfl) (pe_callTy call_dictN (by rfl) T.m_dict (by decide +kernel) (pa_cons (pv 15) pa_nil)))
      (pss_cons (ps_set (i := 16) sc_l_steps.nd rfl (.inl rfl) (pe_callTy call_dictN (by rfl) T.m_dict (by decide +kernel) (pa_cons (pv 15) pa_nil)))
      (pss_cons (ps_for PassesOwn.never rfl (pi_listA (K := K) rfl (pe_ix (ix_tupA (K := K) rfl) (pv 12) pe_int (fun _ _ => rfl))) (pg_name (i := 8) sc_l_steps.nd rfl (.inl rfl)) (pss_one (ps_dput (hu_of hr) (pv 16) (pv 8) (pe_tupN (pa_cons pe_int (pa_cons pe_int pa_nil))) rfl)))
      (pss_one (ps_if (PW.pt (pw_and (pt_val (pe_call (ok_l_meets T) (hr.mono (by decide)) rfl T.g_l_meets T.F_l_meets.kp T.b_l_meets .nil pass0 (pa_cons (pe_ix (ix_tupA (K := K) rfl) (pv 12) pe_int (fun _ _ => rfl)) (pa_cons (pv 15) pa_nil)))) (pw_and1 (pt_val (pe_call (ok_l_meets T) (hr.mono (by decide)) rfl T.g_l_meets T.F_l_meets.kp T.b_l_meets .nil pass0 (pa_cons (pe_call (ok_l_stay T) (hr.mono (by decide)) rfl T.g_l_stay T.F_l_stay.kp T.b_l_stay .nil pass0 (pa_cons (pv 0) (pa_cons (pe_ix (ix_tupA (K := K) rfl) (pv 12) pe_int (fun _ _ => rfl)) pa_nil))) (pa_cons (pv 16) pa_nil))))))) (pss_cons (ps_set (i := 6) sc_l_steps.nd rfl (.inr rfl) (pe_ix (ix_tupA (K := K) rfl) (pv 12) pe_int (fun _ _ => rfl)))
      (pss_cons (ps_set (i := 7) sc_l_steps.nd rfl (.inl rfl) (pv 16))
      (pss_one (ps_expr (pe_bm PySem.F.plainAttrs_list PySem.F.slot_list_append PySem.F.type_list_append mt_append (pv 9) (pa_cons (pe_tupN (pa_cons (pv 6) (pa_cons (pv 7) pa_nil))) pa_nil)))))) pss_nil)))))))))))))))
      (pss_one (ps_ret (pv 9))))))))), ?_⟩
    have w7 := ok.w7
    obtain ⟨rqs, r1, r2, r3⟩ := id hrs
    have rpos : 0 < M.rooms.length := List.length_pos_iff.mpr ok.rne
    obtain ⟨q0, hq0⟩ : ∃ q0, rqs[0]? = some q0 := ⟨_, List.getElem?_eq_getElem (by omega)⟩
    obtain ⟨r0, hr0⟩ : ∃ r0, M.rooms[0]? = some r0 := ⟨_, List.getElem?_eq_getElem rpos⟩
    obtain ⟨g0, e0, hg0⟩ := r3 0 q0 r0 hq0 hr0
    have hr0m := List.mem_of_getElem? hr0
    refine seq_step ?_
    walk_at "rd"
    refine ix_l (.of r1) (by decide) (by show (rqs.map V.ref)[0]? = _; rw [List.getElem?_map, hq0]; rfl) ?_
    refine ix_t (sqt e0) (by decide) rfl ?_
    refine seq_step ?_
    walk_at "rd"
    intro pv H1 s1 f1 e1
    refine seq_step ?_
    refine for_li ?_
    walk_at "rd"
    obtain ⟨Iz, hIz⟩ : ∃ Iv : Nat → L2.St → Hp → Prop, ∀ i σ' H', Iv i σ' H' ↔ (∃ v8, ∃ bs : List Addr, σ' = [some (.ref pr), some (.ref pdo), some vg, some (.ref pc), some (.ref pw), some (.int unit), some (.str r0.1), some (.ref pv), v8, none, none, none, none, none, none, none, none] ∧ Same H H' ∧ bs.length = i ∧ H' pv = some (.dK (kvz (M.watches.take i) bs)) ∧ ∀ a ∈ bs, FrR H' a 0) := ⟨_, fun _ _ _ => Iff.rfl⟩
    refine forL_by (xs := M.watches.map V.str) Iz ((hIz _ _ _).mpr ⟨_, [], rfl, s1, rfl, e1, fun a h => by cases h⟩) (fun i σ H' _ h => (fun (⟨_, _, _, k, _⟩ : ∃ _, ∃ _ : List Addr, _ ∧ Same _ _ ∧ _) => .of (k _ _ hw)) ((hIz _ _ _).mp h)) ?_ ?_
    · rintro i x σ' H2 hi hinv
      obtain ⟨v8, bs, rfl, s2, bl, e2, fb⟩ := (hIz _ _ _).mp hinv
      rw [List.getElem?_map] at hi
      obtain ⟨wn, hwn, rfl⟩ := Option.map_eq_some_iff.mp hi
      have hil := (List.getElem?_eq_some_iff.mp hwn).1
      walk_at "rd"
      intro p H3 s3 f3 e3
      have tl : (M.watches.take i).length = bs.length := by rw [List.length_take, bl]; omega
      have e23 := s3 _ _ e2
      refine ⟨_, DPut.k (k := .inr wn) e23 (small1000 (by rw [kvz_len tl, List.length_take]; omega)), ?_⟩
      rw [putK_new _ (kvz_no (not_take ok.wnd hwn)), ← kvz_snoc tl, ← take_snocP hwn]
      refine (hIz _ _ _).mpr ⟨_, bs ++ [p], rfl, same_updN f1 (s2.trans s3), by rw [List.length_append, bl]; rfl, upd_same, fun a ha => ?_⟩
      have k : FrR H3 a 0 := by
        rcases List.mem_append.mp ha with h | h
        · exact s3 _ _ (fb a h)
        · rw [show a = p by simpa using h]; exact e3
      show (upd H3 pv _) a = _
      rw [upd_ne (ne_of k e23 (by intro z; cases z))]; exact k
    rintro σ' H2 hinv
    obtain ⟨v8, bs, rfl, s2, bl, e2, fb⟩ := (hIz _ _ _).mp hinv
    rw [List.length_map] at bl e2
    rw [List.take_length] at e2
    obtain ⟨zs, hzs⟩ : ∃ zs, zs = M.watches.map fun _ => (0 : Rat) := ⟨_, rfl⟩
    have zl : zs.length = M.watches.length := by rw [hzs, List.length_map]
    have z0 : ∀ x ∈ zs, x = 0 := fun x hx => by
      rw [hzs] at hx
      obtain ⟨_, _, rfl⟩ := List.mem_map.mp hx; rfl
    have hv2 : VDAt H2 pv M.watches zs := ⟨bs, bl.symm, zl, e2, fun i a r h1 h2 => by
      rw [z0 r (List.mem_of_getElem? h2)]; exact fb a (List.mem_of_getElem? h1)⟩
    walk_at "rd"
    refine seq_step ?_
    walk_at "rd"
    intro pt H3 s3 f3 e3 pf H4 s4 f4 e4
    have s24 := s3.trans s4
    have s04 := s2.trans s24
    refine seq_step ?_
    walk_at "rd"
    refine ix_l (.of (s04 _ _ r1)) (by decide) (by show (rqs.map V.ref)[0]? = _; rw [List.getElem?_map, hq0]; rfl) ?_
    refine ix_t (sqt (s04 _ _ e0)) (by decide) rfl ?_
    have zsz : ∀ {B : Nat}, 1 ≤ B → SzV B zs := fun {B} hB => by
      intro r hr
      rw [z0 r hr]
      exact ⟨(show Sz 1 0 by unfold Sz; decide).mono hB, (show Sz 1 1 by unfold Sz; decide).mono hB⟩
    refine ⟨g0, pv, M.watches, r0.2, zs, rfl, hg0.keep s04, rl60 r0 hr0m, room_guard ok hr0m, msz.1 r0 hr0m, ok.wnd, w7, hv2.keep s24, zsz (by decide), fun b H5 s5 hb => ?_⟩
    refine ⟨_, rfl, ?_⟩
    cases b with
    | false =>
      refine if_t rfl ?_
      intro pq H6 s6 f6 e6
      exact q pq H6 [] (s04.trans (s5.trans s6)) ⟨[], e6, rfl, fun i q x h => by cases h⟩ (Nat.zero_le _) (fun s h => by cases h)
    | true =>
    refine if_f rfl ?_
    have m0 : meetG M r0.2 (vOf zs) := hb.mp rfl
    refine seq_step ?_
    refine for_li ?_
    walk_at "rd"
    obtain ⟨Good, hGood⟩ : ∃ Good : Rq → List Rat → Prop, ∀ r xs, Good r xs ↔ (r ∈ M.rooms ∧ xs.length = M.watches.length ∧ (∀ x ∈ xs, 0 ≤ x) ∧ meetG M r.2 (vOf xs) ∧ ∀ gs, AllIn M gs r.1 xs) := ⟨_, fun _ _ => Iff.rfl⟩
    have good0 : Good r0 zs := (hGood _ _).mpr ⟨hr0m, zl, fun x hx => by rw [z0 x hx]; exact Rat.le_refl, m0, fun gs => by
      rw [hzs] at m0 ⊢
      refine allin_start ok hr0m ?_ m0
      unfold room0
      rw [List.headD_eq_head?_getD, List.head?_eq_getElem?, hr0]; rfl⟩
    have stood : ∀ {r : Rq} {xs : List Rat} {B : Nat}, Good r xs → (∀ x ∈ xs, Six B x) → 3 ≤ B → B ≤ 2000 → StoodOk M (r.1, xs) := fun {r xs B} g h6 b3 b2 => by
      obtain ⟨g1, g2, g3, g4, g5⟩ := (hGood _ _).mp g
      exact ⟨⟨r, g1, rfl⟩, g2, g3, fun x hx => ((h6 x hx).sz b3).imp (fun h => h.mono b2) (fun h => h.mono b2), g5⟩
    obtain ⟨Iv, hIv⟩ : ∃ Iv : Nat → L2.St → Hp → Prop, ∀ i σ' H', Iv i σ' H' ↔ (∃ pv v8 v10 v11 v12 v13 v14 v15 v16, ∃ (r : Rq) (xs : List Rat) (sds : List Sd), σ' = [some (.ref pr), some (.ref pdo), some vg, some (.ref pc), some (.ref pw), some (.int unit), some (.str r.1), some (.ref pv), v8, some (.ref pf), v10, v11, v12, v13, v14, v15, v16] ∧ Same H H' ∧ SeqD (SvAt M.watches) H' pf sds ∧ VDAt H' pv M.watches xs ∧ Good r xs ∧ (∀ x ∈ xs, Six (280 + 20 * i) x) ∧ sds.length ≤ 3 * i + 1 ∧ ∀ s ∈ sds, StoodOk M s) := ⟨_, fun _ _ _ => Iff.rfl⟩
    have f4' : H pf = none := (s2.trans s3).free f4
    have z6 : ∀ x ∈ zs, Six (280 + 20 * 0) x := fun x hx => by rw [z0 x hx]; exact six_zero
    have sd0 : SeqD (SvAt M.watches) H4 pf [(r0.1, zs)] := ⟨[pt], e4, rfl, fun i q x h1 h2 => by
      cases i with
      | zero =>
        cases h1; cases h2
        exact ⟨pv, del_at (ne_of (s4 _ _ e3) e4 (by intro z; cases z)) (s4 _ _ e3), VDAt.del (hv2.keep s24) e4⟩
      | succ i => simp at h1⟩
    refine forL_by (xs := cells.map V.int) Iv ((hIv _ _ _).mpr ⟨pv, _, _, _, _, _, _, _, _, r0, zs, [(r0.1, zs)], rfl, s04.trans s5, sd0.keep SvAt.keep s5, hv2.keep (s24.trans s5), good0, z6, by simp, fun s hs => by
      cases List.mem_singleton.mp hs; exact stood good0 z6 (by decide) (by decide)⟩) (fun i σ H' _ h => (fun (⟨_, _, _, _, _, _, _, _, _, _, _, _, _, k, _⟩ : ∃ _ _ _ _ _ _ _ _ _, ∃ (_ : Rq) (_ : List Rat) (_ : List Sd), _ ∧ Same _ _ ∧ _) => .of (k _ _ hc)) ((hIv _ _ _).mp h)) ?_ ?_
    rotate_left
    · rintro σ' H6 hinv
      obtain ⟨pv, v8, v10, v11, v12, v13, v14, v15, v16, r, xs, sds, rfl, s6, sd, hv, g, h6, sl, sok⟩ := (hIv _ _ _).mp hinv
      rw [List.length_map] at sl
      walk_at "rd"
      exact q pf H6 sds s6 (sd.seq SvAt.keep) (by omega) sok
    clear hv2 e2 fb hb m0 z6 sd0 good0 s24 s04 s2 s3 s4 s5 e3 e4 f3
    rintro i x σ' H6 hi hinv
    obtain ⟨pv, v8, v10, v11, v12, v13, v14, v15, v16, r, xs, sds, rfl, s6, sd, hv, g, h6, sl, sok⟩ := (hIv _ _ _).mp hinv
    rw [List.getElem?_map] at hi
    obtain ⟨cell, hcell, rfl⟩ := Option.map_eq_some_iff.mp hi
    have hil := (List.getElem?_eq_some_iff.mp hcell).1
    obtain ⟨g1, g2, g3, g4, g5⟩ := (hGood _ _).mp g
    walk_at "rd"
    refine seq_step ?_
    walk_at "rd"
    refine ⟨cell, 3, rfl, by decide, fun px H7 ys s7 f7 e7 yl yok => ?_⟩
    refine seq_step ?_
    refine lcg_src ?_
    walk_at "rd"
    obtain ⟨dqs, d1, d2, d3⟩ := id hds
    have s07 := s6.trans s7
    refine ⟨⟨_, .of (s07 _ _ d1)⟩, ?_⟩
    refine lcG (RV := fun _ v d => ∃ p, v = .ref p ∧ DtAt H p d) (fun _ _ _ _ _ h => h) (F := fun d : DoorD => if d.st = r.1 ∧ d.sg = "" then some d else none) (zs := M.doors) (s07 _ _ d1) (by simp [d2]) (by simp; omega) (fun k x z H8 Yes No hx hz s8 yes no => ?_) (fun ph H8 s8 f8 hs8 => ?_)
    · rw [List.getElem?_map] at hx
      obtain ⟨qk, h3, rfl⟩ := Option.map_eq_some_iff.mp hx
      have hd := d3 k qk z h3 hz
      obtain ⟨dg, dn, ez, _⟩ := DtAt.keep _ _ _ _ (s07.trans s8) hd
      walk_at "rd"
      refine ix_t (sqt ez) (by decide) rfl ?_
      refine ⟨rfl, ?_⟩
      by_cases c1 : z.st = r.1
      rotate_left
      · exact if_f (decide_eq_false fun h => c1 (by injection h)) (no H8 (Same.refl _) (if_neg fun k => c1 k.1))
      refine if_t (decide_eq_true (by rw [c1])) ?_
      refine ix_t (sqt ez) (by decide) rfl ?_
      refine ⟨rfl, ?_⟩
      by_cases c2 : z.sg = ""
      rotate_left
      · exact if_f (decide_eq_false fun h => c2 (by injection h)) (no H8 (Same.refl _) (if_neg fun k => c2 k.2))
      refine if_t (decide_eq_true (by rw [c2])) ?_
      exact yes _ H8 (Same.refl _) ⟨z, if_pos ⟨c1, c2⟩, fun D acc fD eD => ⟨qk, rfl, hd⟩⟩
    obtain ⟨hd, hhd⟩ : ∃ hd : List DoorD, hd = M.doors.filterMap fun d : DoorD => if d.st = r.1 ∧ d.sg = "" then some d else none := ⟨_, rfl⟩
    have hdm : ∀ d ∈ hd, d ∈ M.doors ∧ d.st = r.1 ∧ d.sg = "" := fun d h => by
      rw [hhd] at h
      obtain ⟨y, hy, e⟩ := List.mem_filterMap.mp h
      split at e
      · rename_i c; cases e; exact ⟨hy, c⟩
      · cases e
    have hdl : hd.length ≤ 60 := by rw [hhd]; exact Nat.le_trans (List.length_filterMap_le _ _) d60
    rw [← hhd] at hs8
    clear hhd
    obtain ⟨hqs, h1, h2, h3⟩ := id hs8
    have s68 := s7.trans s8
    walk_at "rd"
    refine seq_step ?_
    walk_at "rd"
    intro la H9 s9 f9 e9 lb Ha sa fa ea pk Hb sb fb eb
    have s8b := s9.trans (sa.trans sb)
    have take0 : TakeOk M r ⟨r.1, r.1, "", [], []⟩ := ⟨⟨r, g1, rfl⟩, rfl, (fun l h => by cases h), Nat.zero_le _, (fun b h => by cases h), Nat.zero_le _, .inr ⟨rfl, rfl⟩⟩
    obtain ⟨items0, w1, w2, w3⟩ := id sd
    have w8 := s68 _ _ w1
    have npf : ∀ {b : Addr} {J : Hp}, J b = none → Same H8 J → b ≠ pf := fun f s y => by rw [y, s _ _ w8] at f; cases f
    have at0 : DtAt (delH pf Hb) pk ⟨r.1, r.1, "", [], []⟩ := ⟨la, lb, del_at (npf fb (s9.trans sa)) eb, ⟨[], del_at (npf f9 (Same.refl _)) ((sa.trans sb) _ _ e9), rfl, fun i q x h => by cases h⟩, del_at (npf fa s9) (sb _ _ ea)⟩
    refine join_op (fun σ' H' => ∃ (pk : Addr) (d : DoorD), σ' = [some (.ref pr), some (.ref pdo), some vg, some (.ref pc), some (.ref pw), some (.int unit), some (.str r.1), some (.ref pv), v8, some (.ref pf), some (.int cell), some (.ref px), some (.ref pk), some (.ref ph), v14, v15, v16] ∧ Same Hb H' ∧ DtAt (delH pf H') pk d ∧ TakeOk M r d) ?r1 (fun R' way => ?_)
    rotate_left
    · refine seq_step ?_
      walk_at "rd"
      intro ln Hc sc fc ec
      refine ⟨ph, ln, _, rfl, rfl, (s8b.trans sc) _ _ h1, ec, ?_⟩
      refine ⟨_, rfl, ?_⟩
      by_cases c : hqs = ([] : List V)
      · subst c
        refine if_f rfl ?_
        exact way _ _ ⟨pk, _, rfl, sc, DtAt.keep _ _ _ _ (del_same sc) at0, take0⟩
      · refine if_t (by cases hqs with | nil => exact absurd rfl c | cons a b => rfl) ?_
        have hpos := List.length_pos_iff.mpr c
        walk_at "rd"
        obtain ⟨y0, hy0⟩ : ∃ y0, ys[0]? = some y0 := ⟨_, List.getElem?_eq_getElem (by omega)⟩
        have epx := (s8.trans (s8b.trans sc)) _ _ e7
        refine ix_l (.of epx) (by decide) (by show (ys.map V.int)[0]? = _; rw [List.getElem?_map, hy0]; rfl) ?_
        refine ⟨_, .inl (.of ((s8b.trans sc) _ _ h1)), _, rfl, by omega, ?_⟩
        have mm := fm_pos (c := y0) (m := (hqs.length : Int)) (by omega)
        obtain ⟨vd, hqd⟩ : ∃ vd, hqs[(y0.fmod (hqs.length : Int)).toNat]? = some vd := ⟨_, List.getElem?_eq_getElem (by omega)⟩
        obtain ⟨d, hdd⟩ : ∃ d, hd[(y0.fmod (hqs.length : Int)).toNat]? = some d := ⟨_, List.getElem?_eq_getElem (by omega)⟩
        obtain ⟨k1, k2, k3⟩ := hdm d (List.mem_of_getElem? hdd)
        refine ix_l (.of ((s8b.trans sc) _ _ h1)) mm.1 hqd ?_
        obtain ⟨qd, rfl, hdat⟩ := h3 _ vd d hqd hdd
        have dk := ok.door k1
        refine way _ _ ⟨qd, d, rfl, sc, DtAt.keep _ _ _ _ (fun b o e => del_at (fun y => by rw [y, f4'] at e; cases e) ((s07.trans (s8.trans (s8b.trans sc))) _ _ e)) hdat, ⟨?_, dk.2.2.2.1, msz.2 d k1, dl60 d k1, dk.2.2.2.2.1, dk.2.2.2.2.2.2, .inl ⟨k1, k2, k3⟩⟩⟩
        obtain ⟨r2, hr2, e⟩ := List.mem_map.mp dk.2.2.1
        exact ⟨r2, hr2, e⟩
    · rintro σ' Hc ⟨pk, d, rfl, sc, hd, tk⟩
      obtain ⟨dg, dn, ed, hdg, hdn⟩ := DtAt.keep _ _ _ _ del_sub hd
      obtain ⟨y1, hy1⟩ : ∃ y1, ys[1]? = some y1 := ⟨_, List.getElem?_eq_getElem (by omega)⟩
      have y1ok := yok y1 (List.mem_of_getElem? hy1)
      have s6c := s68.trans (s8b.trans sc)
      have s0c := s6.trans s6c
      refine seq_step ?_
      walk_at "rd"
      refine ix_t (sqt ed) (by decide) rfl ?_
      refine ix_l (.of ((s8.trans (s8b.trans sc)) _ _ e7)) (by decide) (by show (ys.map V.int)[1]? = _; rw [List.getElem?_map, hy1]; rfl) ?_
      refine ⟨dg, pv, M.watches, d.looks, xs, y1, unit, 280 + 20 * i, rfl, hdg, tk.l60, tk.gk, tk.sz, ok.wnd, w7, hv.keep s6c, h6, by omega, by omega, y1ok.1, y1ok.2, u1, u2, fun pt Hd t sd' ept t6 t0 => ?_⟩
      have bB : 280 + 20 * i ≤ 520 := by omega
      generalize hB : 280 + 20 * i = B at *
      have xsz : SzV 2000 xs := fun x hx => ((h6 x hx).sz (by omega)).imp (fun h => h.mono (by omega)) (fun h => h.mono (by omega))
      have tsz := t6.sz (show 3 ≤ B + 8 by omega)
      walk_at "rd"
      refine seq_step ?_
      walk_at "rd"
      refine ⟨pv, pt, M.watches, xs, (t.num, (t.den : Int)), rfl, hv.keep (s6c.trans sd'), ok.wnd, w7, xsz, ept, den_pos t, tsz.1.mono (by omega), tsz.2.mono (by omega), fun pl He se fl hvl => ?_⟩
      rw [rq_num] at hvl
      have s6e := s6c.trans (sd'.trans se)
      have s0e := s6.trans s6e
      have xt6 : ∀ {t : Rat}, Six (B + 8) t → ∀ x ∈ xs.map (· + t), Six (B + 12) x := fun {t} ht x hx => by
        obtain ⟨y, hy, rfl⟩ := List.mem_map.mp hx
        have k := six_sum ((h6 y hy).s6.mono (show B ≤ B + 8 by omega)) ht.s6
        rw [rq_num, rq_num] at k
        exact k
      have xtn : ∀ {t : Rat}, 0 ≤ t → ∀ x ∈ xs.map (· + t), 0 ≤ x := fun {t} ht x hx => by
        obtain ⟨y, hy, rfl⟩ := List.mem_map.mp hx
        have := g3 y hy
        grind
      walk_at "rd"
      refine join_op (fun σ' H' => ∃ (pt pl : Addr) (t : Rat), σ' = [some (.ref pr), some (.ref pdo), some vg, some (.ref pc), some (.ref pw), some (.int unit), some (.str r.1), some (.ref pv), v8, some (.ref pf), some (.int cell), some (.ref px), some (.ref pk), some (.ref ph), some (.ref pt), some (.ref pl), v16] ∧ Same He H' ∧ FrR H' pt t ∧ VDAt H' pl M.watches (xs.map (· + t)) ∧ Six (B + 8) t ∧ 0 ≤ t ∧ meetG M r.2 (vOf (xs.map (· + t)))) ?r2 (fun R' way => ?_)
      rotate_left
      · refine seq_step ?_
        walk_at "rd"
        refine ⟨pr, M.rooms, r, rfl, hrs.keep s0e, r60, ok.rnd, g1, fun pst Hf sf hst => ?_⟩
        have xt := xt6 t6
        have xtsz : SzV 100000 (xs.map (· + t)) := fun x hx => ((xt x hx).sz (by omega)).imp (fun h => h.mono (by omega)) (fun h => h.mono (by omega))
        refine ⟨pst, pl, M.watches, r.2, xs.map (· + t), rfl, hst, rl60 r g1, room_guard ok g1, msz.1 r g1, ok.wnd, w7, hvl.keep sf, xtsz, fun b Hg sg hb => ?_⟩
        refine ⟨_, rfl, ?_⟩
        have sfg := sf.trans sg
        cases b with
        | true =>
          refine if_f rfl ?_
          exact way _ _ ⟨pt, pl, t, rfl, sfg, (se.trans sfg) _ _ ept, hvl.keep sfg, t6, t0, hb.mp rfl⟩
        | false =>
          refine if_t rfl ?_
          refine seq_step ?_
          walk_at "rd"
          intro pz Hh sh fh eh
          have e0 : xs.map (· + (0 : Rat)) = xs := by
            refine (List.map_congr_left fun x _ => ?_).trans (List.map_id _)
            show x + 0 = x
            grind
          exact way _ _ ⟨pz, pv, 0, rfl, sfg.trans sh, eh, by rw [e0]; exact hv.keep (s6e.trans (sfg.trans sh)), six_zero, Rat.le_refl, by rw [e0]; exact g4⟩
      · rintro σ' Hf ⟨pt, pl, t, rfl, sf, ept, hvl, t6, t0, mt⟩
        have s6f := s6e.trans sf
        have tsz := t6.sz (show 3 ≤ B + 8 by omega)
        refine seq_step ?_
        walk_at "rd"
        refine ⟨_, rfl, .inl ⟨rfl, _, .of (s6f _ _ w1)⟩, ?_⟩
        walk_at "rd"
        refine ix_t (sqt ept) (by decide) rfl ?_
        refine ix_t (sqt ept) (by decide) rfl ?_
        refine ⟨_, rfl, Sz.mulW (a := 8) (b := 2000) (by unfold Sz; decide) (tsz.2.mono (by omega)) (by decide), fun ph2 Hg sg fg eg => ?_⟩
        have s6g := s6f.trans sg
        refine ⟨pv, ph2, M.watches, xs, (t.num, 2 * (t.den : Int)), rfl, hv.keep s6g, ok.wnd, w7, xsz, eg, (show 0 < 2 * (t.den : Int) from by have := den_pos t; omega), tsz.1.mono (by omega), (show Sz 2000 (2 * (t.den : Int)) from Sz.mul (a := 8) (b := B + 8) (by unfold Sz; decide) tsz.2 (by omega)), fun p3 Hh sh fh hvh => ?_⟩
        rw [show rq (t.num, 2 * (t.den : Int)) = t * (1 / 2) from half_rq t] at hvh
        obtain ⟨th0, thl⟩ := half_le t0
        have mh : meetG M r.2 (vOf (xs.map (· + t * (1 / 2)))) := stay_less ok g1 (fun i _ => map_add_mono thl i) mt
        intro tq Hi si fi ei
        have s6i := s6g.trans (sh.trans si)
        have wi := s6i _ _ w1
        obtain ⟨it, it1, it2, it3⟩ := (sd.keep SvAt.keep s6i).app SvAt.keep (q := tq) (x := (r.1, xs.map (· + t * (1 / 2)))) ⟨p3, del_at (ne_of ei wi (by intro z; cases z)) ei, (hvh.keep si).del wi⟩
        refine app_at it1 (by omega) ?_
        have stoodh : StoodOk M (r.1, xs.map (· + t * (1 / 2))) := ⟨⟨r, g1, rfl⟩, by show (xs.map _).length = _; rw [List.length_map]; exact g2, xtn th0, fun x hx => by
          obtain ⟨y, hy, rfl⟩ := List.mem_map.mp hx
          have k6 := h6 y hy
          have k := sum_sz (k6.sz (show 3 ≤ B by omega)) (t := t.num) (u := 2 * (t.den : Int)) (B := B + 16) (y := t * (1 / 2)) (by have := den_pos t; omega) (half_rq t).symm (tsz.1.mono (by omega)) (Sz.mul (a := 8) (b := B + 8) (by unfold Sz; decide) tsz.2 (by omega))
          exact k.imp (fun h => h.mono (by omega)) (fun h => h.mono (by omega)), fun gs => allin_wait ok g1 g2 g3 th0 (g5 gs) mh⟩
        have goodl : Good r (xs.map (· + t)) := (hGood _ _).mpr ⟨g1, by rw [List.length_map]; exact g2, xtn t0, mt, fun gs => allin_wait ok g1 g2 g3 t0 (g5 gs) mt⟩
        have l6 := xt6 t6
        have stoodl := stood goodl l6 (by omega) (by omega)
        have hvi : VDAt (upd Hi pf (.lst (it ++ [.ref tq]))) pl M.watches (xs.map (· + t)) := VDAt.upd_lst (hvl.keep (sg.trans (sh.trans si))) wi
        have hdi : DtAt (delH pf (upd Hi pf (.lst (it ++ [.ref tq])))) pk d := DtAt.keep _ _ _ _ ((del_same (sd'.trans (se.trans (sf.trans (sg.trans (sh.trans si)))))).trans del_upd) hd
        have s0i : Same H (upd Hi pf (.lst (it ++ [.ref tq]))) := same_updN f4' (s6.trans s6i)
        generalize upd Hi pf (.lst (it ++ [.ref tq])) = Hj at *
        walk_at "rd"
        obtain ⟨items1, x1, x2, x3⟩ := id it3
        refine seq_step ?_
        walk_at "rd"
        refine ⟨_, rfl, .inl ⟨rfl, _, .of x1⟩, ?_⟩
        walk_at "rd"
        intro tq2 Hk sk fk ek
        have wk := sk _ _ x1
        obtain ⟨it', jt1, jt2, jt3⟩ := (it3.keep SvAt.keep sk).app SvAt.keep (q := tq2) (x := (r.1, xs.map (· + t))) ⟨pl, del_at (ne_of ek wk (by intro z; cases z)) ek, (hvi.keep sk).del wk⟩
        refine app_at jt1 (by rw [jt2, List.length_append]; show sds.length + 1 ≤ 1000; omega) ?_
        have hvk : VDAt (upd Hk pf (.lst (it' ++ [.ref tq2]))) pl M.watches (xs.map (· + t)) := VDAt.upd_lst (hvi.keep sk) wk
        have hdk : DtAt (delH pf (upd Hk pf (.lst (it' ++ [.ref tq2])))) pk d := DtAt.keep _ _ _ _ ((del_same sk).trans del_upd) hdi
        have s0k : Same H (upd Hk pf (.lst (it' ++ [.ref tq2]))) := same_updN f4' (s0i.trans sk)
        generalize upd Hk pf (.lst (it' ++ [.ref tq2])) = Hl at *
        clear hdi hvi it3 it1 it2 x3 hvh hvl sd hv jt1 jt2 wi wk ei ek eg
        walk_at "rd"
        refine seq_step ?_
        walk_at "rd"
        obtain ⟨kvs, tk1, tk2, tk3⟩ := hvk.top
        refine ⟨pl, _, rfl, tk1, fun pn Hm sm fm em => ?_⟩
        have hvn := tk3 pn Hm sm em
        have xm := jt3.keep SvAt.keep sm
        refine seq_step ?_
        walk_at "rd"
        refine ⟨pl, _, rfl, sm _ _ tk1, fun pb Hn sn fn en => ?_⟩
        have hvb := tk3 pb Hn (sm.trans sn) en
        have s0m := s0k.trans sm
        have hdn' : DtAt (delH pf Hn) pk d := DtAt.keep _ _ _ _ (del_same (sm.trans sn)) hdk
        have xn := xm.keep SvAt.keep sn
        have hvnn := hvn.keep sn
        have hvln := hvk.keep (sm.trans sn)
        obtain ⟨dg, dn, ed, hdg, hdn⟩ := DtAt.keep _ _ _ _ (del_same sm |>.trans del_sub) hdk
        have bne : ∀ {a : Addr} {o : HO}, Hm a = some o → a ≠ pb := fun e y => by rw [y, fn] at e; cases e
        refine seq_step ?_
        refine for_li ?_
        walk_at "rd"
        refine ix_t (sqt (sn _ _ ed)) (by decide) rfl ?_
        obtain ⟨Ib, hIb⟩ : ∃ Iv : Nat → L2.St → Hp → Prop, ∀ m σ' H', Iv m σ' H' ↔ (∃ v8, σ' = [some (.ref pr), some (.ref pdo), some vg, some (.ref pc), some (.ref pw), some (.int unit), some (.str r.1), some (.ref pn), v8, some (.ref pf), some (.int cell), some (.ref px), some (.ref pk), some (.ref ph), some (.ref pt), some (.ref pl), some (.ref pb)] ∧ Same Hm H' ∧ VDAt H' pb M.watches (backV M.watches (d.backs.take m) (xs.map (· + t)))) := ⟨_, fun _ _ _ => Iff.rfl⟩
        refine ⟨_, rfl, forL_by (xs := d.backs.map V.str) Ib ((hIb _ _ _).mpr ⟨_, rfl, sn, by rw [List.take_zero, back_nil]; exact hvb⟩) (fun m σ H' _ h => (fun (⟨_, _, k, _⟩ : ∃ _, _ ∧ Same _ _ ∧ _) => .of (k _ _ hdn)) ((hIb _ _ _).mp h)) ?_ ?_⟩
        · rintro m x σ' Ho hm hinv
          obtain ⟨v8, rfl, so, hvo⟩ := (hIb _ _ _).mp hinv
          rw [List.getElem?_map] at hm
          obtain ⟨wn, hwn, rfl⟩ := Option.map_eq_some_iff.mp hm
          have wm := tk.bk wn (List.mem_of_getElem? hwn)
          walk_at "rd"
          intro pz Hp' sp fp ep
          obtain ⟨kv2, o1, o2, o3⟩ := (hvo.keep sp).put ok.wnd wm (p := pz) (r := 0) ep
          refine ⟨_, DPut.k (k := .inr wn) o1 (small1000 (by omega)), ?_⟩
          refine (hIb _ _ _).mpr ⟨_, rfl, same_updN fn (so.trans sp), ?_⟩
          rw [back_snoc ok.wnd (by rw [List.length_map]; exact g2) wm hwn]
          exact o3
        rintro σ' Ho hinv
        obtain ⟨v8', rfl, so, hvo⟩ := (hIb _ _ _).mp hinv
        rw [List.length_map, List.take_length] at hvo
        obtain ⟨xb, hxb⟩ : ∃ xb, xb = backV M.watches d.backs (xs.map (· + t)) := ⟨_, rfl⟩
        rw [← hxb] at hvo
        have xbm : ∀ x ∈ xb, x = 0 ∨ x ∈ xs.map (· + t) := fun x hx => by
          rw [hxb] at hx
          unfold backV lstF at hx
          obtain ⟨j, hj, rfl⟩ := List.mem_map.mp hx
          have hj := List.mem_range.mp hj
          split
          · exact .inl rfl
          · rw [List.getD_eq_getElem?_getD, List.getElem?_eq_getElem hj]
            exact .inr (List.getElem_mem hj)
        have b6 : ∀ x ∈ xb, Six (B + 12) x := fun x hx => by
          rcases xbm x hx with rfl | h
          · exact six_zero
          · exact l6 x h
        have bsz : SzV 100000 xb := fun x hx => ((b6 x hx).sz (by omega)).imp (fun h => h.mono (by omega)) (fun h => h.mono (by omega))
        have lsz : SzV 100000 (xs.map (· + t)) := fun x hx => ((l6 x hx).sz (by omega)).imp (fun h => h.mono (by omega)) (fun h => h.mono (by omega))
        obtain ⟨r2, hr2, er2⟩ := tk.en
        have s0o := s0m.trans so
        have keepIv : ∀ {J : Hp}, Same Ho J → ∀ {v8 v16}, Iv (i + 1) [some (.ref pr), some (.ref pdo), some vg, some (.ref pc), some (.ref pw), some (.int unit), some (.str r.1), some (.ref pn), v8, some (.ref pf), some (.int cell), some (.ref px), some (.ref pk), some (.ref ph), some (.ref pt), some (.ref pl), v16] J := fun {J} s {v8 v16} => (hIv _ _ _).mpr ⟨pn, _, _, _, _, _, _, _, _, r, xs.map (· + t), _, rfl, s0o.trans s, xm.keep SvAt.keep (so.trans s), hvn.keep (so.trans s), goodl, fun x hx => (l6 x hx).mono (by omega), by simp only [List.length_append, List.length_singleton]; omega, fun s hs => by
          rcases List.mem_append.mp hs with h | h
          · rcases List.mem_append.mp h with h | h
            · exact sok s h
            · cases List.mem_singleton.mp h; exact stoodh
          · cases List.mem_singleton.mp h; exact stoodl⟩
        walk_at "rd"
        refine ix_t (sqt (so _ _ ed)) (by decide) rfl ?_
        refine ⟨dg, pl, M.watches, d.looks, xs.map (· + t), rfl, hdg.keep so, tk.l60, tk.gk, tk.sz, ok.wnd, w7, hvk.keep (sm.trans so), lsz, fun b1 Hq sq hb1 => ?_⟩
        refine ⟨_, rfl, ?_⟩
        cases b1 with
        | false => exact if_f rfl (keepIv sq)
        | true =>
        refine if_t rfl ?_
        refine ix_t (sqt ((so.trans sq) _ _ ed)) (by decide) rfl ?_
        refine ⟨pr, M.rooms, r2, by rw [er2], hrs.keep (s0o.trans sq), r60, ok.rnd, hr2, fun pst Hr sr hst => ?_⟩
        have sor := sq.trans sr
        refine ⟨pst, pb, M.watches, r2.2, xb, rfl, hst, rl60 r2 hr2, room_guard ok hr2, msz.1 r2 hr2, ok.wnd, w7, hvo.keep sor, bsz, fun b2 Hs ss hb2 => ?_⟩
        refine ⟨_, rfl, ?_⟩
        have sos := sor.trans ss
        cases b2 with
        | false => exact if_f rfl (keepIv sos)
        | true =>
        refine if_t rfl ?_
        have m1 : meetG M d.looks (vOf (xs.map (· + t))) := hb1.mp rfl
        have m2 : meetG M r2.2 (vOf xb) := hb2.mp rfl
        obtain ⟨gl1, gl2, gl3, gl4, gl5⟩ := (hGood _ _).mp goodl
        have goodb : Good r2 xb := (hGood _ _).mpr ⟨hr2, by rw [hxb]; unfold backV; rw [lstF_len]; exact gl2, fun x hx => by
          rcases xbm x hx with rfl | h
          · exact Rat.le_refl
          · exact gl3 x h, m2, fun gs => by
          rcases tk.how with ⟨k1, k2, k3⟩ | ⟨k1, k2⟩
          · rw [hxb] at m2 ⊢
            exact allin_door ok g1 hr2 k1 k2 er2.symm k3 gl2 gl3 (gl5 gs) m1 m2
          · rw [hxb, k2, back_nil, er2, k1]
            exact gl5 gs⟩
        have stoodb := stood goodb b6 (by omega) (by omega)
        refine seq_step ?_
        walk_at "rd"
        refine ix_t (sqt ((so.trans sos) _ _ ed)) (by decide) rfl ?_
        rw [← er2]
        refine seq_step ?_
        walk_at "rd"
        obtain ⟨_, y1', _⟩ := id (xm.keep SvAt.keep (so.trans sos))
        refine ⟨_, rfl, .inl ⟨rfl, _, .of y1'⟩, ?_⟩
        walk_at "rd"
        intro tq3 Ht st ft et
        have wt := st _ _ y1'
        have sot := sos.trans st
        obtain ⟨it3, kt1, kt2, kt3⟩ := (xm.keep SvAt.keep (so.trans sot)).app SvAt.keep (q := tq3) (x := (r2.1, xb)) ⟨pb, del_at (ne_of et wt (by intro z; cases z)) et, (hvo.keep sot).del wt⟩
        refine app_at kt1 (by rw [kt2]; simp only [List.length_append, List.length_singleton]; omega) ?_
        refine (hIv _ _ _).mpr ⟨pb, _, _, _, _, _, _, _, _, r2, xb, _, rfl, same_updN f4' (s0o.trans sot), kt3, VDAt.upd_lst (hvo.keep sot) wt, goodb, fun x hx => (b6 x hx).mono (by omega), by simp only [List.length_append, List.length_singleton]; omega, fun s hs => ?_⟩
        rcases List.mem_append.mp hs with h | h
        · rcases List.mem_append.mp h with h | h
          · rcases List.mem_append.mp h with h | h
            · exact sok s h
            · cases List.mem_singleton.mp h; exact stoodh
          · cases List.mem_singleton.mp h; exact stoodl
        · cases List.mem_singleton.mp h; exact stoodb
-- CUT
def spNodes62 (K : PySem.W.Frag) (CM CD : Addr) : Sp := fun vs H Q _ => ∃ (pm pg : Addr) (M : MachD) (gs : List Rq), vs = [.ref pm, .ref pg] ∧ MachAt CM CD H pm M ∧ MachOk M ∧ MSz M ∧ M.watches.length ≤ 2 ∧ RsAt H pg gs ∧ (∀ g ∈ gs, g.2.length ≤ 60 ∧ SzL g.2) ∧ gs.length ≤ 600 ∧ gs.all (markOk M) = true ∧
  ∀ (q : Addr) (H' : Hp) (ps : List (Str × Mx)), Same H H' → SeqOf (PpAt (dimM M)) H' q ps → ps.length ≤ 8 → (∀ x ∈ ps, x.1 ∈ M.rooms.map (·.1) ∧ SzM 2000 x.2) → Q (.ref q) H'
theorem ok_l_nodes (T : Top K mg) : FnOk P w K mg base CX0 9 T.f_l_nodes T.d_l_nodes ["_law_machine", "_law_goal"] (spNodes62 K T.C_Machine T.C_Door) := by
  refine T.F_l_nodes.ok sc_l_nodes (fun vs H Q E h => ?_) (fun cdv A outer s H vs Q E hr h => ?_)
  · obtain ⟨pm, pg, M, gs, rfl, _⟩ := h; rfl
  · obtain ⟨pm, pg, M, gs, rfl, hm, ok, msz, w2, hg, gsz, g600, gok, q⟩ := h
    refine ⟨_, (pss_cons (ps_set (i := 2) sc_l_nodes.nd rfl (.inl rfl) (pe_lstN pa_nil))
      (pss_cons (ps_try_only rfl rfl ⟨rfl, by decide, .inl T.g_TooMany⟩ takes0 (fun W pn xe tk _ => (pss_one (ps_asg (pe_callSD (ok_searched T) (hr.mono (by decide)) rfl T.g_searched T.F_searched.kp T.bd1_searched T.v1_searched (fun σ => passAt tk σ) (pa_cons (pv 0) (pa_cons (pv 1) (pa_cons pe_int pa_nil)))) (pg_tupA (K := K) (n := 2) rfl (by rfl) (pgs_cons (pg_name (i := 2) sc_l_nodes.nd rfl (.inl rfl)) (pgs_cons (pg_name (i := 3) sc_l_nodes.nd rfl (.inl rfl)) pgs_nil)))))) (fun a oe cls d pn hz hf => (pss_one (ps_set (i := 2) sc_l_nodes.nd rfl (.inl rfl) (pe_lstN pa_nil)))))
      (pss_one (ps_ret (lc_vs (vs := [4]) (pe_lc (own := [("_law_node", 4)]) (g := gName 4) (tt := tYes) rfl sc_l_nodes.nd (pi_listA (K := K) rfl (pv 2)) (blkOk_by (own := [("_law_node", 4)]) (N := ["_law_machine", "_law_goal", "_law_nodes_here", "_law_hit", "_law_node"]) (sc := defScope s_l_nodes) (by decide +kernel)) (fun _ _ _ _ _ => (pg_name (i := 4) sc_l_nodes.nd rfl (.inl rfl))) (fun _ _ _ _ _ => pts_nil) (fun _ _ _ _ _ => (pe_tupN (pa_cons (pe_ix (ix_tupA (K := K) rfl) (pv 4) pe_int (fun _ _ => rfl)) (pa_cons (pe_ix (ix_tupA (K := K) rfl) (pv 4) pe_int (fun _ _ => rfl)) pa_nil))))) rfl))))), ?_⟩
    have hdm : dimM M = M.watches.length + 1 := rfl
    refine seq_step ?_
    walk_at "rd"
    intro p0 H1 s1 f1 e1
    refine join_op (fun σ' H' => ∃ (pn : Addr) (ns : List Nd) (v3 : Option V), σ' = [some (.ref pm), some (.ref pg), some (.ref pn), v3, none] ∧ Same H H' ∧ SeqOf (NdAt (dimM M)) H' pn ns ∧ ns.length ≤ 8 ∧ ∀ x ∈ ns, x.rm ∈ M.rooms.map (·.1) ∧ SzM 2000 x.zn) ?r1 (fun R' way => ?_)
    case r1 =>
      rintro σ' H2 ⟨pn, ns, v3, rfl, s2, hns, n8, nok⟩
      obtain ⟨nqs, nq1, nq2, nq3⟩ := id hns
      walk_at "rd"
      refine lcg_src ?_
      walk_at "rd"
      refine ⟨⟨_, .of nq1⟩, ?_⟩
      refine lcMD (R := PpAt (dimM M)) PpAt.keep (F := fun x : Nd => (x.rm, x.zn)) (zs := ns) nq1 (by simp [nq2]) (by simp; omega) (fun i x z He Yes hx hz se hy => ?_) (fun pp He se fe hpp => ?_)
      · rw [List.getElem?_map] at hx
        obtain ⟨qi, h1, rfl⟩ := Option.map_eq_some_iff.mp hx
        obtain ⟨pz, epz, zz⟩ := nq3 i qi z h1 hz
        walk_at "rd"
        refine ix_t (sqt (se _ _ epz)) (by decide) rfl ?_
        refine ix_t (sqt (se _ _ epz)) (by decide) rfl ?_
        intro t Hf sf ff ef
        refine hy t Hf sf fun D acc fD eD => ⟨pz, del_at (fun y => by rw [y, eD] at ff; cases ff) ef, ZoAt.keep _ _ _ _ (same_delN fD (se.trans sf)) zz⟩
      · refine q pp He _ (s2.trans se) (hpp.seq PpAt.keep) (by rw [List.length_map]; exact n8) fun x hx => ?_
        obtain ⟨y, hy, rfl⟩ := List.mem_map.mp hx
        exact nok y hy
    refine seq_step ?_
    walk_at "rd"
    have w7 := ok.w7
    have n8 : dimM M ≤ 8 := by unfold dimM; omega
    refine ⟨pm, pg, M, gs, 8, .non, none, true, rfl, hm.keep s1, ok, msz, hg.keep s1, gsz, g600, by decide, by decide, by omega, .inl ⟨rfl, rfl⟩, .inl ⟨gok, fun ns hit e p pn H' s fp fn ep sd => ?_, fun e H' s => ?_⟩⟩
    · refine gTup_of (sqt ep) rfl ?_
      walk_at "rd"
      have hstart := searchS_ok (M := M) (gs := gs) (mo := mostsOf M gs none) (fr := none) (st := true) (most := 8) (by decide)
      rw [e] at hstart
      have chl : Chain M (mostsOf M gs none) none ns ∧ ns.length ≤ 8 := by
        rcases hstart with ⟨rfl, _, _⟩ | ⟨Z, l, _, _, he | ⟨_, he⟩⟩
        · exact ⟨fun i x h => by simp at h, Nat.zero_le _⟩
        · exact ⟨he.2.2.1, he.2.2.2.1⟩
        · exact ⟨he.chain, he.len⟩
      obtain ⟨ch, nl⟩ := chl
      obtain ⟨mok', _⟩ := mosts_ok ok msz gok (fun g h => (gsz g h).2) none
      have nsz := chain_sz ok msz mok' ch
      refine way _ _ ⟨pn, ns, _, rfl, s1.trans s, (sd.seq NdAt.keep).kept new_sub, nl, fun x hx => ?_⟩
      obtain ⟨r, hr, er, _⟩ := chain_room ok ch hx
      refine ⟨by rw [← er]; exact List.mem_map_of_mem hr, ?_⟩
      obtain ⟨i, hi, e⟩ := List.mem_iff_getElem.mp hx
      have h1 := List.getElem?_eq_getElem hi
      rw [e] at h1
      refine (nsz i x h1).mono ?_
      have : 8 * dimM M * (i + 1) ≤ 24 * 8 := Nat.mul_le_mul (by omega) (by omega)
      omega
    · refine ⟨true, exm_two T.b_TooMany T.e4_TooMany T.t_TooMany T.s_TooMany_TooMany, fun _ a ha => ?_, fun z => nomatch z⟩
      walk_at "rd"
      intro p2 H2 s2 f2 e2
      exact way _ _ ⟨p2, [], _, rfl, s1.trans (s.trans s2), ⟨[], e2, rfl, fun i q x h => by cases h⟩, Nat.zero_le _, fun x h => by cases h⟩
def spWide62 (K : PySem.W.Frag) : Sp := fun vs H Q _ => ∃ (pz : Addr) (az : List Addr) (n : Nat) (Z : Mx) (c : Int) (s : Nat), vs = [.ref pz, .int c] ∧ ZAt H pz az n Z ∧ 1 ≤ n ∧ n ≤ 8 ∧ SzM s Z ∧ ∀ (p : Addr) (as : List Addr) (H' : Hp) (M : Mx), Same H H' → H p = none → (∀ a ∈ as, H a = none) → ZAt H' p as n M → SzM s M → Q (.ref p) H'
theorem ok_l_wide (T : Top K mg) : FnOk P w K mg base CX0 1 T.f_l_wide T.d_l_wide ["_law_zone", "_law_cell"] (spWide62 K) := by
  refine T.F_l_wide.ok sc_l_wide (fun vs H Q E h => ?_) (fun cdv A outer s H vs Q E hr h => ?_)
  · obtain ⟨pz, az, n, Z, c, s, rfl, _⟩ := h; rfl
  · obtain ⟨pz, az, n, Z, c, sz, rfl, z, n1, n8, zs, q⟩ := h
    refine ⟨_, (pss_cons (lc_vsS (vs := [4]) (ps_setLc (i := 2) (own := [("_law_row", 4)]) (g := gName 4) (tt := tYes) rfl sc_l_wide.nd rfl rfl (sw_true rfl rfl rfl (by decide +kernel)) (pi_listA (K := K) rfl (pv 0)) (blkOk_by (own := [("_law_row", 4)]) (N := ["_law_zone", "_law_cell", "_law_rows", "_law_k", "_law_row"]) (sc := defScope s_l_wide) (by decide +kernel)) (fun _ _ _ _ _ => (pg_name (i := 4) sc_l_wide.nd rfl (.inl rfl))) (fun _ _ _ _ _ => pts_nil) (fun _ _ _ _ _ => (pe_callTy (call_listA (K := K) rfl) (by rfl) T.m_list (by decide +kernel) (pa_cons (pv 4) pa_nil)))) rfl)
      (pss_cons (ps_for PassesOwn.never rfl (pi_range1 (by rfl) T.m_range (pa_cons pe_int pa_nil)) (pg_name (i := 3) sc_l_wide.nd rfl (.inl rfl)) (pss_cons (ps_asg pe_non (pg_sub (pe_ix (ix_listA (K := K) rfl) (pv 2) (pe_op op_modN (pv 1) (pe_callB call_len_seq (by rfl) T.m_len (by decide +kernel) (pa_cons (pv 2) pa_nil))) (fun _ _ => rfl)) (pe_op op_modN (pe_op op_fdivZ (pv 1) pe_int) (pe_callB call_len_seq (by rfl) T.m_len (by decide +kernel) (pa_cons (pv 2) pa_nil))) set_list))
      (pss_one (ps_set (i := 1) sc_l_wide.nd rfl (.inl rfl) (pe_op op_fdivZ (pv 1) pe_int)))))
      (pss_one (ps_ret (pv 2))))), ?_⟩
    refine seq_step ?_
    refine lcg_src ?_
    walk_at "rd"
    refine ⟨⟨_, .of z.top⟩, ?_⟩
    refine lcG_copy z (by omega) (by simp) fun D as H1 s1 z1 fD ff => ?_
    walk_at "rd"
    refine seq_step ?_
    refine for_rg ?_
    walk_at "rd"
    obtain ⟨Iv, hIv⟩ : ∃ Iv : Nat → L2.St → Hp → Prop, ∀ j σ' H', Iv j σ' H' ↔ (∃ v3 v4, ∃ (M : Mx) (c : Int), σ' = [some (.ref pz), some (.int c), some (.ref D), v3, v4] ∧ ZAt H' D as n M ∧ SzM sz M ∧ ∀ b o, b ∉ as → H1 b = some o → H' b = some o) := ⟨_, fun _ _ _ => Iff.rfl⟩
    refine forR_by Iv ((hIv _ _ _).mpr ⟨_, _, Z, c, rfl, z1, zs, fun _ _ _ e => e⟩) ?_ ?_
    · rintro j σ' H3 hj hinv
      obtain ⟨v3, v4, M, c, rfl, zM, lM, kp⟩ := (hIv _ _ _).mp hinv
      walk_at "rd"
      refine seq_step ?_
      walk_at "rd"
      refine ⟨_, .inl (.of zM.top), ?_⟩
      rw [List.length_map, zM.len]
      have m1 := fm_pos (c := c) (m := (n : Int)) (by omega)
      have m2 := fm_pos (c := c.fdiv 3) (m := (n : Int)) (by omega)
      obtain ⟨a, ha⟩ : ∃ a : Nat, c.fmod (n : Int) = (a : Int) := ⟨(c.fmod (n : Int)).toNat, by omega⟩
      obtain ⟨b, hb⟩ : ∃ b : Nat, (c.fdiv 3).fmod (n : Int) = (b : Int) := ⟨((c.fdiv 3).fmod (n : Int)).toNat, by omega⟩
      rw [ha] at m1 ⊢
      have han : a < n := by omega
      have hbn : b < n := by omega
      refine ⟨by omega, ?_⟩
      refine ix_top zM han fun r er hr1 => ?_
      refine ⟨_, .inl (.of zM.top), ?_⟩
      rw [List.length_map, zM.len, hb]
      refine ⟨by omega, ?_⟩
      refine set_at (K := K) (x := none) (j := b) hr1 hbn ?_
      refine (hIv _ _ _).mpr ⟨_, _, _, _, rfl, zM.set (j := b) none er, fun i k v e => ?_, kp_upd er kp⟩
      unfold up2 at e
      split at e
      · cases e
      · exact lM i k v e
    · rintro σ' H3 hinv
      obtain ⟨v3, v4, M, c, rfl, zM, lM, kp⟩ := (hIv _ _ _).mp hinv
      walk_at "rd"
      exact q D as H3 M (fun b o e => kp b o (fun hb => by rw [ff b hb] at e; cases e) (s1 _ _ e)) fD ff zM lM
/-- a paper on the heap -/
def PapOk (m n : Nat) (names : List Str) (J : Hp) (a : Addr) (_ : Unit) : Prop := ∃ zq : List (Addr × (Str × Mx)), J a = some (.lst (zq.map fun z => V.ref z.1)) ∧ (∀ z ∈ zq, PpAt n J z.1 z.2) ∧ zq.length ≤ m ∧ ∀ z ∈ zq, z.2.1 ∈ names ∧ SzM 2000 z.2.2
theorem PapOk.keep {m n : Nat} {names : List Str} : ∀ (H H' : Hp) (q : Addr) (x : Unit), Same H H' → PapOk m n names H q x → PapOk m n names H' q x := fun _ _ _ _ s ⟨zq, a, b, c⟩ => ⟨zq, s _ _ a, fun z hz => PpAt.keep _ _ _ _ s (b z hz), c⟩
theorem PapOk.up {n : Nat} {names : List Str} {H : Hp} {q : Addr} {x : Unit} (h : PapOk 8 n names H q x) : PapOk 9 n names H q x := by
  obtain ⟨zq, a, b, c, d⟩ := h
  exact ⟨zq, a, b, by omega, d⟩
instance {m n : Nat} {names : List Str} : Kp2 (PapOk m n names) := ⟨PapOk.keep⟩
def spPapers62 (K : PySem.W.Frag) (CM CD : Addr) : Sp := fun vs H Q _ => ∃ (pm pg : Addr) (M : MachD) (gs : List Rq) (c : Int), vs = [.ref pm, .ref pg, .int c, .int (M.watches.length : Nat)] ∧ MachAt CM CD H pm M ∧ MachOk M ∧ MSz M ∧ M.watches.length ≤ 2 ∧ RsAt H pg gs ∧ (∀ g ∈ gs, g.2.length ≤ 60 ∧ SzL g.2) ∧ gs.length ≤ 600 ∧ gs.all (markOk M) = true ∧
  ∀ (q : Addr) (H' : Hp) (us : List Unit), Same H H' → SeqOf (PapOk 9 (dimM M) (M.rooms.map (·.1))) H' q us → us.length ≤ 20 → Q (.ref q) H'
theorem ok_l_papers (T : Top K mg) : FnOk P w K mg base CX0 10 T.f_l_papers T.d_l_papers ["_law_machine", "_law_goal", "_law_cell", "_law_many"] (spPapers62 K T.C_Machine T.C_Door) := by
  refine T.F_l_papers.ok sc_l_papers (fun vs H Q E h => ?_) (fun cdv A outer s H vs Q E hr h => ?_)
  · obtain ⟨pm, pg, M, gs, c, rfl, _⟩ := h; rfl
  · obtain ⟨pm, pg, M, gs, c, rfl, hm, ok, msz, w2, hg, gsz, g600, gok, q⟩ := h
    refine ⟨_, (pss_cons (ps_set (i := 4) sc_l_papers.nd rfl (.inl rfl) (pe_lstN pa_nil))
      (pss_cons (ps_for PassesOwn.never rfl (pi_listA (K := K) rfl (pe_lstN (pa_cons (pe_call (ok_l_nodes T) (hr.mono (by decide)) rfl T.g_l_nodes T.F_l_nodes.kp T.b_l_nodes .nil pass0 (pa_cons (pv 0) (pa_cons (pv 1) pa_nil))) (pa_cons (pe_call (ok_l_nodes T) (hr.mono (by decide)) rfl T.g_l_nodes T.F_l_nodes.kp T.b_l_nodes .nil pass0 (pa_cons (pv 0) (pa_cons (pe_lstN pa_nil) pa_nil))) pa_nil)))) (pg_name (i := 5) sc_l_papers.nd rfl (.inl rfl)) (pss_cons (ps_set (i := 4) sc_l_papers.nd rfl (.inl rfl) (pe_op op_catN (pv 4) (pe_lstN (pa_cons (pv 5) (pa_cons (pe_revN (fun _ _ _ _ m h => by obtain ⟨v, h1, h2⟩ := h; exact ⟨v, h1, m _ _ h2⟩) (pv 5)) pa_nil)))))
      (pss_one (ps_if (pt_cmpR (op_neNil (Nat.lt_of_succ_lt (hu_of hr))) (pv 5) (pe_lstN pa_nil) (nomark _)) (pss_cons (ps_set (i := 6) sc_l_papers.nd rfl (.inl rfl) (pe_op op_modN (pv 2) (pe_callB call_len_seq (by rfl) T.m_len (by decide +kernel) (pa_cons (pv 5) pa_nil))))
      (pss_cons (ps_set (i := 7) sc_l_papers.nd rfl (.inl rfl) (pe_ix (ix_tupA (K := K) rfl) (pe_ix (ix_listA (K := K) rfl) (pv 5) (pv 6) (fun _ _ => rfl)) pe_int (fun _ _ => rfl)))
      (pss_cons (lc_vsS (vs := [9]) (ps_setLc (i := 8) (own := [("_law_k", 9)]) (g := gName 9) (tt := tYes) rfl sc_l_papers.nd rfl rfl (sw_true rfl rfl rfl (by decide +kernel)) (pi_range1 (by rfl) T.m_range (pa_cons (pe_op op_add (pv 3) pe_int) pa_nil)) (blkOk_by (own := [("_law_k", 9)]) (N := ["_law_machine", "_law_goal", "_law_cell", "_law_many", "_law_found", "_law_paper", "_law_at", "_law_room", "_law_empty", "_law_k", "_law_name", "_law_zone"]) (sc := defScope s_l_papers) (by decide +kernel)) (fun _ _ _ _ _ => (pg_name (i := 9) sc_l_papers.nd rfl (.inl rfl))) (fun _ _ _ _ _ => pts_nil) (fun _ _ _ _ _ => (pe_op op_repN (pe_lstN (pa_cons pe_int pa_nil)) (pe_op op_add (pv 3) pe_int)))) rfl)
      (pss_cons (ps_expr (pe_bm PySem.F.plainAttrs_list PySem.F.slot_list_append PySem.F.type_list_append mt_append (pv 4) (pa_cons (pe_op op_catN (pe_slice (sl_listA (K := K) rfl) (pv 5) po_none (po_some (pv 6))) (pe_slice (sl_listA (K := K) rfl) (pv 5) (po_some (pe_op op_add (pv 6) pe_int)) po_none)) pa_nil)))
      (pss_cons (ps_expr (pe_bm PySem.F.plainAttrs_list PySem.F.slot_list_append PySem.F.type_list_append mt_append (pv 4) (pa_cons (pe_op op_catN (pe_op op_catN (pe_slice (sl_listA (K := K) rfl) (pv 5) po_none (po_some (pv 6))) (pe_lstN (pa_cons (pe_tupN (pa_cons (pv 7) (pa_cons (pe_call (ok_everywhere T) (hr.mono (by decide)) rfl T.g_everywhere T.F_everywhere.kp T.b_everywhere .nil pass0 (pa_cons (pv 3) pa_nil)) pa_nil))) pa_nil))) (pe_slice (sl_listA (K := K) rfl) (pv 5) (po_some (pe_op op_add (pv 6) pe_int)) po_none)) pa_nil)))
      (pss_cons (ps_expr (pe_bm PySem.F.plainAttrs_list PySem.F.slot_list_append PySem.F.type_list_append mt_append (pv 4) (pa_cons (pe_op op_catN (pv 5) (pe_lstN (pa_cons (pe_tupN (pa_cons (pv 7) (pa_cons (pv 8) pa_nil))) pa_nil))) pa_nil)))
      (pss_one (ps_expr (pe_bm PySem.F.plainAttrs_list PySem.F.slot_list_append PySem.F.type_list_append mt_append (pv 4) (pa_cons (lc_vs (vs := [10, 11]) (pe_lc (own := [("_law_name", 10), ("_law_zone", 11)]) (tt := tYes) rfl sc_l_papers.nd (pi_listA (K := K) rfl (pv 5)) (blkOk_by (own := [("_law_name", 10), ("_law_zone", 11)]) (N := ["_law_machine", "_law_goal", "_law_cell", "_law_many", "_law_found", "_law_paper", "_law_at", "_law_room", "_law_empty", "_law_k", "_law_name", "_law_zone"]) (sc := defScope s_l_papers) (by decide +kernel)) (fun _ _ _ _ _ => (pg_tupA (K := K) (n := 2) rfl (by rfl) (pgs_cons (pg_name (i := 10) sc_l_papers.nd rfl (.inl rfl)) (pgs_cons (pg_name (i := 11) sc_l_papers.nd rfl (.inl rfl)) pgs_nil)))) (fun _ _ _ _ _ => pts_nil) (fun _ _ _ _ _ => (pe_tupN (pa_cons (pv 10) (pa_cons (pe_call (ok_l_wide T) (hr.mono (by decide)) rfl T.g_l_wide T.F_l_wide.kp T.b_l_wide .nil pass0 (pa_cons (pv 11) (pa_cons (pe_op op_fdivZ (pv 2) pe_int) pa_nil))) pa_nil))))) rfl) pa_nil)))))))))) pss_nil))))
      (pss_one (ps_ret (pv 4))))), ?_⟩
    have hdm : dimM M = M.watches.length + 1 := rfl
    obtain ⟨n, hn⟩ : ∃ n, n = dimM M := ⟨_, rfl⟩
    refine seq_step ?_
    walk_at "rd"
    intro pf0 H1 s1 f1 e1
    refine seq_step ?_
    refine for_li ?_
    walk_at "rd"
    refine ⟨pm, pg, M, gs, rfl, hm.keep s1, ok, msz, w2, hg.keep s1, gsz, g600, gok, fun p1 H2 ps1 s2 hp1 l1 k1 => ?_⟩
    intro pe H3 s3 f3 e3
    have s13 := s1.trans (s2.trans s3)
    refine ⟨pm, pe, M, [], rfl, hm.keep s13, ok, msz, w2, ⟨[], e3, rfl, fun i q x h => by cases h⟩, (fun g h => by cases h), Nat.zero_le _, rfl, fun p2 H4 ps2 s4 hp2 l2 k2 => ?_⟩
    intro pl H5 s5 f5 e5
    have s25 := s3.trans (s4.trans s5)
    have pap1 : PapOk 8 n (M.rooms.map (·.1)) H5 p1 () := by
      obtain ⟨zq, a, b, d⟩ := seq_zip (hp1.kept s25)
      have zl : zq.length = ps1.length := by rw [← b, List.length_map]
      refine ⟨zq, a, fun z hz => by rw [hn]; exact d z hz, by omega, fun z hz => k1 z.2 (by rw [← b]; exact List.mem_map_of_mem hz)⟩
    have pap2 : PapOk 8 n (M.rooms.map (·.1)) H5 p2 () := by
      obtain ⟨zq, a, b, d⟩ := seq_zip (hp2.kept s5)
      have zl : zq.length = ps2.length := by rw [← b, List.length_map]
      refine ⟨zq, a, fun z hz => by rw [hn]; exact d z hz, by omega, fun z hz => k2 z.2 (by rw [← b]; exact List.mem_map_of_mem hz)⟩
    have e1' := (s2.trans s25) _ _ e1
    have s05 := s1.trans (s2.trans s25)
    obtain ⟨Iv, hIv⟩ : ∃ Iv : Nat → L2.St → Hp → Prop, ∀ i σ' H', Iv i σ' H' ↔ (∃ pf v5 v6 v7 v8 v9 v10 v11, ∃ us : List Unit, σ' = [some (.ref pm), some (.ref pg), some (.int c), some (.int (M.watches.length : Nat)), some (.ref pf), v5, v6, v7, v8, v9, v10, v11] ∧ Same H5 H' ∧ SeqD (PapOk 9 n (M.rooms.map (·.1))) H' pf us ∧ us.length ≤ 6 * i) := ⟨_, fun _ _ _ => Iff.rfl⟩
    refine forL_by (xs := [V.ref p1, V.ref p2]) Iv ((hIv _ _ _).mpr ⟨pf0, _, _, _, _, _, _, _, [], rfl, Same.refl _, SeqD.nil e1', Nat.zero_le _⟩) (fun i σ H' _ h => (fun (⟨_, _, _, _, _, _, _, _, _, _, k, _⟩ : ∃ _ _ _ _ _ _ _ _, ∃ _ : List Unit, _ ∧ Same _ _ ∧ _) => .of (k _ _ e5)) ((hIv _ _ _).mp h)) ?_ ?_
    rotate_left
    · rintro σ' H6 hinv
      obtain ⟨pf, v5, v6, v7, v8, v9, v10, v11, us, rfl, s6, sd, ul⟩ := (hIv _ _ _).mp hinv
      walk_at "rd"
      have ul : us.length ≤ 12 := ul
      rw [hn] at sd
      exact q pf H6 us (s05.trans s6) (sd.seq PapOk.keep) (by omega)
    rintro i x σ' H6 hi hinv
    obtain ⟨pf, v5, v6, v7, v8, v9, v10, v11, us, rfl, s6, sd, ul⟩ := (hIv _ _ _).mp hinv
    have i2 : i < 2 := (List.getElem?_eq_some_iff.mp hi).1
    obtain ⟨a, rfl, pap⟩ : ∃ a, x = V.ref a ∧ PapOk 8 n (M.rooms.map (·.1)) H5 a () := by
      obtain rfl | rfl : i = 0 ∨ i = 1 := by omega
      · cases hi; exact ⟨p1, rfl, pap1⟩
      · cases hi; exact ⟨p2, rfl, pap2⟩
    have papa := PapOk.keep _ _ _ _ s6 pap
    obtain ⟨zq, za, zp, zl, zok⟩ := id papa
    obtain ⟨qs, w1, w2, w3⟩ := id sd
    walk_at "rd"
    refine seq_step ?_
    walk_at "rd"
    refine ⟨_, .of za, fun pv H7 s7 f7 e7 => ?_⟩
    intro pl2 H8 s8 f8 e8
    have s68 := s7.trans s8
    refine ⟨_, s68 _ _ w1, _, e8, small1000' (by simp; omega), fun pf2 H9 s9 f9 e9 => ?_⟩
    have s69 := s68.trans s9
    have papv : PapOk 9 n (M.rooms.map (·.1)) H8 pv () := ⟨zq.reverse, by rw [s8 _ _ e7, List.map_reverse], fun z hz => PpAt.keep _ _ _ _ s68 (zp z (List.mem_reverse.mp hz)), by rw [List.length_reverse]; omega, fun z hz => zok z (List.mem_reverse.mp hz)⟩
    have d8 : Same H8 (delH pf2 H9) := same_delN f9 s9
    have d6 : Same H6 (delH pf2 H9) := fun b o e => d8 _ _ (s68 _ _ e)
    have sd9 : SeqD (PapOk 9 n (M.rooms.map (·.1))) H9 pf2 (us ++ [(), ()]) := by
      refine ⟨qs ++ [a, pv], by rw [e9, List.map_append]; rfl, by rw [List.length_append, List.length_append, w2]; rfl, fun j r u h1 h2 => ?_⟩
      by_cases cj : j < qs.length
      · rw [List.getElem?_append_left cj] at h1
        rw [List.getElem?_append_left (by omega)] at h2
        exact PapOk.keep _ _ _ _ (fun b o e => d6 _ _ (del_of e).2) (w3 j r u h1 h2)
      · rw [List.getElem?_append_right (by omega)] at h1
        rcases hj : j - qs.length with _ | _ | k
        · rw [hj] at h1; cases h1; exact PapOk.keep _ _ _ _ d6 papa.up
        · rw [hj] at h1; cases h1; exact PapOk.keep _ _ _ _ d8 papv
        · rw [hj] at h1; simp at h1
    have f59' : H5 pf2 = none := (s6.trans s68).free f9
    have f69 : H6 pf2 = none := s68.free f9
    have za9 := s69 _ _ za
    intro pn Ha sa fa ea
    refine ⟨a, pn, _, rfl, rfl, sa _ _ za9, ea, ?_⟩
    refine ⟨_, rfl, ?_⟩
    by_cases cz : zq = []
    · subst cz
      refine if_f rfl ?_
      exact (hIv _ _ _).mpr ⟨pf2, _, _, _, _, _, _, _, _, rfl, s6.trans (s69.trans sa), sd9.keep PapOk.keep sa, by rw [List.length_append]; show us.length + 2 ≤ _; omega⟩
    refine if_t (by cases zq with | nil => exact absurd rfl cz | cons a b => rfl) ?_
    have sd9 := sd9.keep PapOk.keep sa
    have e9 := sa _ _ e9
    have s69 := s69.trans sa
    have zaa := s69 _ _ za
    clear e8 e7 papv d8 d6 sa fa ea w1 w3 s8 s9 s68 s7
    have zpos := List.length_pos_iff.mpr cz
    refine seq_step ?_
    walk_at "rd"
    refine ⟨_, .inl (.of zaa), ?_⟩
    rw [List.length_map]
    have ma := fm_pos (c := c) (m := (zq.length : Int)) (by omega)
    obtain ⟨k, hk⟩ : ∃ k : Nat, c.fmod (zq.length : Int) = (k : Int) := ⟨(c.fmod (zq.length : Int)).toNat, by omega⟩
    rw [hk] at ma ⊢
    have hkl : k < zq.length := by omega
    obtain ⟨z, hz⟩ : ∃ z, zq[k]? = some z := ⟨_, List.getElem?_eq_getElem hkl⟩
    have hzm := List.mem_of_getElem? hz
    obtain ⟨zrm, zsz⟩ := zok z hzm
    refine ⟨by omega, ?_⟩
    refine seq_step ?_
    walk_at "rd"
    obtain ⟨pz0, ez0, _⟩ := PpAt.keep _ _ _ _ s69 (zp z hzm)
    refine ix_l (.of zaa) (by omega) (by rw [Int.toNat_natCast, List.getElem?_map, hz]; rfl) ?_
    refine ix_t (sqt ez0) (by decide) rfl ?_
    refine seq_step ?_
    refine lcr_src ?_
    walk_at "rd"
    rw [show ((M.watches.length : Int) + 1) = (n : Int) by rw [hn, hdm]; rfl]
    refine ⟨(rg_ok (by omega)).1, (rg_ok (by omega)).2, ?_⟩
    rw [Int.toNat_natCast]
    refine lcR_zone (M := fun _ _ => some 0) (by omega) (fun i Hg Yes hi sg hy => ?_) (fun pe0 ae Hb sb ze fe0 fae => ?_)
    · walk_at "rd"
      intro p1' Hh sh fh eh
      refine ⟨_, eh, by omega, by omega, by simp; exact small1000' (by omega), fun r Hi si fi ei => ?_⟩
      refine hy r Hi (sh.trans si) (sh.free fi) ?_
      rw [ei, show ((M.watches.length : Int) + 1) = (n : Int) by rw [hn, hdm]; rfl, Int.toNat_natCast]
      exact congrArg (fun x => some (HO.lst x)) (zrow_rep n (some 0))
    have w9 := e9
    have sdb := sd9.keep PapOk.keep sb
    have wb := sb _ _ e9
    have s6b := s69.trans sb
    have npf : ∀ {b : Addr}, Ha b = none → b ≠ pf2 := fun f y => by rw [y, w9] at f; cases f
    have d6b : Same H6 (delH pf2 Hb) := fun b o e => del_at (fun y => by rw [y, f69] at e; cases e) (s6b _ _ e)
    have zeb : ZoAt n (delH pf2 Hb) pe0 (fun _ _ => some 0) := ⟨ae, del_at (npf fe0) ze.top, ze.len, fun j b h => del_at (npf (fae b (List.mem_of_getElem? h))) (ze.row j b h), ze.nd⟩
    have papOf : ∀ {J : Hp} {p : Addr} {zs : List (Addr × (Str × Mx))}, Same H6 (delH pf2 J) → delH pf2 J p = some (.lst (zs.map fun z => V.ref z.1)) → zs.length ≤ 9 → (∀ z ∈ zs, z ∈ zq ∨ (PpAt n (delH pf2 J) z.1 z.2 ∧ z.2.1 ∈ M.rooms.map (·.1) ∧ SzM 2000 z.2.2)) → PapOk 9 n (M.rooms.map (·.1)) (delH pf2 J) p () := fun {J p zs} d e l h => ⟨zs, e, fun z hz => (h z hz).elim (fun k => PpAt.keep _ _ _ _ d (zp z k)) (·.1), l, fun z hz => (h z hz).elim (fun k => zok z k) (·.2)⟩
    have s5b : Same H5 Hb := s6.trans s6b
    clear ze e9 w9 sd9 s69 za9 zaa ez0 sb fe0 fae s6b
    walk_at "rd"
    refine seq_step ?_
    walk_at "rd"
    refine ⟨_, rfl, .inl ⟨rfl, _, .of wb⟩, ?_⟩
    walk_at "rd"
    have zab := (del_of (d6b _ _ za)).2
    refine ⟨_, .of zab, fun q1 Hc sc fc ec => ?_⟩
    rw [cutTo (by rw [List.length_map]; omega), ← List.map_take] at ec
    refine ⟨_, .of (sc _ _ zab), fun q2 Hd sd' fd ed => ?_⟩
    rw [show ((k : Int) + 1) = ((k + 1 : Nat) : Int) from rfl, cut_from (by rw [List.length_map]; omega), ← List.map_drop] at ed
    refine ⟨_, sd' _ _ ec, _, ed, small1000' (by simp; omega), fun q3 He se fe ee => ?_⟩
    rw [← List.map_append] at ee
    have sbe := sc.trans (sd'.trans se)
    have we := sbe _ _ wb
    have d6e : Same H6 (delH pf2 He) := d6b.trans (del_same sbe)
    obtain ⟨it, i1, i2, i3⟩ := (sdb.keep PapOk.keep sbe).app PapOk.keep (q := q3) (x := ()) (papOf d6e (del_at (fun y => by rw [y, (sc.trans sd') _ _ wb] at fe; cases fe) ee) (by simp; omega) fun z hz => .inl (by
      rcases List.mem_append.mp hz with h | h
      · exact List.mem_of_mem_take h
      · exact List.mem_of_mem_drop h))
    refine app_at i1 (by rw [i2, List.length_append]; show us.length + 2 ≤ 1000; omega) ?_
    have d6f : Same H6 (delH pf2 (upd He pf2 (.lst (it ++ [.ref q3])))) := d6e.trans del_upd
    have zef : ZoAt n (delH pf2 (upd He pf2 (.lst (it ++ [.ref q3])))) pe0 (fun _ _ => some 0) := ZoAt.keep _ _ _ _ ((del_same sbe).trans del_upd) zeb
    have s5f : Same H5 (upd He pf2 (.lst (it ++ [.ref q3]))) := same_updN f59' (s5b.trans sbe)
    generalize upd He pf2 (.lst (it ++ [.ref q3])) = Hf at *
    clear ec ed ee we i1 i2 d6e sbe sc sd' se fc fd fe zab sdb wb d6b zeb s5b
    obtain ⟨_, wf, _⟩ := id i3
    walk_at "rd"
    refine seq_step ?_
    walk_at "rd"
    refine ⟨_, rfl, .inl ⟨rfl, _, .of wf⟩, ?_⟩
    walk_at "rd"
    have zaf := (del_of (d6f _ _ za)).2
    refine ⟨_, .of zaf, fun q1 Hc sc fc ec => ?_⟩
    rw [cutTo (by rw [List.length_map]; omega), ← List.map_take] at ec
    refine ⟨M.watches.length, rfl, by omega, fun pev aev Hd sd' zev fev faev => ?_⟩
    intro tq He se fe ee pl3 Hg sg fg eg
    refine ⟨_, (sd'.trans (se.trans sg)) _ _ ec, _, eg, small1000' (by simp; omega), fun q2 Hh sh fh eh => ?_⟩
    have sfh := sc.trans (sd'.trans (se.trans (sg.trans sh)))
    refine ⟨_, .of (sfh _ _ zaf), fun q3 Hi si fi ei => ?_⟩
    rw [show ((k : Int) + 1) = ((k + 1 : Nat) : Int) from rfl, cut_from (by rw [List.length_map]; omega), ← List.map_drop] at ei
    refine ⟨_, si _ _ eh, _, ei, small1000' (by simp; omega), fun q4 Hj sj fj ej => ?_⟩
    have ej : Hj q4 = some (.lst ((zq.take k ++ [(tq, (z.2.1, evM))] ++ zq.drop (k + 1)).map fun z => V.ref z.1)) := by
      rw [ej, List.map_append, List.map_append]; rfl
    have sfj := sfh.trans (si.trans sj)
    have wj := sfj _ _ wf
    have d6j : Same H6 (delH pf2 Hj) := d6f.trans (del_same sfj)
    have wc := sc _ _ wf
    have npc : ∀ {b : Addr}, Hc b = none → b ≠ pf2 := fun f y => by rw [y, wc] at f; cases f
    have sdj := sd'.trans (se.trans (sg.trans (sh.trans (si.trans sj))))
    have pev1 : PpAt n (delH pf2 Hj) tq (z.2.1, evM) := ⟨pev, del_at (npc (sd'.free fe)) ((sg.trans (sh.trans (si.trans sj))) _ _ ee), aev, by
      have zj := zev.keep (se.trans (sg.trans (sh.trans (si.trans sj))))
      rw [← hdm, ← hn] at zj
      exact ⟨del_at (npc fev) zj.top, zj.len, fun i b h => del_at (npc (faev b (List.mem_of_getElem? h))) (zj.row i b h), zj.nd⟩⟩
    obtain ⟨it, i1, i2, i3⟩ := (i3.keep PapOk.keep sfj).app PapOk.keep (q := q4) (x := ()) (papOf d6j (del_at (fun y => by rw [y, (sfh.trans si) _ _ wf] at fj; cases fj) ej) (by simp; omega) fun y hy => by
      rcases List.mem_append.mp hy with h | h
      · rcases List.mem_append.mp h with h | h
        · exact .inl (List.mem_of_mem_take h)
        · cases List.mem_singleton.mp h
          exact .inr ⟨pev1, zrm, ev_szD.mono (by decide)⟩
      · exact .inl (List.mem_of_mem_drop h))
    refine app_at i1 (by rw [i2]; simp only [List.length_append, List.length_cons, List.length_nil]; omega) ?_
    have d6k : Same H6 (delH pf2 (upd Hj pf2 (.lst (it ++ [.ref q4])))) := d6j.trans del_upd
    have zek : ZoAt n (delH pf2 (upd Hj pf2 (.lst (it ++ [.ref q4])))) pe0 (fun _ _ => some 0) := ZoAt.keep _ _ _ _ ((del_same sfj).trans del_upd) zef
    have s5k : Same H5 (upd Hj pf2 (.lst (it ++ [.ref q4]))) := same_updN f59' (s5f.trans sfj)
    generalize upd Hj pf2 (.lst (it ++ [.ref q4])) = Hk at *
    clear ec ee eg eh ei ej wj i1 i2 d6j sfj sfh sdj pev1 npc wc wf zaf d6f zef s5f sc sd' se sg sh si sj zev
    obtain ⟨_, wk, _⟩ := id i3
    walk_at "rd"
    refine seq_step ?_
    walk_at "rd"
    refine ⟨_, rfl, .inl ⟨rfl, _, .of wk⟩, ?_⟩
    walk_at "rd"
    have zak := (del_of (d6k _ _ za)).2
    intro tq Hl sl fl el pl3 Hm sm fm em
    refine ⟨_, (sl.trans sm) _ _ zak, _, em, small1000' (by simp; omega), fun q1 Hn sn fn en => ?_⟩
    have en : Hn q1 = some (.lst ((zq ++ [((tq, (z.2.1, (fun _ _ => some 0 : Mx))) : Addr × (Str × Mx))]).map fun z => V.ref z.1)) := by rw [en, List.map_append]; rfl
    have skn := sl.trans (sm.trans sn)
    have d6n : Same H6 (delH pf2 Hn) := d6k.trans (del_same skn)
    have npk : ∀ {b : Addr}, Hk b = none → b ≠ pf2 := fun f y => by rw [y, wk] at f; cases f
    obtain ⟨it, i1, i2, i3⟩ := (i3.keep PapOk.keep skn).app PapOk.keep (q := q1) (x := ()) (papOf d6n (del_at (npk ((sl.trans sm).free fn)) en) (by simp; omega) fun y hy => by
      rcases List.mem_append.mp hy with h | h
      · exact .inl h
      · cases List.mem_singleton.mp h
        exact .inr ⟨⟨pe0, del_at (npk fl) ((sm.trans sn) _ _ el), ZoAt.keep _ _ _ _ (del_same skn) zek⟩, zrm, fun i j v e => by
          have e : some (0 : Int) = some v := e
          cases e; exact (show Sz 0 0 by unfold Sz; decide).mono (by decide)⟩)
    refine app_at i1 (by rw [i2]; simp only [List.length_append, List.length_cons, List.length_nil]; omega) ?_
    have d6o : Same H6 (delH pf2 (upd Hn pf2 (.lst (it ++ [.ref q1])))) := d6n.trans del_upd
    have s5o : Same H5 (upd Hn pf2 (.lst (it ++ [.ref q1]))) := same_updN f59' (s5k.trans skn)
    generalize upd Hn pf2 (.lst (it ++ [.ref q1])) = Ho at *
    clear el em en i1 i2 d6n skn npk wk zak d6k zek s5k sl sm sn
    obtain ⟨_, wo, _⟩ := id i3
    walk_at "rd"
    refine ⟨_, rfl, .inl ⟨rfl, _, .of wo⟩, ?_⟩
    refine lcg_src ?_
    walk_at "rd"
    have zao := (del_of (d6o _ _ za)).2
    refine ⟨⟨_, .of zao⟩, ?_⟩
    refine lcMP (R := fun H q x => PpAt n (delH pf2 H) q x) (P := fun (z y : Str × Mx) => y.1 = z.1 ∧ SzM 2000 y.2) (fun _ _ _ _ s h => PpAt.keep _ _ _ _ (del_same s) h) (zs := zq.map (·.2)) zao (by simp) (by simp; omega) (fun i x y H2 Yes hx hy2 s2' hy => ?_) (fun D H2 ys s2' fD hsd yl yp => ?_)
    · rw [List.getElem?_map] at hx hy2
      obtain ⟨w, hw, rfl⟩ := Option.map_eq_some_iff.mp hx
      rw [hw] at hy2
      obtain rfl : w.2 = y := by simpa using hy2
      obtain ⟨pz, epz, az, zz⟩ := PpAt.keep _ _ _ _ (d6o.trans (del_sub.trans s2')) (zp w (List.mem_of_getElem? hw))
      refine gTup_of (sqt epz) rfl ?_
      walk_at "rd"
      refine ⟨pz, az, n, w.2.2, c.fdiv 7, 2000, rfl, zz, by omega, by omega, (zok w (List.mem_of_getElem? hw)).2, fun p as H3 M' s3 f3 fa3 z3 sz3 => ?_⟩
      intro t H4 s4 f4 e4
      have wo2 := s2' _ _ wo
      have np2 : ∀ {b : Addr}, H2 b = none → b ≠ pf2 := fun f y => by rw [y, wo2] at f; cases f
      refine hy t H4 (w.2.1, M') (s3.trans s4) ⟨rfl, sz3⟩ fun D acc fD eD => ?_
      have npD : ∀ {b : Addr}, H2 b = none → b ≠ D := fun f y => by rw [y, eD] at f; cases f
      have z4 := z3.keep s4
      exact ⟨p, del_at (np2 (s3.free f4)) (del_at (npD (s3.free f4)) e4), as, del_at (np2 f3) (del_at (npD f3) z4.top), z4.len, fun j b h => del_at (np2 (fa3 b (List.mem_of_getElem? h))) (del_at (npD (fa3 b (List.mem_of_getElem? h))) (z4.row j b h)), z4.nd⟩
    · obtain ⟨dqs, a1, a2, a3⟩ := hsd
      have yl : ys.length = zq.length := by rw [yl, List.length_map]
      have hD2 : delH pf2 H2 D = some (.lst ((dqs.zip ys).map fun z => V.ref z.1)) := by
        rw [show (fun z : Addr × (Str × Mx) => V.ref z.1) = V.ref ∘ Prod.fst from rfl, ← List.map_map, List.map_fst_zip (by omega)]
        exact del_at (fun y => by rw [y, wo] at fD; cases fD) a1
      obtain ⟨it, i1, i2, i3⟩ := (i3.keep PapOk.keep s2').app PapOk.keep (q := D) (x := ()) (papOf (d6o.trans (del_same s2')) hD2 (by rw [List.length_zip]; omega) fun y hy => .inr (by
        obtain ⟨j, hj, e⟩ := List.mem_iff_getElem.mp hy
        have h1 := List.getElem?_eq_getElem hj
        rw [e, List.getElem?_zip_eq_some] at h1
        refine ⟨PpAt.keep _ _ _ _ (del_same del_sub) (a3 j y.1 y.2 h1.1 h1.2), ?_⟩
        obtain ⟨w, hw⟩ : ∃ w, zq[j]? = some w := ⟨_, List.getElem?_eq_getElem (by rw [← yl]; exact (List.getElem?_eq_some_iff.mp h1.2).1)⟩
        obtain ⟨k1, k2⟩ := yp j w.2 y.2 (by rw [List.getElem?_map, hw]; rfl) h1.2
        exact ⟨by rw [k1]; exact (zok w (List.mem_of_getElem? hw)).1, k2⟩))
      refine app_at i1 (by rw [i2]; simp only [List.length_append, List.length_cons, List.length_nil]; omega) ?_
      exact (hIv _ _ _).mpr ⟨pf2, _, _, _, _, _, _, _, _, rfl, same_updN f59' (s5o.trans s2'), i3, by simp only [List.length_append, List.length_cons, List.length_nil]; omega⟩
def spLaw (K : PySem.W.Frag) : Sp := fun vs H Q _ => ∃ (a : Addr) (ns : List Int), vs = [.ref a] ∧ SqL K H a (ns.map V.int) ∧ ns.length ≤ 63 ∧ ∀ H', Q (.bl true) H'
theorem ok_law (T : Top K mg) : FnOk P w K mg base CX0 11 T.f_law T.d_law ["_law_script"] (spLaw K) := by
  refine T.F_law.ok sc_law (fun vs H Q E h => ?_) (fun cdv A outer s H vs Q E hr h => ?_)
  · obtain ⟨a, ns, rfl, _⟩ := h; rfl
  · obtain ⟨a, cs, rfl, hS, h63, q⟩ := h
    refine ⟨_, (pss_cons (ps_set (i := 1) sc_law.nd rfl (.inl rfl) (pe_call (ok_l_cell_at T) (hr.mono (by decide)) rfl T.g_l_cell_at T.F_l_cell_at.kp T.b_l_cell_at .nil pass0 (pa_cons (pv 0) (pa_cons pe_int pa_nil))))
      (pss_cons (ps_set (i := 2) sc_law.nd rfl (.inl rfl) (pe_slice (sl_listA (K := K) rfl) (pe_ix (ix_listA (K := K) rfl) (pe_lstN (pa_cons (pe_lstN (pa_cons pe_str (pa_cons pe_str pa_nil))) (pa_cons (pe_lstN (pa_cons pe_str (pa_cons pe_str pa_nil))) (pa_cons (pe_lstN (pa_cons pe_str (pa_cons pe_str pa_nil))) pa_nil)))) (pe_op op_modN (pe_op op_fdivZ (pv 1) pe_int) pe_int) (fun _ _ => rfl)) po_none (po_some (pe_op op_modN (pv 1) pe_int))))
      (pss_cons (ps_set (i := 3) sc_law.nd rfl (.inl rfl) (pe_ix (ix_listA (K := K) rfl) (pe_lstN (pa_cons pe_int (pa_cons (pe_op op_pow pe_int pe_int) pa_nil))) (pe_op op_modN (pe_op op_fdivZ (pv 1) pe_int) pe_int) (fun _ _ => rfl)))
      (pss_cons (ps_asg (pe_call (ok_l_parts T) (hr.mono (by decide)) rfl T.g_l_parts T.F_l_parts.kp T.b_l_parts .nil pass0 (pa_cons (pv 0) (pa_cons (pv 2) (pa_cons (pv 3) pa_nil)))) (pg_tupA (K := K) (n := 3) rfl (by rfl) (pgs_cons (pg_name (i := 4) sc_law.nd rfl (.inl rfl)) (pgs_cons (pg_name (i := 5) sc_law.nd rfl (.inl rfl)) (pgs_cons (pg_name (i := 6) sc_law.nd rfl (.inl rfl)) pgs_nil)))))
      (pss_cons (lc_vsS (vs := [17]) (ps_setLc (i := 7) (own := [("_law_door", 17)]) (g := gName 17) (tt := tYes) rfl sc_law.nd rfl rfl (sw_true rfl rfl rfl (by decide +kernel)) (pi_listA (K := K) rfl (pv 5)) (blkOk_by (own := [("_law_door", 17)]) (N := ["_law_script", "_law_first", "_law_watches", "_law_unit", "_law_rooms", "_law_doors", "_law_goal", "_law_shut", "_law_name", "_law_machine", "_law_stood", "_law_broken", "_law_room", "_law_values", "_law_guard", "_law_paper", "_law_told", "_law_door", "_law_stay_here"]) (sc := defScope s_law) (by decide +kernel)) (fun _ _ _ _ _ => (pg_name (i := 17) sc_law.nd rfl (.inl rfl))) (fun _ _ _ _ _ => pts_nil) (fun _ _ _ _ _ => (pe_makeN T.mk_Door (ok_Door_init T) (hr.mono (by decide)) rfl T.g_Door T.b_Door_init .nil pass0 (pa_cons (pe_ix (ix_tupA (K := K) rfl) (pv 17) pe_int (fun _ _ => rfl)) (pa_cons (pe_ix (ix_tupA (K := K) rfl) (pv 17) pe_int (fun _ _ => rfl)) (pa_cons (pe_callTy (call_listA (K := K) rfl) (by rfl) T.m_list (by decide +kernel) (pa_cons (pe_ix (ix_tupA (K := K) rfl) (pv 17) pe_int (fun _ _ => rfl)) pa_nil)) (pa_cons (pe_callTy (call_listA (K := K) rfl) (by rfl) T.m_list (by decide +kernel) (pa_cons (pe_ix (ix_tupA (K := K) rfl) (pv 17) pe_int (fun _ _ => rfl)) pa_nil)) (pa_cons (pe_ix (ix_tupA (K := K) rfl) (pv 17) pe_int (fun _ _ => rfl)) pa_nil)))))))) rfl)
      (pss_cons (ps_set (i := 9) sc_law.nd rfl (.inl rfl) (pe_makeN T.mk_Machine (ok_Machine_init T) (hr.mono (by decide)) rfl T.g_Machine T.b_Machine_init .nil passL (pa_cons (pe_callTy (call_listA (K := K) rfl) (by rfl) T.m_list (by decide +kernel) (pa_cons (pv 2) pa_nil)) (pa_cons (lc_vs (vs := [8, 18]) (pe_lc (own := [("_law_name", 8), ("_law_stay_here", 18)]) (tt := tYes) rfl sc_law.nd (pi_listA (K := K) rfl (pv 4)) (blkOk_by (own := [("_law_name", 8), ("_law_stay_here", 18)]) (N := ["_law_script", "_law_first", "_law_watches", "_law_unit", "_law_rooms", "_law_doors", "_law_goal", "_law_shut", "_law_name", "_law_machine", "_law_stood", "_law_broken", "_law_room", "_law_values", "_law_guard", "_law_paper", "_law_told", "_law_door", "_law_stay_here"]) (sc := defScope s_law) (by decide +kernel)) (fun _ _ _ _ _ => (pg_tupA (K := K) (n := 2) rfl (by rfl) (pgs_cons (pg_name (i := 8) sc_law.nd rfl (.inl rfl)) (pgs_cons (pg_name (i := 18) sc_law.nd rfl (.inl rfl)) pgs_nil)))) (fun _ _ _ _ _ => pts_nil) (fun _ _ _ _ _ => (pe_tupN (pa_cons (pv 8) (pa_cons (pe_callTy (call_listA (K := K) rfl) (by rfl) T.m_list (by decide +kernel) (pa_cons (pv 18) pa_nil)) pa_nil))))) rfl) (pa_cons (pv 7) pa_nil)))))
      (pss_cons (ps_set (i := 10) sc_law.nd rfl (.inl rfl) (pe_call (ok_l_steps T) (hr.mono (by decide)) rfl T.g_l_steps T.F_l_steps.kp T.b_l_steps .nil pass0 (pa_cons (pv 4) (pa_cons (pv 5) (pa_cons (pv 6) (pa_cons (pe_slice (sl_listA (K := K) rfl) (pv 0) (po_some pe_int) (po_some pe_int)) (pa_cons (pv 2) (pa_cons (pv 3) pa_nil))))))))
      (pss_cons (ps_set (i := 11) sc_law.nd rfl (.inl rfl) pe_bl)
      (pss_cons (ps_for PassesOwn.never rfl (pi_listA (K := K) rfl (pv 10)) (pg_tupA (K := K) (n := 2) rfl (by rfl) (pgs_cons (pg_name (i := 12) sc_law.nd rfl (.inl rfl)) (pgs_cons (pg_name (i := 13) sc_law.nd rfl (.inl rfl)) pgs_nil))) (pss_one (ps_for PassesOwn.never rfl (pi_listA (K := K) rfl (pv 6)) (pg_tupA (K := K) (n := 2) rfl (by rfl) (pgs_cons (pg_name (i := 8) sc_law.nd rfl (.inl rfl)) (pgs_cons (pg_name (i := 14) sc_law.nd rfl (.inl rfl)) pgs_nil))) (pss_one (ps_if (PW.pt (pw_and (pt_cmpR op_eq (pv 8) (pv 12) (nomark _)) (pw_and1 (pt_val (pe_call (ok_l_meets T) (hr.mono (by decide)) rfl T.g_l_meets T.F_l_meets.kp T.b_l_meets .nil pass0 (pa_cons (pv 14) (pa_cons (pv 13) pa_nil))))))) (pss_one (ps_set (i := 11) sc_law.nd rfl (.inl rfl) pe_bl)) pss_nil)))))
      (pss_cons (ps_for PassesOwn.never rfl (pi_listA (K := K) rfl (pe_call (ok_l_papers T) (hr.mono (by decide)) rfl T.g_l_papers T.F_l_papers.kp T.b_l_papers .nil pass0 (pa_cons (pv 9) (pa_cons (pv 6) (pa_cons (pe_op op_modN (pe_op op_fdivZ (pv 1) pe_int) (pe_op op_pow pe_int pe_int)) (pa_cons (pe_callB call_len_seq (by rfl) T.m_len (by decide +kernel) (pa_cons (pv 2) pa_nil)) pa_nil)))))) (pg_name (i := 15) sc_law.nd rfl (.inl rfl)) (pss_cons (ps_set (i := 16) sc_law.nd rfl (.inl rfl) (pe_call (ok_lets_by T) (hr.mono (by decide)) rfl T.g_lets_by T.F_lets_by.kp T.b_lets_by .nil passL (pa_cons (pv 9) (pa_cons (pv 6) (pa_cons (pv 15) pa_nil)))))
      (pss_one (ps_if (PW.pt (pw_or (pt_not (pt_val (pe_callB (call_isiA (K := K) rfl) (by rfl) T.m_isinstance (by decide +kernel) (pa_cons (pv 16) (pa_cons (pe_bltn (v := .ty "bool") (u := .type "bool") (by rfl) T.m_bool (by decide +kernel) rfl) pa_nil))))) (pw_or1 (PW.pt (pw_and (pt_val (pv 16)) (pw_and1 (pt_val (pv 11)))))))) (pss_one (ps_ret pe_bl)) pss_nil))))
      (pss_one (ps_ret pe_bl)))))))))))), ?_⟩
    refine seq_step ?_
    walk_at "rd"
    refine ⟨a, cs, 0, rfl, hS, by decide, ?_⟩
    generalize cs.getD (0 : Int).toNat 0 = c0
    walk_at "rd"
    refine seq_step ?_
    walk_at "rd"
    intro p1 H1 s1 f1 e1 p2 H2 s2 f2 e2 p3 H3 s3 f3 e3 p4 H4 s4 f4 e4
    have m3 := fm_pos (c := c0.fdiv 3) (m := 3) (by decide)
    obtain ⟨j, hj⟩ : ∃ n : Nat, (c0.fdiv 3).fmod 3 = (n : Int) := ⟨((c0.fdiv 3).fmod 3).toNat, by omega⟩
    rw [hj] at m3 ⊢
    obtain ⟨W2, pj, hpj, ej, W2l, W2o, W2n⟩ : ∃ (W2 : List Str) (pj : Addr), ([V.ref p1, V.ref p2, V.ref p3] : List V)[((j : Nat) : Int).toNat]? = some (.ref pj) ∧ H4 pj = some (.lst (W2.map V.str)) ∧ W2.length = 2 ∧ (∀ x ∈ W2, okName x = true) ∧ W2.Nodup := by
      obtain rfl | rfl | rfl : j = 0 ∨ j = 1 ∨ j = 2 := by omega
      · exact ⟨["x", "y"], p1, rfl, by walk_at "hp", rfl, by decide +kernel, by decide +kernel⟩
      · exact ⟨["in", "i"], p2, rfl, by walk_at "hp", rfl, by decide +kernel, by decide +kernel⟩
      · exact ⟨["y", "yy"], p3, rfl, by walk_at "hp", rfl, by decide +kernel, by decide +kernel⟩
    refine ix_l (.of e4) m3.1 hpj ?_
    have mw := fm_pos (c := c0) (m := 3) (by decide)
    obtain ⟨wn, hwn⟩ : ∃ n : Nat, c0.fmod 3 = (n : Int) := ⟨(c0.fmod 3).toNat, by omega⟩
    rw [hwn]
    refine ⟨_, rfl, _, .of ej, fun pw H5 s5 f5 e5 => ?_⟩
    rw [cutTo (by rw [List.length_map]; omega), ← List.map_take] at e5
    have Wl : (W2.take wn).length ≤ 2 := by rw [List.length_take]; omega
    have Wo : ∀ x ∈ W2.take wn, okName x = true := fun x hx => W2o x (List.mem_of_mem_take hx)
    have Wn : (W2.take wn).Nodup := W2n.sublist (List.take_sublist _ _)
    generalize W2.take wn = W at *
    walk_at "rd"
    refine seq_step ?_
    walk_at "rd"
    intro pu H6 s6 f6 e6
    have m2 := fm_pos (c := c0.fdiv 9) (m := 2) (by decide)
    obtain ⟨unit, hu, u1, u2⟩ : ∃ unit : Int, ([V.int 1, V.int (10 ^ 12)] : List V)[((c0.fdiv 9).fmod 2).toNat]? = some (.int unit) ∧ 1 ≤ unit ∧ unit ≤ 10 ^ 12 := by
      obtain h | h : (c0.fdiv 9).fmod 2 = 0 ∨ (c0.fdiv 9).fmod 2 = 1 := by omega
      · exact ⟨1, by rw [h]; rfl, by decide, by decide⟩
      · exact ⟨10 ^ 12, by rw [h]; rfl, by decide, by decide⟩
    refine ix_l (.of e6) m2.1 hu ?_
    walk_at "rd"
    refine seq_step ?_
    walk_at "rd"
    refine ⟨a, pw, cs, W, unit, rfl, by walk_at "hp", by walk_at "hp", Wo, Wn, Wl, u1, u2, fun pq pr pd pg H7 rs ds gs s7 e7 hrs hds hgs mok msz r3 d5 g2 gok gsz => ?_⟩
    walk_at "rd"
    refine gTup_of (sqt e7) rfl ?_
    walk_at "rd"
    refine seq_step ?_
    refine lcg_src ?_
    walk_at "rd"
    obtain ⟨dqs, dq1, dq2, dq3⟩ := id hds
    refine ⟨⟨_, .of dq1⟩, ?_⟩
    refine lcM (R := DoorAt T.C_Door) (fun _ _ _ _ s h => DoorAt.keep s h) (F := id) (zs := ds) dq1 (by simp [dq2]) (by simp; omega) (fun i x z H8 Yes hx hz s8 hy => ?_) (fun dl H8 s8 f8 hdl => ?_)
    · rw [List.getElem?_map] at hx
      obtain ⟨qd, h1, rfl⟩ := Option.map_eq_some_iff.mp hx
      obtain ⟨g, n, ez, ⟨gq, g1, g2', g3⟩, hn⟩ := dq3 i qd z h1 hz
      have ez8 := s8 _ _ ez
      walk_at "rd"
      simp only [tMakeN]
      walk_at "rd"
      refine ix_t (sqt ez8) (by decide) rfl ?_
      refine ix_t (sqt ez8) (by decide) rfl ?_
      refine ix_t (sqt ez8) (by decide) rfl ?_
      refine ⟨_, rfl, _, .inl (.of (s8 _ _ g1)), fun g' H9 s9 f9 e9 => ?_⟩
      refine ix_t (sqt (s9 _ _ ez8)) (by decide) rfl ?_
      refine ⟨_, rfl, _, .inl (.of (s9 _ _ (s8 _ _ hn))), fun n' Ha sa fa ea => ?_⟩
      refine ix_t (sqt (sa _ _ (s9 _ _ ez8))) (by decide) rfl ?_
      intro p dx Hb sb fb eb
      refine ⟨p, dx, g', n', z.st, z.en, z.sg, _, _, rfl, eb, sb _ _ (sa _ _ e9), sb _ _ ea, fun g2 n2 Hc kc fg fn ec eg en => ?_⟩
      have sac : Same Ha Hc := fun b o e => kc b o (sb _ _ e) (fun y => by rw [y, fb] at e; cases e)
      have s8c := s9.trans (sa.trans sac)
      have sx : Same H7 (cutH H7 H8 Hc) := cut_same (s8.trans s8c)
      refine ⟨rfl, hy p Hc s8c ⟨dx, g2, n2, cut_new ((s9.trans sa).free fb) ec, ⟨gq, cut_new ((s9.trans (sa.trans sb)).free fg) eg, g2', fun i q x h1 h2 => (g3 i q x h1 h2).keep sx⟩, cut_new ((s9.trans (sa.trans sb)).free fn) en⟩⟩
    walk_at "rd"
    refine seq_step ?_
    walk_at "rd"
    simp only [tMakeN]
    walk_at "rd"
    refine ⟨_, .inl (.of ‹_›), fun w' H9 s9 f9 e9 => ?_⟩
    refine lcg_src ?_
    walk_at "rd"
    obtain ⟨rqs, rq1, rq2, rq3⟩ := id hrs
    have s79 := s8.trans s9
    refine ⟨⟨_, .of (s79 _ _ rq1)⟩, ?_⟩
    refine lcM (R := RqAt) RqAt.keep' (F := id) (zs := rs) (s79 _ _ rq1) (by simp [rq2]) (by simp; omega) (fun i x z Ha Yes hx hz sa hy => ?_) (fun rq Ha sa fa hrq => ?_)
    · rw [List.getElem?_map] at hx
      obtain ⟨qi, h1, rfl⟩ := Option.map_eq_some_iff.mp hx
      obtain ⟨g, e, gq, g1, g2, g3⟩ := rq3 i qi z h1 hz
      have s7a := s79.trans sa
      refine gTup_of (sqt (s7a _ _ e)) rfl ?_
      walk_at "rd"
      refine ⟨_, .inl (.of (s7a _ _ g1)), fun l Hb sb fb eb => ?_⟩
      intro t Hc sc fc ec
      have sx : Same H7 (cutH H9 Ha Hc) := s79.trans (cut_same (sa.trans (sb.trans sc)))
      exact hy t Hc (sb.trans sc) ⟨l, cut_new (sb.free fc) ec, gq, cut_new fb (sc _ _ eb), g2, fun i q x h1 h2 => (g3 i q x h1 h2).keep sx⟩
    have hrq : RsAt Ha rq rs := by simpa using hrq
    have hdl : DsAt T.C_Door H8 dl ds := by simpa using hdl
    walk_at "rd"
    intro pm dm Hb sb fb eb
    refine ⟨pm, dm, w', rq, dl, MP W rs ds, rfl, eb, by walk_at "hp", hrq.keep sb, hdl.keep (s9.trans (sa.trans sb)), mok, fun Hc off hm _ => ⟨rfl, ?_⟩⟩
    have sac : Same Ha Hc := fun b o e => off.2 b o (sb _ _ e) fun y => by rw [y, fb] at e; cases e
    clear sb
    have s7c := s79.trans (sa.trans sac)
    have s0c : Same H Hc := s1.trans (s2.trans (s3.trans (s4.trans (s5.trans (s6.trans (s7.trans s7c))))))
    have gl60 : ∀ r ∈ (MP W rs ds).rooms, r.2.length ≤ 60 := fun r hr => mok.rsz r hr
    refine seq_step ?_
    walk_at "rd"
    refine ⟨_, s0c.seq hS, fun pc Hd sd fd ed => ?_⟩
    obtain ⟨cl, ecl, cll⟩ := cutInts (cs := cs) (a := 9) (b := 21) (by decide)
    have ed : Hd pc = some (.lst (cl.map V.int)) := by rw [← ecl]; exact ed
    have s7d := s7c.trans sd
    have s0d := s0c.trans sd
    have hwd : Hd pw = some (.lst (W.map V.str)) := (s6.trans (s7.trans s7d)) _ _ e5
    refine ⟨pr, pd, pc, pw, _, MP W rs ds, cl, unit, rfl, hrs.keep s7d, hds.kept s7d, ed, by omega, hwd, mok, msz, (show rs.length ≤ 60 by omega), (show ds.length ≤ 60 by omega), gl60, fun d hd => mok.dsz d hd, u1, u2, fun pst He sds se hst st40 stok => ?_⟩
    have s7e := s7d.trans se
    have s0e := s0d.trans se
    refine seq_step ?_
    walk_at "rd"
    refine seq_step ?_
    refine for_li ?_
    walk_at "rd"
    obtain ⟨sqs, sq1, sq2, sq3⟩ := id hst
    obtain ⟨gqs, gq1, gq2, gq3⟩ := id (hgs.keep s7e)
    obtain ⟨Iv, hIv⟩ : ∃ Iv : Nat → L2.St → Hp → Prop, ∀ i σ' H', Iv i σ' H' ↔ (∃ v8 v12 v13 v14, ∃ b : Bool, σ' = [some (.ref a), some (.int c0), some (.ref pw), some (.int unit), some (.ref pr), some (.ref pd), some (.ref pg), some (.ref dl), v8, some (.ref pm), some (.ref pst), some (.bl b), v12, v13, v14, none, none, none, none] ∧ Same He H' ∧ (b = true → ∃ s ∈ sds, ∃ g ∈ gs, g.1 = s.1 ∧ meetG (MP W rs ds) g.2 (vOf s.2))) := ⟨_, fun _ _ _ => Iff.rfl⟩
    refine forL_by (xs := sqs.map V.ref) Iv ((hIv _ _ _).mpr ⟨_, _, _, _, false, rfl, Same.refl _, fun h => by cases h⟩) (fun i σ H' _ h => (fun (⟨_, _, _, _, _, _, k, _⟩ : ∃ _ _ _ _, ∃ _ : Bool, _ ∧ Same _ _ ∧ _) => .of (k _ _ sq1)) ((hIv _ _ _).mp h)) ?_ ?_
    · rintro i x σ' Hf hi hinv
      obtain ⟨v8, v12, v13, v14, b, rfl, sf, hb⟩ := (hIv _ _ _).mp hinv
      rw [List.getElem?_map] at hi
      obtain ⟨qs, h1, rfl⟩ := Option.map_eq_some_iff.mp hi
      obtain ⟨s, hs⟩ : ∃ s, sds[i]? = some s := ⟨_, List.getElem?_eq_getElem (by rw [← sq2]; exact (List.getElem?_eq_some_iff.mp h1).1)⟩
      have hsm := List.mem_of_getElem? hs
      obtain ⟨pvd, esd, hvd⟩ := sq3 i qs s h1 hs
      have sok := stok s hsm
      refine gTup_of (sqt (sf _ _ esd)) rfl ?_
      walk_at "rd"
      refine for_li ?_
      walk_at "rd"
      obtain ⟨Ig, hIg⟩ : ∃ Iv : Nat → L2.St → Hp → Prop, ∀ j σ' H', Iv j σ' H' ↔ (∃ v8 v14, ∃ b : Bool, σ' = [some (.ref a), some (.int c0), some (.ref pw), some (.int unit), some (.ref pr), some (.ref pd), some (.ref pg), some (.ref dl), v8, some (.ref pm), some (.ref pst), some (.bl b), some (.str s.1), some (.ref pvd), v14, none, none, none, none] ∧ Same He H' ∧ (b = true → ∃ s ∈ sds, ∃ g ∈ gs, g.1 = s.1 ∧ meetG (MP W rs ds) g.2 (vOf s.2))) := ⟨_, fun _ _ _ => Iff.rfl⟩
      refine forL_by (xs := gqs.map V.ref) Ig ((hIg _ _ _).mpr ⟨_, _, b, rfl, sf, hb⟩) (fun i σ H' _ h => (fun (⟨_, _, _, _, k, _⟩ : ∃ _ _, ∃ _ : Bool, _ ∧ Same _ _ ∧ _) => .of (k _ _ gq1)) ((hIg _ _ _).mp h)) ?_ ?_
      · rintro j x σ' Hg hj hing
        obtain ⟨v8, v14, b, rfl, sg, hb⟩ := (hIg _ _ _).mp hing
        rw [List.getElem?_map] at hj
        obtain ⟨qg, h2, rfl⟩ := Option.map_eq_some_iff.mp hj
        obtain ⟨g, hg⟩ : ∃ g, gs[j]? = some g := ⟨_, List.getElem?_eq_getElem (by rw [← gq2]; exact (List.getElem?_eq_some_iff.mp h2).1)⟩
        have hgm := List.mem_of_getElem? hg
        obtain ⟨pgl, egl, hgl⟩ := gq3 j qg g h2 hg
        refine gTup_of (sqt (sg _ _ egl)) rfl ?_
        walk_at "rd"
        have gk : guardOk WORDS W g.2 = true := by
          have := List.all_eq_true.mp gok g hgm
          unfold markOk at this
          exact (Bool.and_eq_true_iff.mp this).2
        by_cases c : g.1 = s.1
        rotate_left
        · exact if_f (decide_eq_false fun h => c (by injection h)) ((hIg _ _ _).mpr ⟨_, _, b, rfl, sg, hb⟩)
        refine if_t (decide_eq_true (by rw [c])) ?_
        refine ⟨pgl, pvd, W, g.2, s.2, rfl, hgl.keep sg, (gsz g hgm).1, gk, (gsz g hgm).2, Wn, by omega, hvd.keep sg, fun x hx => (sok.sz x hx).imp (fun h => h.mono (by decide)) (fun h => h.mono (by decide)), fun b2 Hh sh hb2 => ?_⟩
        refine ⟨_, rfl, ?_⟩
        cases b2 with
        | true => exact if_t rfl ((hIg _ _ _).mpr ⟨_, _, true, rfl, sg.trans sh, fun _ => ⟨s, hsm, g, hgm, c, hb2.mp rfl⟩⟩)
        | false => exact if_f rfl ((hIg _ _ _).mpr ⟨_, _, b, rfl, sg.trans sh, hb⟩)
      · rintro σ' Hg hing
        obtain ⟨v8, v14, b, rfl, sg, hb⟩ := (hIg _ _ _).mp hing
        exact (hIv _ _ _).mpr ⟨_, _, _, _, b, rfl, sg, hb⟩
    rintro σ' Hf hinv
    obtain ⟨v8, v12, v13, v14, b, rfl, sf, hb⟩ := (hIv _ _ _).mp hinv
    walk_at "rd"
    refine seq_step ?_
    refine for_li ?_
    walk_at "rd"
    refine ⟨_, .inl (.of ((se.trans sf) _ _ hwd)), ?_⟩
    rw [List.length_map]
    have s7f := s7e.trans sf
    have sdf := se.trans sf
    refine ⟨pm, pg, MP W rs ds, gs, _, rfl, hm.keep (sd.trans sdf), mok, msz, Wl, hgs.keep s7f, gsz, by omega, gok, fun pp Hg us sg hpp u20 => ?_⟩
    obtain ⟨uqs, uq1, uq2, uq3⟩ := id hpp
    obtain ⟨Ip, hIp⟩ : ∃ Iv : Nat → L2.St → Hp → Prop, ∀ j σ' H', Iv j σ' H' ↔ (∃ v15 v16, σ' = [some (.ref a), some (.int c0), some (.ref pw), some (.int unit), some (.ref pr), some (.ref pd), some (.ref pg), some (.ref dl), v8, some (.ref pm), some (.ref pst), some (.bl b), v12, v13, v14, v15, v16, none, none] ∧ Same Hg H') := ⟨_, fun _ _ _ => Iff.rfl⟩
    refine ⟨_, rfl, forL_by (xs := uqs.map V.ref) Ip ((hIp _ _ _).mpr ⟨_, _, rfl, Same.refl _⟩) (fun i σ H' _ h => (fun (⟨_, _, _, k⟩ : ∃ _ _, _ ∧ Same _ _) => .of (k _ _ uq1)) ((hIp _ _ _).mp h)) ?_ ?_⟩
    rotate_left
    · rintro σ' Hh hing
      obtain ⟨v15, v16, rfl, sh⟩ := (hIp _ _ _).mp hing
      walk_at "rd"
      exact q _
    rintro j x σ' Hh hj hing
    obtain ⟨v15, v16, rfl, sh⟩ := (hIp _ _ _).mp hing
    rw [List.getElem?_map] at hj
    obtain ⟨qu, h2, rfl⟩ := Option.map_eq_some_iff.mp hj
    have hjl := (List.getElem?_eq_some_iff.mp h2).1
    obtain ⟨zq, za, zp, zl, zok⟩ := PapOk.keep _ _ _ _ sh (uq3 j qu () h2 (by rw [List.getElem?_eq_getElem (by omega)]))
    walk_at "rd"
    refine seq_step ?_
    walk_at "rd"
    have s7h := s7f.trans (sg.trans sh)
    refine ⟨pm, pg, qu, MP W rs ds, rfl, hm.keep ((sd.trans sdf).trans (sg.trans sh)), mok, msz, .inl ⟨gs, zq.map (·.2), hgs.keep s7h, gok, gsz, by omega, zip_seq za zp, by rw [List.length_map]; omega, fun x hx => ?_, fun _ b2 Hi si hb2 => ?_, fun ⟨x, hx, hn⟩ => ?_⟩⟩
    · obtain ⟨z, hz, rfl⟩ := List.mem_map.mp hx
      exact (zok z hz).2.mono (by decide)
    · walk_at "rd"
      refine isi (r := true) (.base (.bl _)) (by decide +kernel) ?_
      walk_at "rd"
      cases b2 with
      | false => exact if_f rfl ((hIp _ _ _).mpr ⟨_, _, rfl, sh.trans si⟩)
      | true =>
        have L := hb2.mp rfl
        cases b with
        | false => exact if_t rfl (if_f rfl ((hIp _ _ _).mpr ⟨_, _, rfl, sh.trans si⟩))
        | true =>
          exfalso
          obtain ⟨s, hs, g, hg, e, m⟩ := hb rfl
          have sok := stok s hs
          obtain ⟨r, hr, er⟩ := sok.room
          exact allin_nohit mok hr gok sok.nn (by rw [er]; exact sok.all gs) L g hg (e.trans er.symm) m
    · obtain ⟨z, hz, rfl⟩ := List.mem_map.mp hx
      exact absurd (zok z hz).1 hn
end
/-! ### what the top has left -/
theorem all_mk {P : Program} {w : World} {K : PySem.W.Frag} {h : Heap} {mg : Str → Option Value} {fa : Addr} (X : K.In h) (G : h.Ns mainGlobals mg) (hfa : mg "law" = some (.ref fa))
    {CDoor : Addr}
    {CMachine : Addr}
    {tBELOW : Addr} {oBELOW : Obj} {nBELOW : Nat} {tkBELOW0 tkBELOW1 : Tok}
    {tWORDS : Addr} {oWORDS : Obj} {nWORDS : Nat} {tkWORDS0 tkWORDS1 tkWORDS2 tkWORDS3 tkWORDS4 : Tok}
    {f0 : Addr} {od0 an0 : Option Addr} {sl0 : Array (Option Value)} {oc0 kV0 dc0 pm0 cd0 ct0 : Value}
    {f1 : Addr} {od1 an1 : Option Addr} {sl1 : Array (Option Value)} {oc1 kV1 dc1 pm1 cd1 ct1 : Value}
    {f2 : Addr} {od2 an2 : Option Addr} {sl2 : Array (Option Value)} {oc2 kV2 dc2 pm2 cd2 ct2 : Value}
    {f3 : Addr} {od3 an3 : Option Addr} {sl3 : Array (Option Value)} {oc3 kV3 dc3 pm3 cd3 ct3 : Value}
    {f4 : Addr} {od4 an4 : Option Addr} {sl4 : Array (Option Value)} {oc4 kV4 dc4 pm4 cd4 ct4 : Value}
    {f5 : Addr} {od5 an5 : Option Addr} {sl5 : Array (Option Value)} {oc5 kV5 dc5 pm5 cd5 ct5 : Value}
    {f6 : Addr} {od6 an6 : Option Addr} {sl6 : Array (Option Value)} {oc6 kV6 dc6 pm6 cd6 ct6 : Value}
    {f7 : Addr} {od7 an7 : Option Addr} {sl7 : Array (Option Value)} {oc7 kV7 dc7 pm7 cd7 ct7 : Value}
    {f8 : Addr} {od8 an8 : Option Addr} {sl8 : Array (Option Value)} {oc8 kV8 dc8 pm8 cd8 ct8 : Value}
    {f9 : Addr} {od9 an9 : Option Addr} {sl9 : Array (Option Value)} {oc9 kV9 dc9 pm9 cd9 ct9 : Value}
    {t9 : Addr} {o9 : Obj} {n9 : Nat}
    {tk9 : Tok}
    {f10 : Addr} {od10 an10 : Option Addr} {sl10 : Array (Option Value)} {oc10 kV10 dc10 pm10 cd10 ct10 : Value}
    {f11 : Addr} {od11 an11 : Option Addr} {sl11 : Array (Option Value)} {oc11 kV11 dc11 pm11 cd11 ct11 : Value}
    {f12 : Addr} {od12 an12 : Option Addr} {sl12 : Array (Option Value)} {oc12 kV12 dc12 pm12 cd12 ct12 : Value}
    {f13 : Addr} {od13 an13 : Option Addr} {sl13 : Array (Option Value)} {oc13 kV13 dc13 pm13 cd13 ct13 : Value}
    {f14 : Addr} {od14 an14 : Option Addr} {sl14 : Array (Option Value)} {oc14 kV14 dc14 pm14 cd14 ct14 : Value}
    {f15 : Addr} {od15 an15 : Option Addr} {sl15 : Array (Option Value)} {oc15 kV15 dc15 pm15 cd15 ct15 : Value}
    {f16 : Addr} {od16 an16 : Option Addr} {sl16 : Array (Option Value)} {oc16 kV16 dc16 pm16 cd16 ct16 : Value}
    {f17 : Addr} {od17 an17 : Option Addr} {sl17 : Array (Option Value)} {oc17 kV17 dc17 pm17 cd17 ct17 : Value}
    {f18 : Addr} {od18 an18 : Option Addr} {sl18 : Array (Option Value)} {oc18 kV18 dc18 pm18 cd18 ct18 : Value}
    {f19 : Addr} {od19 an19 : Option Addr} {sl19 : Array (Option Value)} {oc19 kV19 dc19 pm19 cd19 ct19 : Value}
    {f20 : Addr} {od20 an20 : Option Addr} {sl20 : Array (Option Value)} {oc20 kV20 dc20 pm20 cd20 ct20 : Value}
    {f21 : Addr} {od21 an21 : Option Addr} {sl21 : Array (Option Value)} {oc21 kV21 dc21 pm21 cd21 ct21 : Value}
    {f22 : Addr} {od22 an22 : Option Addr} {sl22 : Array (Option Value)} {oc22 kV22 dc22 pm22 cd22 ct22 : Value}
    {f23 : Addr} {od23 an23 : Option Addr} {sl23 : Array (Option Value)} {oc23 kV23 dc23 pm23 cd23 ct23 : Value}
    {f24 : Addr} {od24 an24 : Option Addr} {sl24 : Array (Option Value)} {oc24 kV24 dc24 pm24 cd24 ct24 : Value}
    {f25 : Addr} {od25 an25 : Option Addr} {sl25 : Array (Option Value)} {oc25 kV25 dc25 pm25 cd25 ct25 : Value}
    {f26 : Addr} {od26 an26 : Option Addr} {sl26 : Array (Option Value)} {oc26 kV26 dc26 pm26 cd26 ct26 : Value}
    {f27 : Addr} {od27 an27 : Option Addr} {sl27 : Array (Option Value)} {oc27 kV27 dc27 pm27 cd27 ct27 : Value}
    {f28 : Addr} {od28 an28 : Option Addr} {sl28 : Array (Option Value)} {oc28 kV28 dc28 pm28 cd28 ct28 : Value}
    {f29 : Addr} {od29 an29 : Option Addr} {sl29 : Array (Option Value)} {oc29 kV29 dc29 pm29 cd29 ct29 : Value}
    {f30 : Addr} {od30 an30 : Option Addr} {sl30 : Array (Option Value)} {oc30 kV30 dc30 pm30 cd30 ct30 : Value}
    {f31 : Addr} {od31 an31 : Option Addr} {sl31 : Array (Option Value)} {oc31 kV31 dc31 pm31 cd31 ct31 : Value}
    {f32 : Addr} {od32 an32 : Option Addr} {sl32 : Array (Option Value)} {oc32 kV32 dc32 pm32 cd32 ct32 : Value}
    {f33 : Addr} {od33 an33 : Option Addr} {sl33 : Array (Option Value)} {oc33 kV33 dc33 pm33 cd33 ct33 : Value}
    {f34 : Addr} {od34 an34 : Option Addr} {sl34 : Array (Option Value)} {oc34 kV34 dc34 pm34 cd34 ct34 : Value}
    {f35 : Addr} {od35 an35 : Option Addr} {sl35 : Array (Option Value)} {oc35 kV35 dc35 pm35 cd35 ct35 : Value}
    {f36 : Addr} {od36 an36 : Option Addr} {sl36 : Array (Option Value)} {oc36 kV36 dc36 pm36 cd36 ct36 : Value}
    {f37 : Addr} {od37 an37 : Option Addr} {sl37 : Array (Option Value)} {oc37 kV37 dc37 pm37 cd37 ct37 : Value}
    {f38 : Addr} {od38 an38 : Option Addr} {sl38 : Array (Option Value)} {oc38 kV38 dc38 pm38 cd38 ct38 : Value}
    {f39 : Addr} {od39 an39 : Option Addr} {sl39 : Array (Option Value)} {oc39 kV39 dc39 pm39 cd39 ct39 : Value}
    {f40 : Addr} {od40 an40 : Option Addr} {sl40 : Array (Option Value)} {oc40 kV40 dc40 pm40 cd40 ct40 : Value}
    {f41 : Addr} {od41 an41 : Option Addr} {sl41 : Array (Option Value)} {oc41 kV41 dc41 pm41 cd41 ct41 : Value}
    {f42 : Addr} {od42 an42 : Option Addr} {sl42 : Array (Option Value)} {oc42 kV42 dc42 pm42 cd42 ct42 : Value}
    {f43 : Addr} {od43 an43 : Option Addr} {sl43 : Array (Option Value)} {oc43 kV43 dc43 pm43 cd43 ct43 : Value}
    {f44 : Addr} {od44 an44 : Option Addr} {sl44 : Array (Option Value)} {oc44 kV44 dc44 pm44 cd44 ct44 : Value}
    {f45 : Addr} {od45 an45 : Option Addr} {sl45 : Array (Option Value)} {oc45 kV45 dc45 pm45 cd45 ct45 : Value}
    {f46 : Addr} {od46 an46 : Option Addr} {sl46 : Array (Option Value)} {oc46 kV46 dc46 pm46 cd46 ct46 : Value}
    {f47 : Addr} {od47 an47 : Option Addr} {sl47 : Array (Option Value)} {oc47 kV47 dc47 pm47 cd47 ct47 : Value}
    {f48 : Addr} {od48 an48 : Option Addr} {sl48 : Array (Option Value)} {oc48 kV48 dc48 pm48 cd48 ct48 : Value}
    {f49 : Addr} {od49 an49 : Option Addr} {sl49 : Array (Option Value)} {oc49 kV49 dc49 pm49 cd49 ct49 : Value}
    {f50 : Addr} {od50 an50 : Option Addr} {sl50 : Array (Option Value)} {oc50 kV50 dc50 pm50 cd50 ct50 : Value}
    {t50 : Addr} {o50 : Obj} {n50 : Nat}
    {tk50 : Tok}
    {f51 : Addr} {od51 an51 : Option Addr} {sl51 : Array (Option Value)} {oc51 kV51 dc51 pm51 cd51 ct51 : Value}
    {f52 : Addr} {od52 an52 : Option Addr} {sl52 : Array (Option Value)} {oc52 kV52 dc52 pm52 cd52 ct52 : Value}
    {f53 : Addr} {od53 an53 : Option Addr} {sl53 : Array (Option Value)} {oc53 kV53 dc53 pm53 cd53 ct53 : Value}
    {f54 : Addr} {od54 an54 : Option Addr} {sl54 : Array (Option Value)} {oc54 kV54 dc54 pm54 cd54 ct54 : Value}
    {f55 : Addr} {od55 an55 : Option Addr} {sl55 : Array (Option Value)} {oc55 kV55 dc55 pm55 cd55 ct55 : Value}
    {f56 : Addr} {od56 an56 : Option Addr} {sl56 : Array (Option Value)} {oc56 kV56 dc56 pm56 cd56 ct56 : Value}
    {f57 : Addr} {od57 an57 : Option Addr} {sl57 : Array (Option Value)} {oc57 kV57 dc57 pm57 cd57 ct57 : Value}
    {f58 : Addr} {od58 an58 : Option Addr} {sl58 : Array (Option Value)} {oc58 kV58 dc58 pm58 cd58 ct58 : Value}
    {f59 : Addr} {od59 an59 : Option Addr} {sl59 : Array (Option Value)} {oc59 kV59 dc59 pm59 cd59 ct59 : Value}
    {f60 : Addr} {od60 an60 : Option Addr} {sl60 : Array (Option Value)} {oc60 kV60 dc60 pm60 cd60 ct60 : Value}
    {f61 : Addr} {od61 an61 : Option Addr} {sl61 : Array (Option Value)} {oc61 kV61 dc61 pm61 cd61 ct61 : Value}
    {f62 : Addr} {od62 an62 : Option Addr} {sl62 : Array (Option Value)} {oc62 kV62 dc62 pm62 cd62 ct62 : Value}
    {f63 : Addr} {od63 an63 : Option Addr} {sl63 : Array (Option Value)} {oc63 kV63 dc63 pm63 cd63 ct63 : Value}
    {f64 : Addr} {od64 an64 : Option Addr} {sl64 : Array (Option Value)} {oc64 kV64 dc64 pm64 cd64 ct64 : Value}
    {f65 : Addr} {od65 an65 : Option Addr} {sl65 : Array (Option Value)} {oc65 kV65 dc65 pm65 cd65 ct65 : Value}
    {f66 : Addr} {od66 an66 : Option Addr} {sl66 : Array (Option Value)} {oc66 kV66 dc66 pm66 cd66 ct66 : Value}
    {f67 : Addr} {od67 an67 : Option Addr} {sl67 : Array (Option Value)} {oc67 kV67 dc67 pm67 cd67 ct67 : Value}
    {f68 : Addr} {od68 an68 : Option Addr} {sl68 : Array (Option Value)} {oc68 kV68 dc68 pm68 cd68 ct68 : Value}
    {f69 : Addr} {od69 an69 : Option Addr} {sl69 : Array (Option Value)} {oc69 kV69 dc69 pm69 cd69 ct69 : Value}
    {CBadMachine : Addr}
    {CTooMany : Addr}
    {CNoMark : Addr}
    {CNoRoom : Addr}
    {uLETTERS : Tok}
    {uMOST_DOORS : Tok}
    {uMOST_ROOMS : Tok}
    {uMOST_WATCHES : Tok}
    {uNOUGHT : Tok}
    (gDoor : PySem.W.nsIn K mainGlobals "Door" = some (some (.ref CDoor)))
    (pgDoor : PySem.W.plainGet K CDoor Str.empty = true)
    (hdDoor : PySem.W.hasDictIn K CDoor = true)
    (poDoor : PySem.W.plainOver K CDoor = true)
    (saDoor : PySem.W.findIn K (.ref CDoor) "__setattr__" = some (some (.builtin "object.__setattr__")))
    (mkDoor : PySem.W.makesIn K CDoor = true)
    (kcDoor : PySem.W.keepIn K (.ref CDoor) = true)
    (hcDoor : PySem.W.findIn K (.ref CDoor) "__class__" = some (some (.builtin "object.__class__")))
    (hnDoor : PySem.W.specialIn K (.builtin "object.__class__") "__get__" = some (some (.builtin "getset_descriptor.__get__")))
    (htDoor : PySem.W.takesIn K (.builtin "object.__class__") = some true)
    (hmDoor : PySem.W.mroIn K CDoor (.type "object") = some true)
    (nDoor_backs : PySem.W.findIn K (.ref CDoor) "backs" = some none)
    (nDoor_end : PySem.W.findIn K (.ref CDoor) "end" = some none)
    (nDoor_looks : PySem.W.findIn K (.ref CDoor) "looks" = some none)
    (nDoor_sign : PySem.W.findIn K (.ref CDoor) "sign" = some none)
    (nDoor_start : PySem.W.findIn K (.ref CDoor) "start" = some none)
    (gMachine : PySem.W.nsIn K mainGlobals "Machine" = some (some (.ref CMachine)))
    (pgMachine : PySem.W.plainGet K CMachine Str.empty = true)
    (hdMachine : PySem.W.hasDictIn K CMachine = true)
    (poMachine : PySem.W.plainOver K CMachine = true)
    (saMachine : PySem.W.findIn K (.ref CMachine) "__setattr__" = some (some (.builtin "object.__setattr__")))
    (mkMachine : PySem.W.makesIn K CMachine = true)
    (kcMachine : PySem.W.keepIn K (.ref CMachine) = true)
    (hcMachine : PySem.W.findIn K (.ref CMachine) "__class__" = some (some (.builtin "object.__class__")))
    (hnMachine : PySem.W.specialIn K (.builtin "object.__class__") "__get__" = some (some (.builtin "getset_descriptor.__get__")))
    (htMachine : PySem.W.takesIn K (.builtin "object.__class__") = some true)
    (hmMachine : PySem.W.mroIn K CMachine (.type "object") = some true)
    (nMachine_door_list : PySem.W.findIn K (.ref CMachine) "door_list" = some none)
    (nMachine_room_names : PySem.W.findIn K (.ref CMachine) "room_names" = some none)
    (nMachine_stay_looks : PySem.W.findIn K (.ref CMachine) "stay_looks" = some none)
    (nMachine_watch_names : PySem.W.findIn K (.ref CMachine) "watch_names" = some none)
    (gBELOW : PySem.W.nsIn K mainGlobals "BELOW" = some (some (.ref tBELOW)))
    (lBELOW : K.lookup tBELOW = some oBELOW)
    (cBELOW : oBELOW.cls = .type "tuple")
    (dBELOW : oBELOW.data = .seq ([Value.str "<" tkBELOW0, Value.str "<=" tkBELOW1] : List Value).toArray nBELOW)
    (gWORDS : PySem.W.nsIn K mainGlobals "WORDS" = some (some (.ref tWORDS)))
    (lWORDS : K.lookup tWORDS = some oWORDS)
    (cWORDS : oWORDS.cls = .type "tuple")
    (dWORDS : oWORDS.data = .seq ([Value.str "<" tkWORDS0, Value.str "<=" tkWORDS1, Value.str ">" tkWORDS2, Value.str ">=" tkWORDS3, Value.str "=" tkWORDS4] : List Value).toArray nWORDS)
    (a0 : PySem.W.nsIn K mainGlobals "is_whole" = some (some (.ref f0)))
    (l0 : K.lookup f0 = some ⟨oc0, od0, .func (PySem.W.fnOf "is_whole" "is_whole" (defArgs s_is_whole) (defBody s_is_whole) (defScope s_is_whole) .none kV0 dc0 pm0 an0 cd0 ct0), sl0⟩)
    (c0 : PySem.W.codeIn K cd0 "is_whole" = true)
    (k0 : PySem.W.keepIn K (.ref f0) = true)
    (a1 : PySem.W.nsIn K mainGlobals "of_signs" = some (some (.ref f1)))
    (l1 : K.lookup f1 = some ⟨oc1, od1, .func (PySem.W.fnOf "of_signs" "of_signs" (defArgs s_of_signs) (defBody s_of_signs) (defScope s_of_signs) .none kV1 dc1 pm1 an1 cd1 ct1), sl1⟩)
    (c1 : PySem.W.codeIn K cd1 "of_signs" = true)
    (k1 : PySem.W.keepIn K (.ref f1) = true)
    (a2 : PySem.W.nsIn K mainGlobals "is_name" = some (some (.ref f2)))
    (l2 : K.lookup f2 = some ⟨oc2, od2, .func (PySem.W.fnOf "is_name" "is_name" (defArgs s_is_name) (defBody s_is_name) (defScope s_is_name) .none kV2 dc2 pm2 an2 cd2 ct2), sl2⟩)
    (c2 : PySem.W.codeIn K cd2 "is_name" = true)
    (k2 : PySem.W.keepIn K (.ref f2) = true)
    (a3 : PySem.W.nsIn K mainGlobals "is_watch_name" = some (some (.ref f3)))
    (l3 : K.lookup f3 = some ⟨oc3, od3, .func (PySem.W.fnOf "is_watch_name" "is_watch_name" (defArgs s_is_watch_name) (defBody s_is_watch_name) (defScope s_is_watch_name) .none kV3 dc3 pm3 an3 cd3 ct3), sl3⟩)
    (c3 : PySem.W.codeIn K cd3 "is_watch_name" = true)
    (k3 : PySem.W.keepIn K (.ref f3) = true)
    (a4 : PySem.W.nsIn K mainGlobals "is_sign" = some (some (.ref f4)))
    (l4 : K.lookup f4 = some ⟨oc4, od4, .func (PySem.W.fnOf "is_sign" "is_sign" (defArgs s_is_sign) (defBody s_is_sign) (defScope s_is_sign) .none kV4 dc4 pm4 an4 cd4 ct4), sl4⟩)
    (c4 : PySem.W.codeIn K cd4 "is_sign" = true)
    (k4 : PySem.W.keepIn K (.ref f4) = true)
    (a5 : PySem.W.nsIn K mainGlobals "is_look" = some (some (.ref f5)))
    (l5 : K.lookup f5 = some ⟨oc5, od5, .func (PySem.W.fnOf "is_look" "is_look" (defArgs s_is_look) (defBody s_is_look) (defScope s_is_look) .none kV5 dc5 pm5 an5 cd5 ct5), sl5⟩)
    (c5 : PySem.W.codeIn K cd5 "is_look" = true)
    (k5 : PySem.W.keepIn K (.ref f5) = true)
    (a6 : PySem.W.nsIn K mainGlobals "is_guard" = some (some (.ref f6)))
    (l6 : K.lookup f6 = some ⟨oc6, od6, .func (PySem.W.fnOf "is_guard" "is_guard" (defArgs s_is_guard) (defBody s_is_guard) (defScope s_is_guard) .none kV6 dc6 pm6 an6 cd6 ct6), sl6⟩)
    (c6 : PySem.W.codeIn K cd6 "is_guard" = true)
    (k6 : PySem.W.keepIn K (.ref f6) = true)
    (a7 : PySem.W.nsIn K mainGlobals "unlike" = some (some (.ref f7)))
    (l7 : K.lookup f7 = some ⟨oc7, od7, .func (PySem.W.fnOf "unlike" "unlike" (defArgs s_unlike) (defBody s_unlike) (defScope s_unlike) .none kV7 dc7 pm7 an7 cd7 ct7), sl7⟩)
    (c7 : PySem.W.codeIn K cd7 "unlike" = true)
    (k7 : PySem.W.keepIn K (.ref f7) = true)
    (a8 : PySem.W.nsIn K mainGlobals "own" = some (some (.ref f8)))
    (l8 : K.lookup f8 = some ⟨oc8, od8, .func (PySem.W.fnOf "own" "own" (defArgs s_own) (defBody s_own) (defScope s_own) .none kV8 dc8 pm8 an8 cd8 ct8), sl8⟩)
    (c8 : PySem.W.codeIn K cd8 "own" = true)
    (k8 : PySem.W.keepIn K (.ref f8) = true)
    (a9 : PySem.W.findIn K (.ref CDoor) "__init__" = some (some (.ref f9)))
    (i9 : PySem.W.isFn K (.ref f9) = true)
    (l9 : K.lookup f9 = some ⟨oc9, od9, .func (PySem.W.fnOf "__init__" "Door.__init__" (defArgs s_Door_init) (defBody s_Door_init) (defScope s_Door_init) (.ref t9) kV9 dc9 pm9 an9 cd9 ct9), sl9⟩)
    (c9 : PySem.W.codeIn K cd9 "Door.__init__" = true)
    (k9 : PySem.W.keepIn K (.ref f9) = true)
    (lt9 : K.lookup t9 = some o9)
    (ld9 : o9.data = .seq ([Value.str "" tk9] : List Value).toArray n9)
    (a10 : PySem.W.findIn K (.ref CDoor) "asks" = some (some (.ref f10)))
    (i10 : PySem.W.isFn K (.ref f10) = true)
    (l10 : K.lookup f10 = some ⟨oc10, od10, .func (PySem.W.fnOf "asks" "Door.asks" (defArgs s_Door_asks) (defBody s_Door_asks) (defScope s_Door_asks) .none kV10 dc10 pm10 an10 cd10 ct10), sl10⟩)
    (c10 : PySem.W.codeIn K cd10 "Door.asks" = true)
    (k10 : PySem.W.keepIn K (.ref f10) = true)
    (a11 : PySem.W.findIn K (.ref CDoor) "sets" = some (some (.ref f11)))
    (i11 : PySem.W.isFn K (.ref f11) = true)
    (l11 : K.lookup f11 = some ⟨oc11, od11, .func (PySem.W.fnOf "sets" "Door.sets" (defArgs s_Door_sets) (defBody s_Door_sets) (defScope s_Door_sets) .none kV11 dc11 pm11 an11 cd11 ct11), sl11⟩)
    (c11 : PySem.W.codeIn K cd11 "Door.sets" = true)
    (k11 : PySem.W.keepIn K (.ref f11) = true)
    (a12 : PySem.W.nsIn K mainGlobals "are_watches" = some (some (.ref f12)))
    (l12 : K.lookup f12 = some ⟨oc12, od12, .func (PySem.W.fnOf "are_watches" "are_watches" (defArgs s_are_watches) (defBody s_are_watches) (defScope s_are_watches) .none kV12 dc12 pm12 an12 cd12 ct12), sl12⟩)
    (c12 : PySem.W.codeIn K cd12 "are_watches" = true)
    (k12 : PySem.W.keepIn K (.ref f12) = true)
    (a13 : PySem.W.nsIn K mainGlobals "is_room" = some (some (.ref f13)))
    (l13 : K.lookup f13 = some ⟨oc13, od13, .func (PySem.W.fnOf "is_room" "is_room" (defArgs s_is_room) (defBody s_is_room) (defScope s_is_room) .none kV13 dc13 pm13 an13 cd13 ct13), sl13⟩)
    (c13 : PySem.W.codeIn K cd13 "is_room" = true)
    (k13 : PySem.W.keepIn K (.ref f13) = true)
    (a14 : PySem.W.nsIn K mainGlobals "are_rooms" = some (some (.ref f14)))
    (l14 : K.lookup f14 = some ⟨oc14, od14, .func (PySem.W.fnOf "are_rooms" "are_rooms" (defArgs s_are_rooms) (defBody s_are_rooms) (defScope s_are_rooms) .none kV14 dc14 pm14 an14 cd14 ct14), sl14⟩)
    (c14 : PySem.W.codeIn K cd14 "are_rooms" = true)
    (k14 : PySem.W.keepIn K (.ref f14) = true)
    (a15 : PySem.W.nsIn K mainGlobals "is_door" = some (some (.ref f15)))
    (l15 : K.lookup f15 = some ⟨oc15, od15, .func (PySem.W.fnOf "is_door" "is_door" (defArgs s_is_door) (defBody s_is_door) (defScope s_is_door) .none kV15 dc15 pm15 an15 cd15 ct15), sl15⟩)
    (c15 : PySem.W.codeIn K cd15 "is_door" = true)
    (k15 : PySem.W.keepIn K (.ref f15) = true)
    (a16 : PySem.W.findIn K (.ref CMachine) "__init__" = some (some (.ref f16)))
    (i16 : PySem.W.isFn K (.ref f16) = true)
    (l16 : K.lookup f16 = some ⟨oc16, od16, .func (PySem.W.fnOf "__init__" "Machine.__init__" (defArgs s_Machine_init) (defBody s_Machine_init) (defScope s_Machine_init) .none kV16 dc16 pm16 an16 cd16 ct16), sl16⟩)
    (c16 : PySem.W.codeIn K cd16 "Machine.__init__" = true)
    (k16 : PySem.W.keepIn K (.ref f16) = true)
    (a17 : PySem.W.findIn K (.ref CMachine) "watches" = some (some (.ref f17)))
    (i17 : PySem.W.isFn K (.ref f17) = true)
    (l17 : K.lookup f17 = some ⟨oc17, od17, .func (PySem.W.fnOf "watches" "Machine.watches" (defArgs s_Machine_watches) (defBody s_Machine_watches) (defScope s_Machine_watches) .none kV17 dc17 pm17 an17 cd17 ct17), sl17⟩)
    (c17 : PySem.W.codeIn K cd17 "Machine.watches" = true)
    (k17 : PySem.W.keepIn K (.ref f17) = true)
    (a18 : PySem.W.findIn K (.ref CMachine) "rooms" = some (some (.ref f18)))
    (i18 : PySem.W.isFn K (.ref f18) = true)
    (l18 : K.lookup f18 = some ⟨oc18, od18, .func (PySem.W.fnOf "rooms" "Machine.rooms" (defArgs s_Machine_rooms) (defBody s_Machine_rooms) (defScope s_Machine_rooms) .none kV18 dc18 pm18 an18 cd18 ct18), sl18⟩)
    (c18 : PySem.W.codeIn K cd18 "Machine.rooms" = true)
    (k18 : PySem.W.keepIn K (.ref f18) = true)
    (a19 : PySem.W.findIn K (.ref CMachine) "doors" = some (some (.ref f19)))
    (i19 : PySem.W.isFn K (.ref f19) = true)
    (l19 : K.lookup f19 = some ⟨oc19, od19, .func (PySem.W.fnOf "doors" "Machine.doors" (defArgs s_Machine_doors) (defBody s_Machine_doors) (defScope s_Machine_doors) .none kV19 dc19 pm19 an19 cd19 ct19), sl19⟩)
    (c19 : PySem.W.codeIn K cd19 "Machine.doors" = true)
    (k19 : PySem.W.keepIn K (.ref f19) = true)
    (a20 : PySem.W.findIn K (.ref CMachine) "stay" = some (some (.ref f20)))
    (i20 : PySem.W.isFn K (.ref f20) = true)
    (l20 : K.lookup f20 = some ⟨oc20, od20, .func (PySem.W.fnOf "stay" "Machine.stay" (defArgs s_Machine_stay) (defBody s_Machine_stay) (defScope s_Machine_stay) .none kV20 dc20 pm20 an20 cd20 ct20), sl20⟩)
    (c20 : PySem.W.codeIn K cd20 "Machine.stay" = true)
    (k20 : PySem.W.keepIn K (.ref f20) = true)
    (a21 : PySem.W.findIn K (.ref CMachine) "watch_number" = some (some (.ref f21)))
    (i21 : PySem.W.isFn K (.ref f21) = true)
    (l21 : K.lookup f21 = some ⟨oc21, od21, .func (PySem.W.fnOf "watch_number" "Machine.watch_number" (defArgs s_Machine_watch_number) (defBody s_Machine_watch_number) (defScope s_Machine_watch_number) .none kV21 dc21 pm21 an21 cd21 ct21), sl21⟩)
    (c21 : PySem.W.codeIn K cd21 "Machine.watch_number" = true)
    (k21 : PySem.W.keepIn K (.ref f21) = true)
    (a22 : PySem.W.nsIn K mainGlobals "placed" = some (some (.ref f22)))
    (l22 : K.lookup f22 = some ⟨oc22, od22, .func (PySem.W.fnOf "placed" "placed" (defArgs s_placed) (defBody s_placed) (defScope s_placed) .none kV22 dc22 pm22 an22 cd22 ct22), sl22⟩)
    (c22 : PySem.W.codeIn K cd22 "placed" = true)
    (k22 : PySem.W.keepIn K (.ref f22) = true)
    (a23 : PySem.W.nsIn K mainGlobals "at_most" = some (some (.ref f23)))
    (l23 : K.lookup f23 = some ⟨oc23, od23, .func (PySem.W.fnOf "at_most" "at_most" (defArgs s_at_most) (defBody s_at_most) (defScope s_at_most) .none kV23 dc23 pm23 an23 cd23 ct23), sl23⟩)
    (c23 : PySem.W.codeIn K cd23 "at_most" = true)
    (k23 : PySem.W.keepIn K (.ref f23) = true)
    (a24 : PySem.W.nsIn K mainGlobals "below" = some (some (.ref f24)))
    (l24 : K.lookup f24 = some ⟨oc24, od24, .func (PySem.W.fnOf "below" "below" (defArgs s_below) (defBody s_below) (defScope s_below) .none kV24 dc24 pm24 an24 cd24 ct24), sl24⟩)
    (c24 : PySem.W.codeIn K cd24 "below" = true)
    (k24 : PySem.W.keepIn K (.ref f24) = true)
    (a25 : PySem.W.nsIn K mainGlobals "number_of" = some (some (.ref f25)))
    (l25 : K.lookup f25 = some ⟨oc25, od25, .func (PySem.W.fnOf "number_of" "number_of" (defArgs s_number_of) (defBody s_number_of) (defScope s_number_of) .none kV25 dc25 pm25 an25 cd25 ct25), sl25⟩)
    (c25 : PySem.W.codeIn K cd25 "number_of" = true)
    (k25 : PySem.W.keepIn K (.ref f25) = true)
    (a26 : PySem.W.nsIn K mainGlobals "added" = some (some (.ref f26)))
    (l26 : K.lookup f26 = some ⟨oc26, od26, .func (PySem.W.fnOf "added" "added" (defArgs s_added) (defBody s_added) (defScope s_added) .none kV26 dc26 pm26 an26 cd26 ct26), sl26⟩)
    (c26 : PySem.W.codeIn K cd26 "added" = true)
    (k26 : PySem.W.keepIn K (.ref f26) = true)
    (a27 : PySem.W.nsIn K mainGlobals "narrower" = some (some (.ref f27)))
    (l27 : K.lookup f27 = some ⟨oc27, od27, .func (PySem.W.fnOf "narrower" "narrower" (defArgs s_narrower) (defBody s_narrower) (defScope s_narrower) .none kV27 dc27 pm27 an27 cd27 ct27), sl27⟩)
    (c27 : PySem.W.codeIn K cd27 "narrower" = true)
    (k27 : PySem.W.keepIn K (.ref f27) = true)
    (a28 : PySem.W.nsIn K mainGlobals "wider" = some (some (.ref f28)))
    (l28 : K.lookup f28 = some ⟨oc28, od28, .func (PySem.W.fnOf "wider" "wider" (defArgs s_wider) (defBody s_wider) (defScope s_wider) .none kV28 dc28 pm28 an28 cd28 ct28), sl28⟩)
    (c28 : PySem.W.codeIn K cd28 "wider" = true)
    (k28 : PySem.W.keepIn K (.ref f28) = true)
    (a29 : PySem.W.nsIn K mainGlobals "through_zones" = some (some (.ref f29)))
    (l29 : K.lookup f29 = some ⟨oc29, od29, .func (PySem.W.fnOf "through" "through" (defArgs s_through_zones) (defBody s_through_zones) (defScope s_through_zones) .none kV29 dc29 pm29 an29 cd29 ct29), sl29⟩)
    (c29 : PySem.W.codeIn K cd29 "through" = true)
    (k29 : PySem.W.keepIn K (.ref f29) = true)
    (a30 : PySem.W.nsIn K mainGlobals "narrowest" = some (some (.ref f30)))
    (l30 : K.lookup f30 = some ⟨oc30, od30, .func (PySem.W.fnOf "narrowest" "narrowest" (defArgs s_narrowest) (defBody s_narrowest) (defScope s_narrowest) .none kV30 dc30 pm30 an30 cd30 ct30), sl30⟩)
    (c30 : PySem.W.codeIn K cd30 "narrowest" = true)
    (k30 : PySem.W.keepIn K (.ref f30) = true)
    (a31 : PySem.W.nsIn K mainGlobals "everywhere" = some (some (.ref f31)))
    (l31 : K.lookup f31 = some ⟨oc31, od31, .func (PySem.W.fnOf "everywhere" "everywhere" (defArgs s_everywhere) (defBody s_everywhere) (defScope s_everywhere) .none kV31 dc31 pm31 an31 cd31 ct31), sl31⟩)
    (c31 : PySem.W.codeIn K cd31 "everywhere" = true)
    (k31 : PySem.W.keepIn K (.ref f31) = true)
    (a32 : PySem.W.nsIn K mainGlobals "nought" = some (some (.ref f32)))
    (l32 : K.lookup f32 = some ⟨oc32, od32, .func (PySem.W.fnOf "nought" "nought" (defArgs s_nought) (defBody s_nought) (defScope s_nought) .none kV32 dc32 pm32 an32 cd32 ct32), sl32⟩)
    (c32 : PySem.W.codeIn K cd32 "nought" = true)
    (k32 : PySem.W.keepIn K (.ref f32) = true)
    (a33 : PySem.W.nsIn K mainGlobals "within" = some (some (.ref f33)))
    (l33 : K.lookup f33 = some ⟨oc33, od33, .func (PySem.W.fnOf "within" "within" (defArgs s_within) (defBody s_within) (defScope s_within) .none kV33 dc33 pm33 an33 cd33 ct33), sl33⟩)
    (c33 : PySem.W.codeIn K cd33 "within" = true)
    (k33 : PySem.W.keepIn K (.ref f33) = true)
    (a34 : PySem.W.nsIn K mainGlobals "copied" = some (some (.ref f34)))
    (l34 : K.lookup f34 = some ⟨oc34, od34, .func (PySem.W.fnOf "copied" "copied" (defArgs s_copied) (defBody s_copied) (defScope s_copied) .none kV34 dc34 pm34 an34 cd34 ct34), sl34⟩)
    (c34 : PySem.W.codeIn K cd34 "copied" = true)
    (k34 : PySem.W.keepIn K (.ref f34) = true)
    (a35 : PySem.W.nsIn K mainGlobals "met" = some (some (.ref f35)))
    (l35 : K.lookup f35 = some ⟨oc35, od35, .func (PySem.W.fnOf "met" "met" (defArgs s_met) (defBody s_met) (defScope s_met) .none kV35 dc35 pm35 an35 cd35 ct35), sl35⟩)
    (c35 : PySem.W.codeIn K cd35 "met" = true)
    (k35 : PySem.W.keepIn K (.ref f35) = true)
    (a36 : PySem.W.nsIn K mainGlobals "waited" = some (some (.ref f36)))
    (l36 : K.lookup f36 = some ⟨oc36, od36, .func (PySem.W.fnOf "waited" "waited" (defArgs s_waited) (defBody s_waited) (defScope s_waited) .none kV36 dc36 pm36 an36 cd36 ct36), sl36⟩)
    (c36 : PySem.W.codeIn K cd36 "waited" = true)
    (k36 : PySem.W.keepIn K (.ref f36) = true)
    (a37 : PySem.W.nsIn K mainGlobals "put_back" = some (some (.ref f37)))
    (l37 : K.lookup f37 = some ⟨oc37, od37, .func (PySem.W.fnOf "put_back" "put_back" (defArgs s_put_back) (defBody s_put_back) (defScope s_put_back) .none kV37 dc37 pm37 an37 cd37 ct37), sl37⟩)
    (c37 : PySem.W.codeIn K cd37 "put_back" = true)
    (k37 : PySem.W.keepIn K (.ref f37) = true)
    (a38 : PySem.W.nsIn K mainGlobals "freed" = some (some (.ref f38)))
    (l38 : K.lookup f38 = some ⟨oc38, od38, .func (PySem.W.fnOf "freed" "freed" (defArgs s_freed) (defBody s_freed) (defScope s_freed) .none kV38 dc38 pm38 an38 cd38 ct38), sl38⟩)
    (c38 : PySem.W.codeIn K cd38 "freed" = true)
    (k38 : PySem.W.keepIn K (.ref f38) = true)
    (a39 : PySem.W.nsIn K mainGlobals "folded" = some (some (.ref f39)))
    (l39 : K.lookup f39 = some ⟨oc39, od39, .func (PySem.W.fnOf "folded" "folded" (defArgs s_folded) (defBody s_folded) (defScope s_folded) .none kV39 dc39 pm39 an39 cd39 ct39), sl39⟩)
    (c39 : PySem.W.codeIn K cd39 "folded" = true)
    (k39 : PySem.W.keepIn K (.ref f39) = true)
    (a40 : PySem.W.nsIn K mainGlobals "checked_goal" = some (some (.ref f40)))
    (l40 : K.lookup f40 = some ⟨oc40, od40, .func (PySem.W.fnOf "checked_goal" "checked_goal" (defArgs s_checked_goal) (defBody s_checked_goal) (defScope s_checked_goal) .none kV40 dc40 pm40 an40 cd40 ct40), sl40⟩)
    (c40 : PySem.W.codeIn K cd40 "checked_goal" = true)
    (k40 : PySem.W.keepIn K (.ref f40) = true)
    (a41 : PySem.W.nsIn K mainGlobals "hit_by" = some (some (.ref f41)))
    (l41 : K.lookup f41 = some ⟨oc41, od41, .func (PySem.W.fnOf "hit_by" "hit_by" (defArgs s_hit_by) (defBody s_hit_by) (defScope s_hit_by) .none kV41 dc41 pm41 an41 cd41 ct41), sl41⟩)
    (c41 : PySem.W.codeIn K cd41 "hit_by" = true)
    (k41 : PySem.W.keepIn K (.ref f41) = true)
    (a42 : PySem.W.nsIn K mainGlobals "guards_of" = some (some (.ref f42)))
    (l42 : K.lookup f42 = some ⟨oc42, od42, .func (PySem.W.fnOf "guards_of" "guards_of" (defArgs s_guards_of) (defBody s_guards_of) (defScope s_guards_of) .none kV42 dc42 pm42 an42 cd42 ct42), sl42⟩)
    (c42 : PySem.W.codeIn K cd42 "guards_of" = true)
    (k42 : PySem.W.keepIn K (.ref f42) = true)
    (a43 : PySem.W.nsIn K mainGlobals "greatest" = some (some (.ref f43)))
    (l43 : K.lookup f43 = some ⟨oc43, od43, .func (PySem.W.fnOf "greatest" "greatest" (defArgs s_greatest) (defBody s_greatest) (defScope s_greatest) .none kV43 dc43 pm43 an43 cd43 ct43), sl43⟩)
    (c43 : PySem.W.codeIn K cd43 "greatest" = true)
    (k43 : PySem.W.keepIn K (.ref f43) = true)
    (a44 : PySem.W.nsIn K mainGlobals "settled" = some (some (.ref f44)))
    (l44 : K.lookup f44 = some ⟨oc44, od44, .func (PySem.W.fnOf "settled" "settled" (defArgs s_settled) (defBody s_settled) (defScope s_settled) .none kV44 dc44 pm44 an44 cd44 ct44), sl44⟩)
    (c44 : PySem.W.codeIn K cd44 "settled" = true)
    (k44 : PySem.W.keepIn K (.ref f44) = true)
    (a45 : PySem.W.nsIn K mainGlobals "through_search" = some (some (.ref f45)))
    (l45 : K.lookup f45 = some ⟨oc45, od45, .func (PySem.W.fnOf "through" "through" (defArgs s_through_search) (defBody s_through_search) (defScope s_through_search) .none kV45 dc45 pm45 an45 cd45 ct45), sl45⟩)
    (c45 : PySem.W.codeIn K cd45 "through" = true)
    (k45 : PySem.W.keepIn K (.ref f45) = true)
    (a46 : PySem.W.nsIn K mainGlobals "next_node" = some (some (.ref f46)))
    (l46 : K.lookup f46 = some ⟨oc46, od46, .func (PySem.W.fnOf "next_node" "next_node" (defArgs s_next_node) (defBody s_next_node) (defScope s_next_node) .none kV46 dc46 pm46 an46 cd46 ct46), sl46⟩)
    (c46 : PySem.W.codeIn K cd46 "next_node" = true)
    (k46 : PySem.W.keepIn K (.ref f46) = true)
    (a47 : PySem.W.nsIn K mainGlobals "is_new" = some (some (.ref f47)))
    (l47 : K.lookup f47 = some ⟨oc47, od47, .func (PySem.W.fnOf "is_new" "is_new" (defArgs s_is_new) (defBody s_is_new) (defScope s_is_new) .none kV47 dc47 pm47 an47 cd47 ct47), sl47⟩)
    (c47 : PySem.W.codeIn K cd47 "is_new" = true)
    (k47 : PySem.W.keepIn K (.ref f47) = true)
    (a48 : PySem.W.nsIn K mainGlobals "put" = some (some (.ref f48)))
    (l48 : K.lookup f48 = some ⟨oc48, od48, .func (PySem.W.fnOf "put" "put" (defArgs s_put) (defBody s_put) (defScope s_put) .none kV48 dc48 pm48 an48 cd48 ct48), sl48⟩)
    (c48 : PySem.W.codeIn K cd48 "put" = true)
    (k48 : PySem.W.keepIn K (.ref f48) = true)
    (a49 : PySem.W.nsIn K mainGlobals "listed" = some (some (.ref f49)))
    (l49 : K.lookup f49 = some ⟨oc49, od49, .func (PySem.W.fnOf "listed" "listed" (defArgs s_listed) (defBody s_listed) (defScope s_listed) .none kV49 dc49 pm49 an49 cd49 ct49), sl49⟩)
    (c49 : PySem.W.codeIn K cd49 "listed" = true)
    (k49 : PySem.W.keepIn K (.ref f49) = true)
    (a50 : PySem.W.nsIn K mainGlobals "searched" = some (some (.ref f50)))
    (l50 : K.lookup f50 = some ⟨oc50, od50, .func (PySem.W.fnOf "searched" "searched" (defArgs s_searched) (defBody s_searched) (defScope s_searched) (.ref t50) kV50 dc50 pm50 an50 cd50 ct50), sl50⟩)
    (c50 : PySem.W.codeIn K cd50 "searched" = true)
    (k50 : PySem.W.keepIn K (.ref f50) = true)
    (lt50 : K.lookup t50 = some o50)
    (ld50 : o50.data = .seq ([Value.int 200 tk50, Value.none] : List Value).toArray n50)
    (a51 : PySem.W.nsIn K mainGlobals "narrow_zones" = some (some (.ref f51)))
    (l51 : K.lookup f51 = some ⟨oc51, od51, .func (PySem.W.fnOf "narrow_zones" "narrow_zones" (defArgs s_narrow_zones) (defBody s_narrow_zones) (defScope s_narrow_zones) .none kV51 dc51 pm51 an51 cd51 ct51), sl51⟩)
    (c51 : PySem.W.codeIn K cd51 "narrow_zones" = true)
    (k51 : PySem.W.keepIn K (.ref f51) = true)
    (a52 : PySem.W.nsIn K mainGlobals "covered" = some (some (.ref f52)))
    (l52 : K.lookup f52 = some ⟨oc52, od52, .func (PySem.W.fnOf "covered" "covered" (defArgs s_covered) (defBody s_covered) (defScope s_covered) .none kV52 dc52 pm52 an52 cd52 ct52), sl52⟩)
    (c52 : PySem.W.codeIn K cd52 "covered" = true)
    (k52 : PySem.W.keepIn K (.ref f52) = true)
    (a53 : PySem.W.nsIn K mainGlobals "in_stay" = some (some (.ref f53)))
    (l53 : K.lookup f53 = some ⟨oc53, od53, .func (PySem.W.fnOf "in_stay" "in_stay" (defArgs s_in_stay) (defBody s_in_stay) (defScope s_in_stay) .none kV53 dc53 pm53 an53 cd53 ct53), sl53⟩)
    (c53 : PySem.W.codeIn K cd53 "in_stay" = true)
    (k53 : PySem.W.keepIn K (.ref f53) = true)
    (a54 : PySem.W.nsIn K mainGlobals "is_closed" = some (some (.ref f54)))
    (l54 : K.lookup f54 = some ⟨oc54, od54, .func (PySem.W.fnOf "is_closed" "is_closed" (defArgs s_is_closed) (defBody s_is_closed) (defScope s_is_closed) .none kV54 dc54 pm54 an54 cd54 ct54), sl54⟩)
    (c54 : PySem.W.codeIn K cd54 "is_closed" = true)
    (k54 : PySem.W.keepIn K (.ref f54) = true)
    (a55 : PySem.W.nsIn K mainGlobals "lets_by" = some (some (.ref f55)))
    (l55 : K.lookup f55 = some ⟨oc55, od55, .func (PySem.W.fnOf "lets_by" "lets_by" (defArgs s_lets_by) (defBody s_lets_by) (defScope s_lets_by) .none kV55 dc55 pm55 an55 cd55 ct55), sl55⟩)
    (c55 : PySem.W.codeIn K cd55 "lets_by" = true)
    (k55 : PySem.W.keepIn K (.ref f55) = true)
    (a56 : PySem.W.nsIn K mainGlobals "_law_cell_at" = some (some (.ref f56)))
    (l56 : K.lookup f56 = some ⟨oc56, od56, .func (PySem.W.fnOf "_law_cell_at" "_law_cell_at" (defArgs s_l_cell_at) (defBody s_l_cell_at) (defScope s_l_cell_at) .none kV56 dc56 pm56 an56 cd56 ct56), sl56⟩)
    (c56 : PySem.W.codeIn K cd56 "_law_cell_at" = true)
    (k56 : PySem.W.keepIn K (.ref f56) = true)
    (a57 : PySem.W.nsIn K mainGlobals "_law_stream" = some (some (.ref f57)))
    (l57 : K.lookup f57 = some ⟨oc57, od57, .func (PySem.W.fnOf "_law_stream" "_law_stream" (defArgs s_l_stream) (defBody s_l_stream) (defScope s_l_stream) .none kV57 dc57 pm57 an57 cd57 ct57), sl57⟩)
    (c57 : PySem.W.codeIn K cd57 "_law_stream" = true)
    (k57 : PySem.W.keepIn K (.ref f57) = true)
    (a58 : PySem.W.nsIn K mainGlobals "_law_looks" = some (some (.ref f58)))
    (l58 : K.lookup f58 = some ⟨oc58, od58, .func (PySem.W.fnOf "_law_looks" "_law_looks" (defArgs s_l_looks) (defBody s_l_looks) (defScope s_l_looks) .none kV58 dc58 pm58 an58 cd58 ct58), sl58⟩)
    (c58 : PySem.W.codeIn K cd58 "_law_looks" = true)
    (k58 : PySem.W.keepIn K (.ref f58) = true)
    (a59 : PySem.W.nsIn K mainGlobals "_law_parts" = some (some (.ref f59)))
    (l59 : K.lookup f59 = some ⟨oc59, od59, .func (PySem.W.fnOf "_law_parts" "_law_parts" (defArgs s_l_parts) (defBody s_l_parts) (defScope s_l_parts) .none kV59 dc59 pm59 an59 cd59 ct59), sl59⟩)
    (c59 : PySem.W.codeIn K cd59 "_law_parts" = true)
    (k59 : PySem.W.keepIn K (.ref f59) = true)
    (a60 : PySem.W.nsIn K mainGlobals "_law_meets" = some (some (.ref f60)))
    (l60 : K.lookup f60 = some ⟨oc60, od60, .func (PySem.W.fnOf "_law_meets" "_law_meets" (defArgs s_l_meets) (defBody s_l_meets) (defScope s_l_meets) .none kV60 dc60 pm60 an60 cd60 ct60), sl60⟩)
    (c60 : PySem.W.codeIn K cd60 "_law_meets" = true)
    (k60 : PySem.W.keepIn K (.ref f60) = true)
    (a61 : PySem.W.nsIn K mainGlobals "_law_lowest" = some (some (.ref f61)))
    (l61 : K.lookup f61 = some ⟨oc61, od61, .func (PySem.W.fnOf "_law_lowest" "_law_lowest" (defArgs s_l_lowest) (defBody s_l_lowest) (defScope s_l_lowest) .none kV61 dc61 pm61 an61 cd61 ct61), sl61⟩)
    (c61 : PySem.W.codeIn K cd61 "_law_lowest" = true)
    (k61 : PySem.W.keepIn K (.ref f61) = true)
    (a62 : PySem.W.nsIn K mainGlobals "_law_later" = some (some (.ref f62)))
    (l62 : K.lookup f62 = some ⟨oc62, od62, .func (PySem.W.fnOf "_law_later" "_law_later" (defArgs s_l_later) (defBody s_l_later) (defScope s_l_later) .none kV62 dc62 pm62 an62 cd62 ct62), sl62⟩)
    (c62 : PySem.W.codeIn K cd62 "_law_later" = true)
    (k62 : PySem.W.keepIn K (.ref f62) = true)
    (a63 : PySem.W.nsIn K mainGlobals "_law_stay" = some (some (.ref f63)))
    (l63 : K.lookup f63 = some ⟨oc63, od63, .func (PySem.W.fnOf "_law_stay" "_law_stay" (defArgs s_l_stay) (defBody s_l_stay) (defScope s_l_stay) .none kV63 dc63 pm63 an63 cd63 ct63), sl63⟩)
    (c63 : PySem.W.codeIn K cd63 "_law_stay" = true)
    (k63 : PySem.W.keepIn K (.ref f63) = true)
    (a64 : PySem.W.nsIn K mainGlobals "_law_wait_for" = some (some (.ref f64)))
    (l64 : K.lookup f64 = some ⟨oc64, od64, .func (PySem.W.fnOf "_law_wait_for" "_law_wait_for" (defArgs s_l_wait_for) (defBody s_l_wait_for) (defScope s_l_wait_for) .none kV64 dc64 pm64 an64 cd64 ct64), sl64⟩)
    (c64 : PySem.W.codeIn K cd64 "_law_wait_for" = true)
    (k64 : PySem.W.keepIn K (.ref f64) = true)
    (a65 : PySem.W.nsIn K mainGlobals "_law_steps" = some (some (.ref f65)))
    (l65 : K.lookup f65 = some ⟨oc65, od65, .func (PySem.W.fnOf "_law_steps" "_law_steps" (defArgs s_l_steps) (defBody s_l_steps) (defScope s_l_steps) .none kV65 dc65 pm65 an65 cd65 ct65), sl65⟩)
    (c65 : PySem.W.codeIn K cd65 "_law_steps" = true)
    (k65 : PySem.W.keepIn K (.ref f65) = true)
    (a66 : PySem.W.nsIn K mainGlobals "_law_nodes" = some (some (.ref f66)))
    (l66 : K.lookup f66 = some ⟨oc66, od66, .func (PySem.W.fnOf "_law_nodes" "_law_nodes" (defArgs s_l_nodes) (defBody s_l_nodes) (defScope s_l_nodes) .none kV66 dc66 pm66 an66 cd66 ct66), sl66⟩)
    (c66 : PySem.W.codeIn K cd66 "_law_nodes" = true)
    (k66 : PySem.W.keepIn K (.ref f66) = true)
    (a67 : PySem.W.nsIn K mainGlobals "_law_wide" = some (some (.ref f67)))
    (l67 : K.lookup f67 = some ⟨oc67, od67, .func (PySem.W.fnOf "_law_wide" "_law_wide" (defArgs s_l_wide) (defBody s_l_wide) (defScope s_l_wide) .none kV67 dc67 pm67 an67 cd67 ct67), sl67⟩)
    (c67 : PySem.W.codeIn K cd67 "_law_wide" = true)
    (k67 : PySem.W.keepIn K (.ref f67) = true)
    (a68 : PySem.W.nsIn K mainGlobals "_law_papers" = some (some (.ref f68)))
    (l68 : K.lookup f68 = some ⟨oc68, od68, .func (PySem.W.fnOf "_law_papers" "_law_papers" (defArgs s_l_papers) (defBody s_l_papers) (defScope s_l_papers) .none kV68 dc68 pm68 an68 cd68 ct68), sl68⟩)
    (c68 : PySem.W.codeIn K cd68 "_law_papers" = true)
    (k68 : PySem.W.keepIn K (.ref f68) = true)
    (a69 : PySem.W.nsIn K mainGlobals "law" = some (some (.ref f69)))
    (l69 : K.lookup f69 = some ⟨oc69, od69, .func (PySem.W.fnOf "law" "law" (defArgs s_law) (defBody s_law) (defScope s_law) .none kV69 dc69 pm69 an69 cd69 ct69), sl69⟩)
    (c69 : PySem.W.codeIn K cd69 "law" = true)
    (k69 : PySem.W.keepIn K (.ref f69) = true)
    (gBadMachine : PySem.W.nsIn K mainGlobals "BadMachine" = some (some (.ref CBadMachine)))
    (xBadMachine : PySem.W.excIn K CBadMachine [.type "ValueError", .type "Exception", .type "BaseException", .type "object"] "ValueError.__new__" = true)
    (kBadMachine : PySem.W.keepIn K (.ref CBadMachine) = true)
    (bBadMachine : PySem.W.subIn K (.ref CBadMachine) (.type "BaseException") = some true)
    (tBadMachine : PySem.W.typeIn K (.ref CBadMachine) = some (.type "type"))
    (iBadMachine : PySem.W.isClsIn K CBadMachine = true)
    (gTooMany : PySem.W.nsIn K mainGlobals "TooMany" = some (some (.ref CTooMany)))
    (xTooMany : PySem.W.excIn K CTooMany [.type "ValueError", .type "Exception", .type "BaseException", .type "object"] "ValueError.__new__" = true)
    (kTooMany : PySem.W.keepIn K (.ref CTooMany) = true)
    (bTooMany : PySem.W.subIn K (.ref CTooMany) (.type "BaseException") = some true)
    (tTooMany : PySem.W.typeIn K (.ref CTooMany) = some (.type "type"))
    (iTooMany : PySem.W.isClsIn K CTooMany = true)
    (gNoMark : PySem.W.nsIn K mainGlobals "NoMark" = some (some (.ref CNoMark)))
    (xNoMark : PySem.W.excIn K CNoMark [.type "ValueError", .type "Exception", .type "BaseException", .type "object"] "ValueError.__new__" = true)
    (kNoMark : PySem.W.keepIn K (.ref CNoMark) = true)
    (bNoMark : PySem.W.subIn K (.ref CNoMark) (.type "BaseException") = some true)
    (tNoMark : PySem.W.typeIn K (.ref CNoMark) = some (.type "type"))
    (iNoMark : PySem.W.isClsIn K CNoMark = true)
    (gNoRoom : PySem.W.nsIn K mainGlobals "NoRoom" = some (some (.ref CNoRoom)))
    (xNoRoom : PySem.W.excIn K CNoRoom [.type "ValueError", .type "Exception", .type "BaseException", .type "object"] "ValueError.__new__" = true)
    (kNoRoom : PySem.W.keepIn K (.ref CNoRoom) = true)
    (bNoRoom : PySem.W.subIn K (.ref CNoRoom) (.type "BaseException") = some true)
    (tNoRoom : PySem.W.typeIn K (.ref CNoRoom) = some (.type "type"))
    (iNoRoom : PySem.W.isClsIn K CNoRoom = true)
    (gLETTERS : PySem.W.nsIn K mainGlobals "LETTERS" = some (some (.str "abcdefghijklmnopqrstuvwxyz" uLETTERS)))
    (gMOST_DOORS : PySem.W.nsIn K mainGlobals "MOST_DOORS" = some (some (.int 200 uMOST_DOORS)))
    (gMOST_ROOMS : PySem.W.nsIn K mainGlobals "MOST_ROOMS" = some (some (.int 64 uMOST_ROOMS)))
    (gMOST_WATCHES : PySem.W.nsIn K mainGlobals "MOST_WATCHES" = some (some (.int 7 uMOST_WATCHES)))
    (gNOUGHT : PySem.W.nsIn K mainGlobals "NOUGHT" = some (some (.int 1 uNOUGHT)))
    (zabs : PySem.W.nsIn K mainGlobals "abs" = some none)
    (zall : PySem.W.nsIn K mainGlobals "all" = some none)
    (zany : PySem.W.nsIn K mainGlobals "any" = some none)
    (zbool : PySem.W.nsIn K mainGlobals "bool" = some none)
    (zdict : PySem.W.nsIn K mainGlobals "dict" = some none)
    (zenumerate : PySem.W.nsIn K mainGlobals "enumerate" = some none)
    (zint : PySem.W.nsIn K mainGlobals "int" = some none)
    (zisinstance : PySem.W.nsIn K mainGlobals "isinstance" = some none)
    (zlen : PySem.W.nsIn K mainGlobals "len" = some none)
    (zlist : PySem.W.nsIn K mainGlobals "list" = some none)
    (zmax : PySem.W.nsIn K mainGlobals "max" = some none)
    (zmin : PySem.W.nsIn K mainGlobals "min" = some none)
    (zrange : PySem.W.nsIn K mainGlobals "range" = some none)
    (zset : PySem.W.nsIn K mainGlobals "set" = some none)
    (zstr : PySem.W.nsIn K mainGlobals "str" = some none)
    (ztuple : PySem.W.nsIn K mainGlobals "tuple" = some none)
    (zzip : PySem.W.nsIn K mainGlobals "zip" = some none)
    (he4_TooMany : PySem.W.hasDictIn K CTooMany = true)
    (hs_TooMany_TooMany : PySem.W.subIn K (.ref CTooMany) (.ref CTooMany) = some true) :
    ∃ fd : FuncData, (∀ (s : Shared) (v : Value), BindsTo s fd ⟨[v], []⟩ [("_law_script", v)]) ∧ ∀ base : Heap, K.In base → base.Ns mainGlobals mg → FnOk P w K mg base CX0 11 fa fd ["_law_script"] (spLaw K) := by
  have e := hfa.symm.trans (PySem.W.mg_of X G a69)
  cases e
  have F9 := funD_mk (st := s_Door_init) (dvs := [.str ""]) l9 c9 k9 lt9 ld9 (.cons ⟨_, rfl⟩ .nil) (by simp)
  obtain ⟨dz9, vz9, bz9⟩ := F9.binds1 (ps := ["self", "start", "end", "guard", "noughts", "sign"]) 6 1 (by simp) rfl fun _ _ _ _ _ _ _ us its h1 h2 => match us, h1, its, h2 with | [_, _, _, _, _, _], _, [_], _ => ⟨_, rfl, rfl⟩
  cases vz9
  obtain ⟨dd9, vd9, bd9⟩ := F9.binds1 (ps := ["self", "start", "end", "guard", "noughts", "sign"]) 5 0 (by simp) rfl fun _ _ _ _ _ _ _ us its h1 h2 => match us, h1, its, h2 with | [_, _, _, _, _], _, [_], _ => ⟨_, rfl, rfl⟩
  have F50 := funD_mk (st := s_searched) (dvs := [.int 200, .non]) l50 c50 k50 lt50 ld50 (.cons ⟨_, rfl⟩ (.cons rfl .nil)) (by simp)
  obtain ⟨dz50, vz50, bz50⟩ := F50.binds1 (ps := ["machine", "goal", "most", "free"]) 4 2 (by simp) rfl fun _ _ _ _ _ _ _ us its h1 h2 => match us, h1, its, h2 with | [_, _, _, _], _, [_, _], _ => ⟨_, rfl, rfl⟩
  cases vz50
  obtain ⟨dd50, vd50, bd50⟩ := F50.binds1 (ps := ["machine", "goal", "most", "free"]) 2 0 (by simp) rfl fun _ _ _ _ _ _ _ us its h1 h2 => match us, h1, its, h2 with | [_, _], _, [_, _], _ => ⟨_, rfl, rfl⟩
  obtain ⟨dd50_1, vd50_1, bd50_1⟩ := F50.binds1 (ps := ["machine", "goal", "most", "free"]) 3 1 (by simp) rfl fun _ _ _ _ _ _ _ us its h1 h2 => match us, h1, its, h2 with | [_, _, _], _, [_, _], _ => ⟨_, rfl, rfl⟩
  let T : Top K mg := {
      C_Door := CDoor,
      g_Door := PySem.W.mg_of X G gDoor,
      cl_Door := ⟨pgDoor, hdDoor, poDoor, saDoor⟩,
      ty_Door := ⟨hcDoor, hnDoor, htDoor, hmDoor⟩,
      n_Door_backs := nDoor_backs,
      n_Door_end := nDoor_end,
      n_Door_looks := nDoor_looks,
      n_Door_sign := nDoor_sign,
      n_Door_start := nDoor_start,
      C_Machine := CMachine,
      g_Machine := PySem.W.mg_of X G gMachine,
      cl_Machine := ⟨pgMachine, hdMachine, poMachine, saMachine⟩,
      ty_Machine := ⟨hcMachine, hnMachine, htMachine, hmMachine⟩,
      n_Machine_door_list := nMachine_door_list,
      n_Machine_room_names := nMachine_room_names,
      n_Machine_stay_looks := nMachine_stay_looks,
      n_Machine_watch_names := nMachine_watch_names,
      t_BELOW := tBELOW,
      g_BELOW := PySem.W.mg_of X G gBELOW,
      q_BELOW := fun H => .inr ⟨oBELOW, _, nBELOW, lBELOW, cBELOW, dBELOW, small1000' (by simp), (.cons ⟨_, rfl⟩ (.cons ⟨_, rfl⟩ .nil))⟩,
      t_WORDS := tWORDS,
      g_WORDS := PySem.W.mg_of X G gWORDS,
      q_WORDS := fun H => .inr ⟨oWORDS, _, nWORDS, lWORDS, cWORDS, dWORDS, small1000' (by simp), (.cons ⟨_, rfl⟩ (.cons ⟨_, rfl⟩ (.cons ⟨_, rfl⟩ (.cons ⟨_, rfl⟩ (.cons ⟨_, rfl⟩ .nil)))))⟩,
      f_is_whole := f0,
      d_is_whole := _,
      F_is_whole := fun_mk (st := s_is_whole) l0 c0 k0,
      g_is_whole := PySem.W.mg_of X G a0,
      b_is_whole := (fun_mk (st := s_is_whole) l0 c0 k0).binds (ps := ["thing"]) fun _ _ _ _ _ _ us hl => match us, hl with | [_], _ => rfl,
      f_of_signs := f1,
      d_of_signs := _,
      F_of_signs := fun_mk (st := s_of_signs) l1 c1 k1,
      g_of_signs := PySem.W.mg_of X G a1,
      b_of_signs := (fun_mk (st := s_of_signs) l1 c1 k1).binds (ps := ["thing", "signs", "most"]) fun _ _ _ _ _ _ us hl => match us, hl with | [_, _, _], _ => rfl,
      f_is_name := f2,
      d_is_name := _,
      F_is_name := fun_mk (st := s_is_name) l2 c2 k2,
      g_is_name := PySem.W.mg_of X G a2,
      b_is_name := (fun_mk (st := s_is_name) l2 c2 k2).binds (ps := ["thing"]) fun _ _ _ _ _ _ us hl => match us, hl with | [_], _ => rfl,
      f_is_watch_name := f3,
      d_is_watch_name := _,
      F_is_watch_name := fun_mk (st := s_is_watch_name) l3 c3 k3,
      g_is_watch_name := PySem.W.mg_of X G a3,
      b_is_watch_name := (fun_mk (st := s_is_watch_name) l3 c3 k3).binds (ps := ["thing"]) fun _ _ _ _ _ _ us hl => match us, hl with | [_], _ => rfl,
      f_is_sign := f4,
      d_is_sign := _,
      F_is_sign := fun_mk (st := s_is_sign) l4 c4 k4,
      g_is_sign := PySem.W.mg_of X G a4,
      b_is_sign := (fun_mk (st := s_is_sign) l4 c4 k4).binds (ps := ["thing"]) fun _ _ _ _ _ _ us hl => match us, hl with | [_], _ => rfl,
      f_is_look := f5,
      d_is_look := _,
      F_is_look := fun_mk (st := s_is_look) l5 c5 k5,
      g_is_look := PySem.W.mg_of X G a5,
      b_is_look := (fun_mk (st := s_is_look) l5 c5 k5).binds (ps := ["thing", "words", "watches"]) fun _ _ _ _ _ _ us hl => match us, hl with | [_, _, _], _ => rfl,
      f_is_guard := f6,
      d_is_guard := _,
      F_is_guard := fun_mk (st := s_is_guard) l6 c6 k6,
      g_is_guard := PySem.W.mg_of X G a6,
      b_is_guard := (fun_mk (st := s_is_guard) l6 c6 k6).binds (ps := ["thing", "words", "watches"]) fun _ _ _ _ _ _ us hl => match us, hl with | [_, _, _], _ => rfl,
      f_unlike := f7,
      d_unlike := _,
      F_unlike := fun_mk (st := s_unlike) l7 c7 k7,
      g_unlike := PySem.W.mg_of X G a7,
      b_unlike := (fun_mk (st := s_unlike) l7 c7 k7).binds (ps := ["things"]) fun _ _ _ _ _ _ us hl => match us, hl with | [_], _ => rfl,
      f_own := f8,
      d_own := _,
      F_own := fun_mk (st := s_own) l8 c8 k8,
      g_own := PySem.W.mg_of X G a8,
      b_own := (fun_mk (st := s_own) l8 c8 k8).binds (ps := ["thing"]) fun _ _ _ _ _ _ us hl => match us, hl with | [_], _ => rfl,
      f_Door_init := f9,
      d_Door_init := _,
      F_Door_init := F9,
      mk_Door := ⟨mkDoor, a9, i9, kcDoor⟩,
      b_Door_init := bz9,
      dv_Door_init := dd9,
      v_Door_init := vd9,
      bd_Door_init := bd9,
      f_Door_asks := f10,
      d_Door_asks := _,
      F_Door_asks := fun_mk (st := s_Door_asks) l10 c10 k10,
      m_Door_asks := ⟨a10, i10, k10⟩,
      b_Door_asks := (fun_mk (st := s_Door_asks) l10 c10 k10).binds (ps := ["self"]) fun _ _ _ _ _ _ us hl => match us, hl with | [_], _ => rfl,
      f_Door_sets := f11,
      d_Door_sets := _,
      F_Door_sets := fun_mk (st := s_Door_sets) l11 c11 k11,
      m_Door_sets := ⟨a11, i11, k11⟩,
      b_Door_sets := (fun_mk (st := s_Door_sets) l11 c11 k11).binds (ps := ["self"]) fun _ _ _ _ _ _ us hl => match us, hl with | [_], _ => rfl,
      f_are_watches := f12,
      d_are_watches := _,
      F_are_watches := fun_mk (st := s_are_watches) l12 c12 k12,
      g_are_watches := PySem.W.mg_of X G a12,
      b_are_watches := (fun_mk (st := s_are_watches) l12 c12 k12).binds (ps := ["thing"]) fun _ _ _ _ _ _ us hl => match us, hl with | [_], _ => rfl,
      f_is_room := f13,
      d_is_room := _,
      F_is_room := fun_mk (st := s_is_room) l13 c13 k13,
      g_is_room := PySem.W.mg_of X G a13,
      b_is_room := (fun_mk (st := s_is_room) l13 c13 k13).binds (ps := ["thing", "watches"]) fun _ _ _ _ _ _ us hl => match us, hl with | [_, _], _ => rfl,
      f_are_rooms := f14,
      d_are_rooms := _,
      F_are_rooms := fun_mk (st := s_are_rooms) l14 c14 k14,
      g_are_rooms := PySem.W.mg_of X G a14,
      b_are_rooms := (fun_mk (st := s_are_rooms) l14 c14 k14).binds (ps := ["thing", "watches"]) fun _ _ _ _ _ _ us hl => match us, hl with | [_, _], _ => rfl,
      f_is_door := f15,
      d_is_door := _,
      F_is_door := fun_mk (st := s_is_door) l15 c15 k15,
      g_is_door := PySem.W.mg_of X G a15,
      b_is_door := (fun_mk (st := s_is_door) l15 c15 k15).binds (ps := ["thing", "watches", "names"]) fun _ _ _ _ _ _ us hl => match us, hl with | [_, _, _], _ => rfl,
      f_Machine_init := f16,
      d_Machine_init := _,
      F_Machine_init := fun_mk (st := s_Machine_init) l16 c16 k16,
      mk_Machine := ⟨mkMachine, a16, i16, kcMachine⟩,
      b_Machine_init := (fun_mk (st := s_Machine_init) l16 c16 k16).binds (ps := ["self", "watches", "rooms", "doors"]) fun _ _ _ _ _ _ us hl => match us, hl with | [_, _, _, _], _ => rfl,
      f_Machine_watches := f17,
      d_Machine_watches := _,
      F_Machine_watches := fun_mk (st := s_Machine_watches) l17 c17 k17,
      m_Machine_watches := ⟨a17, i17, k17⟩,
      b_Machine_watches := (fun_mk (st := s_Machine_watches) l17 c17 k17).binds (ps := ["self"]) fun _ _ _ _ _ _ us hl => match us, hl with | [_], _ => rfl,
      f_Machine_rooms := f18,
      d_Machine_rooms := _,
      F_Machine_rooms := fun_mk (st := s_Machine_rooms) l18 c18 k18,
      m_Machine_rooms := ⟨a18, i18, k18⟩,
      b_Machine_rooms := (fun_mk (st := s_Machine_rooms) l18 c18 k18).binds (ps := ["self"]) fun _ _ _ _ _ _ us hl => match us, hl with | [_], _ => rfl,
      f_Machine_doors := f19,
      d_Machine_doors := _,
      F_Machine_doors := fun_mk (st := s_Machine_doors) l19 c19 k19,
      m_Machine_doors := ⟨a19, i19, k19⟩,
      b_Machine_doors := (fun_mk (st := s_Machine_doors) l19 c19 k19).binds (ps := ["self"]) fun _ _ _ _ _ _ us hl => match us, hl with | [_], _ => rfl,
      f_Machine_stay := f20,
      d_Machine_stay := _,
      F_Machine_stay := fun_mk (st := s_Machine_stay) l20 c20 k20,
      m_Machine_stay := ⟨a20, i20, k20⟩,
      b_Machine_stay := (fun_mk (st := s_Machine_stay) l20 c20 k20).binds (ps := ["self", "room"]) fun _ _ _ _ _ _ us hl => match us, hl with | [_, _], _ => rfl,
      f_Machine_watch_number := f21,
      d_Machine_watch_number := _,
      F_Machine_watch_number := fun_mk (st := s_Machine_watch_number) l21 c21 k21,
      m_Machine_watch_number := ⟨a21, i21, k21⟩,
      b_Machine_watch_number := (fun_mk (st := s_Machine_watch_number) l21 c21 k21).binds (ps := ["self", "name"]) fun _ _ _ _ _ _ us hl => match us, hl with | [_, _], _ => rfl,
      f_placed := f22,
      d_placed := _,
      F_placed := fun_mk (st := s_placed) l22 c22 k22,
      g_placed := PySem.W.mg_of X G a22,
      b_placed := (fun_mk (st := s_placed) l22 c22 k22).binds (ps := ["machine", "guard"]) fun _ _ _ _ _ _ us hl => match us, hl with | [_, _], _ => rfl,
      f_at_most := f23,
      d_at_most := _,
      F_at_most := fun_mk (st := s_at_most) l23 c23 k23,
      g_at_most := PySem.W.mg_of X G a23,
      b_at_most := (fun_mk (st := s_at_most) l23 c23 k23).binds (ps := ["number"]) fun _ _ _ _ _ _ us hl => match us, hl with | [_], _ => rfl,
      f_below := f24,
      d_below := _,
      F_below := fun_mk (st := s_below) l24 c24 k24,
      g_below := PySem.W.mg_of X G a24,
      b_below := (fun_mk (st := s_below) l24 c24 k24).binds (ps := ["number"]) fun _ _ _ _ _ _ us hl => match us, hl with | [_], _ => rfl,
      f_number_of := f25,
      d_number_of := _,
      F_number_of := fun_mk (st := s_number_of) l25 c25 k25,
      g_number_of := PySem.W.mg_of X G a25,
      b_number_of := (fun_mk (st := s_number_of) l25 c25 k25).binds (ps := ["bound"]) fun _ _ _ _ _ _ us hl => match us, hl with | [_], _ => rfl,
      f_added := f26,
      d_added := _,
      F_added := fun_mk (st := s_added) l26 c26 k26,
      g_added := PySem.W.mg_of X G a26,
      b_added := (fun_mk (st := s_added) l26 c26 k26).binds (ps := ["one", "other"]) fun _ _ _ _ _ _ us hl => match us, hl with | [_, _], _ => rfl,
      f_narrower := f27,
      d_narrower := _,
      F_narrower := fun_mk (st := s_narrower) l27 c27 k27,
      g_narrower := PySem.W.mg_of X G a27,
      b_narrower := (fun_mk (st := s_narrower) l27 c27 k27).binds (ps := ["one", "other"]) fun _ _ _ _ _ _ us hl => match us, hl with | [_, _], _ => rfl,
      f_wider := f28,
      d_wider := _,
      F_wider := fun_mk (st := s_wider) l28 c28 k28,
      g_wider := PySem.W.mg_of X G a28,
      b_wider := (fun_mk (st := s_wider) l28 c28 k28).binds (ps := ["one", "other"]) fun _ _ _ _ _ _ us hl => match us, hl with | [_, _], _ => rfl,
      f_through_zones := f29,
      d_through_zones := _,
      F_through_zones := fun_mk (st := s_through_zones) l29 c29 k29,
      g_through_zones := PySem.W.mg_of X G a29,
      b_through_zones := (fun_mk (st := s_through_zones) l29 c29 k29).binds (ps := ["rows", "k"]) fun _ _ _ _ _ _ us hl => match us, hl with | [_, _], _ => rfl,
      f_narrowest := f30,
      d_narrowest := _,
      F_narrowest := fun_mk (st := s_narrowest) l30 c30 k30,
      g_narrowest := PySem.W.mg_of X G a30,
      b_narrowest := (fun_mk (st := s_narrowest) l30 c30 k30).binds (ps := ["zone"]) fun _ _ _ _ _ _ us hl => match us, hl with | [_], _ => rfl,
      f_everywhere := f31,
      d_everywhere := _,
      F_everywhere := fun_mk (st := s_everywhere) l31 c31 k31,
      g_everywhere := PySem.W.mg_of X G a31,
      b_everywhere := (fun_mk (st := s_everywhere) l31 c31 k31).binds (ps := ["many"]) fun _ _ _ _ _ _ us hl => match us, hl with | [_], _ => rfl,
      f_nought := f32,
      d_nought := _,
      F_nought := fun_mk (st := s_nought) l32 c32 k32,
      g_nought := PySem.W.mg_of X G a32,
      b_nought := (fun_mk (st := s_nought) l32 c32 k32).binds (ps := ["many"]) fun _ _ _ _ _ _ us hl => match us, hl with | [_], _ => rfl,
      f_within := f33,
      d_within := _,
      F_within := fun_mk (st := s_within) l33 c33 k33,
      g_within := PySem.W.mg_of X G a33,
      b_within := (fun_mk (st := s_within) l33 c33 k33).binds (ps := ["one", "other"]) fun _ _ _ _ _ _ us hl => match us, hl with | [_, _], _ => rfl,
      f_copied := f34,
      d_copied := _,
      F_copied := fun_mk (st := s_copied) l34 c34 k34,
      g_copied := PySem.W.mg_of X G a34,
      b_copied := (fun_mk (st := s_copied) l34 c34 k34).binds (ps := ["zone"]) fun _ _ _ _ _ _ us hl => match us, hl with | [_], _ => rfl,
      f_met := f35,
      d_met := _,
      F_met := fun_mk (st := s_met) l35 c35 k35,
      g_met := PySem.W.mg_of X G a35,
      b_met := (fun_mk (st := s_met) l35 c35 k35).binds (ps := ["zone", "guard"]) fun _ _ _ _ _ _ us hl => match us, hl with | [_, _], _ => rfl,
      f_waited := f36,
      d_waited := _,
      F_waited := fun_mk (st := s_waited) l36 c36 k36,
      g_waited := PySem.W.mg_of X G a36,
      b_waited := (fun_mk (st := s_waited) l36 c36 k36).binds (ps := ["zone"]) fun _ _ _ _ _ _ us hl => match us, hl with | [_], _ => rfl,
      f_put_back := f37,
      d_put_back := _,
      F_put_back := fun_mk (st := s_put_back) l37 c37 k37,
      g_put_back := PySem.W.mg_of X G a37,
      b_put_back := (fun_mk (st := s_put_back) l37 c37 k37).binds (ps := ["zone", "places"]) fun _ _ _ _ _ _ us hl => match us, hl with | [_, _], _ => rfl,
      f_freed := f38,
      d_freed := _,
      F_freed := fun_mk (st := s_freed) l38 c38 k38,
      g_freed := PySem.W.mg_of X G a38,
      b_freed := (fun_mk (st := s_freed) l38 c38 k38).binds (ps := ["zone", "place"]) fun _ _ _ _ _ _ us hl => match us, hl with | [_, _], _ => rfl,
      f_folded := f39,
      d_folded := _,
      F_folded := fun_mk (st := s_folded) l39 c39 k39,
      g_folded := PySem.W.mg_of X G a39,
      b_folded := (fun_mk (st := s_folded) l39 c39 k39).binds (ps := ["zone", "mosts"]) fun _ _ _ _ _ _ us hl => match us, hl with | [_, _], _ => rfl,
      f_checked_goal := f40,
      d_checked_goal := _,
      F_checked_goal := fun_mk (st := s_checked_goal) l40 c40 k40,
      g_checked_goal := PySem.W.mg_of X G a40,
      b_checked_goal := (fun_mk (st := s_checked_goal) l40 c40 k40).binds (ps := ["machine", "goal"]) fun _ _ _ _ _ _ us hl => match us, hl with | [_, _], _ => rfl,
      f_hit_by := f41,
      d_hit_by := _,
      F_hit_by := fun_mk (st := s_hit_by) l41 c41 k41,
      g_hit_by := PySem.W.mg_of X G a41,
      b_hit_by := (fun_mk (st := s_hit_by) l41 c41 k41).binds (ps := ["machine", "goal", "room", "zone"]) fun _ _ _ _ _ _ us hl => match us, hl with | [_, _, _, _], _ => rfl,
      f_guards_of := f42,
      d_guards_of := _,
      F_guards_of := fun_mk (st := s_guards_of) l42 c42 k42,
      g_guards_of := PySem.W.mg_of X G a42,
      b_guards_of := (fun_mk (st := s_guards_of) l42 c42 k42).binds (ps := ["machine", "goal"]) fun _ _ _ _ _ _ us hl => match us, hl with | [_, _], _ => rfl,
      f_greatest := f43,
      d_greatest := _,
      F_greatest := fun_mk (st := s_greatest) l43 c43 k43,
      g_greatest := PySem.W.mg_of X G a43,
      b_greatest := (fun_mk (st := s_greatest) l43 c43 k43).binds (ps := ["machine", "goal"]) fun _ _ _ _ _ _ us hl => match us, hl with | [_, _], _ => rfl,
      f_settled := f44,
      d_settled := _,
      F_settled := fun_mk (st := s_settled) l44 c44 k44,
      g_settled := PySem.W.mg_of X G a44,
      b_settled := (fun_mk (st := s_settled) l44 c44 k44).binds (ps := ["machine", "room", "zone", "mosts", "free"]) fun _ _ _ _ _ _ us hl => match us, hl with | [_, _, _, _, _], _ => rfl,
      f_through_search := f45,
      d_through_search := _,
      F_through_search := fun_mk (st := s_through_search) l45 c45 k45,
      g_through_search := PySem.W.mg_of X G a45,
      b_through_search := (fun_mk (st := s_through_search) l45 c45 k45).binds (ps := ["machine", "zone", "door"]) fun _ _ _ _ _ _ us hl => match us, hl with | [_, _, _], _ => rfl,
      f_next_node := f46,
      d_next_node := _,
      F_next_node := fun_mk (st := s_next_node) l46 c46 k46,
      g_next_node := PySem.W.mg_of X G a46,
      b_next_node := (fun_mk (st := s_next_node) l46 c46 k46).binds (ps := ["machine", "nodes", "at", "number", "mosts", "free"]) fun _ _ _ _ _ _ us hl => match us, hl with | [_, _, _, _, _, _], _ => rfl,
      f_is_new := f47,
      d_is_new := _,
      F_is_new := fun_mk (st := s_is_new) l47 c47 k47,
      g_is_new := PySem.W.mg_of X G a47,
      b_is_new := (fun_mk (st := s_is_new) l47 c47 k47).binds (ps := ["nodes", "node"]) fun _ _ _ _ _ _ us hl => match us, hl with | [_, _], _ => rfl,
      f_put := f48,
      d_put := _,
      F_put := fun_mk (st := s_put) l48 c48 k48,
      g_put := PySem.W.mg_of X G a48,
      b_put := (fun_mk (st := s_put) l48 c48 k48).binds (ps := ["nodes", "node", "most"]) fun _ _ _ _ _ _ us hl => match us, hl with | [_, _, _], _ => rfl,
      f_listed := f49,
      d_listed := _,
      F_listed := fun_mk (st := s_listed) l49 c49 k49,
      g_listed := PySem.W.mg_of X G a49,
      b_listed := (fun_mk (st := s_listed) l49 c49 k49).binds (ps := ["machine", "goal", "most", "free", "stops"]) fun _ _ _ _ _ _ us hl => match us, hl with | [_, _, _, _, _], _ => rfl,
      dv1_searched := dd50_1,
      v1_searched := vd50_1,
      bd1_searched := bd50_1,
      f_searched := f50,
      d_searched := _,
      F_searched := F50,
      g_searched := PySem.W.mg_of X G a50,
      b_searched := bz50,
      dv_searched := dd50,
      v_searched := vd50,
      bd_searched := bd50,
      f_narrow_zones := f51,
      d_narrow_zones := _,
      F_narrow_zones := fun_mk (st := s_narrow_zones) l51 c51 k51,
      g_narrow_zones := PySem.W.mg_of X G a51,
      b_narrow_zones := (fun_mk (st := s_narrow_zones) l51 c51 k51).binds (ps := ["machine", "paper"]) fun _ _ _ _ _ _ us hl => match us, hl with | [_, _], _ => rfl,
      f_covered := f52,
      d_covered := _,
      F_covered := fun_mk (st := s_covered) l52 c52 k52,
      g_covered := PySem.W.mg_of X G a52,
      b_covered := (fun_mk (st := s_covered) l52 c52 k52).binds (ps := ["zones", "zone"]) fun _ _ _ _ _ _ us hl => match us, hl with | [_, _], _ => rfl,
      f_in_stay := f53,
      d_in_stay := _,
      F_in_stay := fun_mk (st := s_in_stay) l53 c53 k53,
      g_in_stay := PySem.W.mg_of X G a53,
      b_in_stay := (fun_mk (st := s_in_stay) l53 c53 k53).binds (ps := ["machine", "room", "zone"]) fun _ _ _ _ _ _ us hl => match us, hl with | [_, _, _], _ => rfl,
      f_is_closed := f54,
      d_is_closed := _,
      F_is_closed := fun_mk (st := s_is_closed) l54 c54 k54,
      g_is_closed := PySem.W.mg_of X G a54,
      b_is_closed := (fun_mk (st := s_is_closed) l54 c54 k54).binds (ps := ["machine", "zones", "room", "zone"]) fun _ _ _ _ _ _ us hl => match us, hl with | [_, _, _, _], _ => rfl,
      f_lets_by := f55,
      d_lets_by := _,
      F_lets_by := fun_mk (st := s_lets_by) l55 c55 k55,
      g_lets_by := PySem.W.mg_of X G a55,
      b_lets_by := (fun_mk (st := s_lets_by) l55 c55 k55).binds (ps := ["machine", "goal", "paper"]) fun _ _ _ _ _ _ us hl => match us, hl with | [_, _, _], _ => rfl,
      f_l_cell_at := f56,
      d_l_cell_at := _,
      F_l_cell_at := fun_mk (st := s_l_cell_at) l56 c56 k56,
      g_l_cell_at := PySem.W.mg_of X G a56,
      b_l_cell_at := (fun_mk (st := s_l_cell_at) l56 c56 k56).binds (ps := ["_law_script", "_law_k"]) fun _ _ _ _ _ _ us hl => match us, hl with | [_, _], _ => rfl,
      f_l_stream := f57,
      d_l_stream := _,
      F_l_stream := fun_mk (st := s_l_stream) l57 c57 k57,
      g_l_stream := PySem.W.mg_of X G a57,
      b_l_stream := (fun_mk (st := s_l_stream) l57 c57 k57).binds (ps := ["_law_cell", "_law_many"]) fun _ _ _ _ _ _ us hl => match us, hl with | [_, _], _ => rfl,
      f_l_looks := f58,
      d_l_looks := _,
      F_l_looks := fun_mk (st := s_l_looks) l58 c58 k58,
      g_l_looks := PySem.W.mg_of X G a58,
      b_l_looks := (fun_mk (st := s_l_looks) l58 c58 k58).binds (ps := ["_law_xs", "_law_many", "_law_watches", "_law_unit", "_law_words"]) fun _ _ _ _ _ _ us hl => match us, hl with | [_, _, _, _, _], _ => rfl,
      f_l_parts := f59,
      d_l_parts := _,
      F_l_parts := fun_mk (st := s_l_parts) l59 c59 k59,
      g_l_parts := PySem.W.mg_of X G a59,
      b_l_parts := (fun_mk (st := s_l_parts) l59 c59 k59).binds (ps := ["_law_script", "_law_watches", "_law_unit"]) fun _ _ _ _ _ _ us hl => match us, hl with | [_, _, _], _ => rfl,
      f_l_meets := f60,
      d_l_meets := _,
      F_l_meets := fun_mk (st := s_l_meets) l60 c60 k60,
      g_l_meets := PySem.W.mg_of X G a60,
      b_l_meets := (fun_mk (st := s_l_meets) l60 c60 k60).binds (ps := ["_law_looks_here", "_law_values"]) fun _ _ _ _ _ _ us hl => match us, hl with | [_, _], _ => rfl,
      f_l_lowest := f61,
      d_l_lowest := _,
      F_l_lowest := fun_mk (st := s_l_lowest) l61 c61 k61,
      g_l_lowest := PySem.W.mg_of X G a61,
      b_l_lowest := (fun_mk (st := s_l_lowest) l61 c61 k61).binds (ps := ["_law_top", "_law_bottom"]) fun _ _ _ _ _ _ us hl => match us, hl with | [_, _], _ => rfl,
      f_l_later := f62,
      d_l_later := _,
      F_l_later := fun_mk (st := s_l_later) l62 c62 k62,
      g_l_later := PySem.W.mg_of X G a62,
      b_l_later := (fun_mk (st := s_l_later) l62 c62 k62).binds (ps := ["_law_values", "_law_wait"]) fun _ _ _ _ _ _ us hl => match us, hl with | [_, _], _ => rfl,
      f_l_stay := f63,
      d_l_stay := _,
      F_l_stay := fun_mk (st := s_l_stay) l63 c63 k63,
      g_l_stay := PySem.W.mg_of X G a63,
      b_l_stay := (fun_mk (st := s_l_stay) l63 c63 k63).binds (ps := ["_law_rooms", "_law_room"]) fun _ _ _ _ _ _ us hl => match us, hl with | [_, _], _ => rfl,
      f_l_wait_for := f64,
      d_l_wait_for := _,
      F_l_wait_for := fun_mk (st := s_l_wait_for) l64 c64 k64,
      g_l_wait_for := PySem.W.mg_of X G a64,
      b_l_wait_for := (fun_mk (st := s_l_wait_for) l64 c64 k64).binds (ps := ["_law_guard", "_law_values", "_law_x", "_law_unit"]) fun _ _ _ _ _ _ us hl => match us, hl with | [_, _, _, _], _ => rfl,
      f_l_steps := f65,
      d_l_steps := _,
      F_l_steps := fun_mk (st := s_l_steps) l65 c65 k65,
      g_l_steps := PySem.W.mg_of X G a65,
      b_l_steps := (fun_mk (st := s_l_steps) l65 c65 k65).binds (ps := ["_law_rooms", "_law_doors", "_law_goal", "_law_cells", "_law_watches", "_law_unit"]) fun _ _ _ _ _ _ us hl => match us, hl with | [_, _, _, _, _, _], _ => rfl,
      f_l_nodes := f66,
      d_l_nodes := _,
      F_l_nodes := fun_mk (st := s_l_nodes) l66 c66 k66,
      g_l_nodes := PySem.W.mg_of X G a66,
      b_l_nodes := (fun_mk (st := s_l_nodes) l66 c66 k66).binds (ps := ["_law_machine", "_law_goal"]) fun _ _ _ _ _ _ us hl => match us, hl with | [_, _], _ => rfl,
      f_l_wide := f67,
      d_l_wide := _,
      F_l_wide := fun_mk (st := s_l_wide) l67 c67 k67,
      g_l_wide := PySem.W.mg_of X G a67,
      b_l_wide := (fun_mk (st := s_l_wide) l67 c67 k67).binds (ps := ["_law_zone", "_law_cell"]) fun _ _ _ _ _ _ us hl => match us, hl with | [_, _], _ => rfl,
      f_l_papers := f68,
      d_l_papers := _,
      F_l_papers := fun_mk (st := s_l_papers) l68 c68 k68,
      g_l_papers := PySem.W.mg_of X G a68,
      b_l_papers := (fun_mk (st := s_l_papers) l68 c68 k68).binds (ps := ["_law_machine", "_law_goal", "_law_cell", "_law_many"]) fun _ _ _ _ _ _ us hl => match us, hl with | [_, _, _, _], _ => rfl,
      f_law := fa,
      d_law := _,
      F_law := fun_mk (st := s_law) l69 c69 k69,
      g_law := PySem.W.mg_of X G a69,
      b_law := (fun_mk (st := s_law) l69 c69 k69).binds (ps := ["_law_script"]) fun _ _ _ _ _ _ us hl => match us, hl with | [_], _ => rfl,
      C_BadMachine := CBadMachine,
      g_BadMachine := PySem.W.mg_of X G gBadMachine,
      x_BadMachine := xBadMachine,
      k_BadMachine := kBadMachine,
      b_BadMachine := bBadMachine,
      t_BadMachine := tBadMachine,
      i_BadMachine := iBadMachine,
      C_TooMany := CTooMany,
      g_TooMany := PySem.W.mg_of X G gTooMany,
      x_TooMany := xTooMany,
      k_TooMany := kTooMany,
      b_TooMany := bTooMany,
      t_TooMany := tTooMany,
      i_TooMany := iTooMany,
      C_NoMark := CNoMark,
      g_NoMark := PySem.W.mg_of X G gNoMark,
      x_NoMark := xNoMark,
      k_NoMark := kNoMark,
      b_NoMark := bNoMark,
      t_NoMark := tNoMark,
      i_NoMark := iNoMark,
      C_NoRoom := CNoRoom,
      g_NoRoom := PySem.W.mg_of X G gNoRoom,
      x_NoRoom := xNoRoom,
      k_NoRoom := kNoRoom,
      b_NoRoom := bNoRoom,
      t_NoRoom := tNoRoom,
      i_NoRoom := iNoRoom,
      t_LETTERS := uLETTERS,
      g_LETTERS := PySem.W.mg_of X G gLETTERS,
      t_MOST_DOORS := uMOST_DOORS,
      g_MOST_DOORS := PySem.W.mg_of X G gMOST_DOORS,
      t_MOST_ROOMS := uMOST_ROOMS,
      g_MOST_ROOMS := PySem.W.mg_of X G gMOST_ROOMS,
      t_MOST_WATCHES := uMOST_WATCHES,
      g_MOST_WATCHES := PySem.W.mg_of X G gMOST_WATCHES,
      t_NOUGHT := uNOUGHT,
      g_NOUGHT := PySem.W.mg_of X G gNOUGHT,
      m_abs := PySem.W.mg_none_of X G zabs,
      m_all := PySem.W.mg_none_of X G zall,
      m_any := PySem.W.mg_none_of X G zany,
      m_bool := PySem.W.mg_none_of X G zbool,
      m_dict := PySem.W.mg_none_of X G zdict,
      m_enumerate := PySem.W.mg_none_of X G zenumerate,
      m_int := PySem.W.mg_none_of X G zint,
      m_isinstance := PySem.W.mg_none_of X G zisinstance,
      m_len := PySem.W.mg_none_of X G zlen,
      m_list := PySem.W.mg_none_of X G zlist,
      m_max := PySem.W.mg_none_of X G zmax,
      m_min := PySem.W.mg_none_of X G zmin,
      m_range := PySem.W.mg_none_of X G zrange,
      m_set := PySem.W.mg_none_of X G zset,
      m_str := PySem.W.mg_none_of X G zstr,
      m_tuple := PySem.W.mg_none_of X G ztuple,
      m_zip := PySem.W.mg_none_of X G zzip,
      e4_TooMany := he4_TooMany,
      s_TooMany_TooMany := hs_TooMany_TooMany }
  exact ⟨_, fun s v => .of_eq rfl, fun base _ _ => ok_law T⟩
end ZW
open PySem PySem.W PyProof.Rows
set_option maxRecDepth 100000 in
set_option maxHeartbeats 0 in
theorem PySem.Challenge.cw_zonewalk_k62_whole_papers_hold_holds : PySem.Challenge.rw_zonewalk_k62_whole_papers_hold.Holds := by
  w_on; o_law; k_head; (case hw => w_witness2)
  k_fill
  refine L2.walk_of (l := PySem.Challenge.rw_zonewalk_k62_whole_papers_hold) (n := 63) (k := 11) (x := "_law_script") (CX := fun _ => L2.CX0) (sp := fun w => ZW.spLaw _) rfl (by decide) rfl ⟨rfl, by decide, by decide⟩ (fun w h Y => PySem.W.kIn_of Y) ?F (fun _ _ a ns hl _ hS => ⟨a, ns, rfl, hS, hl, fun _ => rfl⟩) (fun _ _ _ _ _ h => h)
  case F =>
    intro w mg fa h KX G hmg
    refine' ZW.all_mk KX G hmg ?gDoor ?pgDoor ?hdDoor ?poDoor ?saDoor ?mkDoor ?kcDoor ?hcDoor ?hnDoor ?htDoor ?hmDoor ?nDoor_backs ?nDoor_end ?nDoor_looks ?nDoor_sign ?nDoor_start ?gMachine ?pgMachine ?hdMachine ?poMachine ?saMachine ?mkMachine ?kcMachine ?hcMachine ?hnMachine ?htMachine ?hmMachine ?nMachine_door_list ?nMachine_room_names ?nMachine_stay_looks ?nMachine_watch_names ?gBELOW ?lBELOW ?cBELOW ?dBELOW ?gWORDS ?lWORDS ?cWORDS ?dWORDS ?a0 ?l0 ?c0 ?k0 ?a1 ?l1 ?c1 ?k1 ?a2 ?l2 ?c2 ?k2 ?a3 ?l3 ?c3 ?k3 ?a4 ?l4 ?c4 ?k4 ?a5 ?l5 ?c5 ?k5 ?a6 ?l6 ?c6 ?k6 ?a7 ?l7 ?c7 ?k7 ?a8 ?l8 ?c8 ?k8 ?a9 ?i9 ?l9 ?c9 ?k9 ?lt9 ?ld9 ?a10 ?i10 ?l10 ?c10 ?k10 ?a11 ?i11 ?l11 ?c11 ?k11 ?a12 ?l12 ?c12 ?k12 ?a13 ?l13 ?c13 ?k13 ?a14 ?l14 ?c14 ?k14 ?a15 ?l15 ?c15 ?k15 ?a16 ?i16 ?l16 ?c16 ?k16 ?a17 ?i17 ?l17 ?c17 ?k17 ?a18 ?i18 ?l18 ?c18 ?k18 ?a19 ?i19 ?l19 ?c19 ?k19 ?a20 ?i20 ?l20 ?c20 ?k20 ?a21 ?i21 ?l21 ?c21 ?k21 ?a22 ?l22 ?c22 ?k22 ?a23 ?l23 ?c23 ?k23 ?a24 ?l24 ?c24 ?k24 ?a25 ?l25 ?c25 ?k25 ?a26 ?l26 ?c26 ?k26 ?a27 ?l27 ?c27 ?k27 ?a28 ?l28 ?c28 ?k28 ?a29 ?l29 ?c29 ?k29 ?a30 ?l30 ?c30 ?k30 ?a31 ?l31 ?c31 ?k31 ?a32 ?l32 ?c32 ?k32 ?a33 ?l33 ?c33 ?k33 ?a34 ?l34 ?c34 ?k34 ?a35 ?l35 ?c35 ?k35 ?a36 ?l36 ?c36 ?k36 ?a37 ?l37 ?c37 ?k37 ?a38 ?l38 ?c38 ?k38 ?a39 ?l39 ?c39 ?k39 ?a40 ?l40 ?c40 ?k40 ?a41 ?l41 ?c41 ?k41 ?a42 ?l42 ?c42 ?k42 ?a43 ?l43 ?c43 ?k43 ?a44 ?l44 ?c44 ?k44 ?a45 ?l45 ?c45 ?k45 ?a46 ?l46 ?c46 ?k46 ?a47 ?l47 ?c47 ?k47 ?a48 ?l48 ?c48 ?k48 ?a49 ?l49 ?c49 ?k49 ?a50 ?l50 ?c50 ?k50 ?lt50 ?ld50 ?a51 ?l51 ?c51 ?k51 ?a52 ?l52 ?c52 ?k52 ?a53 ?l53 ?c53 ?k53 ?a54 ?l54 ?c54 ?k54 ?a55 ?l55 ?c55 ?k55 ?a56 ?l56 ?c56 ?k56 ?a57 ?l57 ?c57 ?k57 ?a58 ?l58 ?c58 ?k58 ?a59 ?l59 ?c59 ?k59 ?a60 ?l60 ?c60 ?k60 ?a61 ?l61 ?c61 ?k61 ?a62 ?l62 ?c62 ?k62 ?a63 ?l63 ?c63 ?k63 ?a64 ?l64 ?c64 ?k64 ?a65 ?l65 ?c65 ?k65 ?a66 ?l66 ?c66 ?k66 ?a67 ?l67 ?c67 ?k67 ?a68 ?l68 ?c68 ?k68 ?a69 ?l69 ?c69 ?k69 ?gBadMachine ?xBadMachine ?kBadMachine ?bBadMachine ?tBadMachine ?iBadMachine ?gTooMany ?xTooMany ?kTooMany ?bTooMany ?tTooMany ?iTooMany ?gNoMark ?xNoMark ?kNoMark ?bNoMark ?tNoMark ?iNoMark ?gNoRoom ?xNoRoom ?kNoRoom ?bNoRoom ?tNoRoom ?iNoRoom ?gLETTERS ?gMOST_DOORS ?gMOST_ROOMS ?gMOST_WATCHES ?gNOUGHT ?zabs ?zall ?zany ?zbool ?zdict ?zenumerate ?zint ?zisinstance ?zlen ?zlist ?zmax ?zmin ?zrange ?zset ?zstr ?ztuple ?zzip ?he4_TooMany ?hs_TooMany_TooMany
    (case gDoor => first | k_is | k_exc | rfl)
    (case pgDoor => first | k_is | k_exc | rfl)
    (case hdDoor => first | k_is | k_exc | rfl)
    (case poDoor => first | k_is | k_exc | rfl)
    (case saDoor => first | k_is | k_exc | rfl)
    (case mkDoor => first | k_is | k_exc | rfl)
    (case kcDoor => first | k_is | k_exc | rfl)
    (case hcDoor => first | k_is | k_exc | rfl)
    (case hnDoor => first | k_is | k_exc | rfl)
    (case htDoor => first | k_is | k_exc | rfl)
    (case hmDoor => first | k_is | k_exc | rfl)
    (case nDoor_backs => first | k_is | k_exc | rfl)
    (case nDoor_end => first | k_is | k_exc | rfl)
    (case nDoor_looks => first | k_is | k_exc | rfl)
    (case nDoor_sign => first | k_is | k_exc | rfl)
    (case nDoor_start => first | k_is | k_exc | rfl)
    (case gMachine => first | k_is | k_exc | rfl)
    (case pgMachine => first | k_is | k_exc | rfl)
    (case hdMachine => first | k_is | k_exc | rfl)
    (case poMachine => first | k_is | k_exc | rfl)
    (case saMachine => first | k_is | k_exc | rfl)
    (case mkMachine => first | k_is | k_exc | rfl)
    (case kcMachine => first | k_is | k_exc | rfl)
    (case hcMachine => first | k_is | k_exc | rfl)
    (case hnMachine => first | k_is | k_exc | rfl)
    (case htMachine => first | k_is | k_exc | rfl)
    (case hmMachine => first | k_is | k_exc | rfl)
    (case nMachine_door_list => first | k_is | k_exc | rfl)
    (case nMachine_room_names => first | k_is | k_exc | rfl)
    (case nMachine_stay_looks => first | k_is | k_exc | rfl)
    (case nMachine_watch_names => first | k_is | k_exc | rfl)
    (case gBELOW => first | k_is | k_exc | rfl)
    (case lBELOW => first | k_is | k_exc | rfl)
    (case cBELOW => first | k_is | k_exc | rfl)
    (case dBELOW => first | k_is | k_exc | rfl)
    (case gWORDS => first | k_is | k_exc | rfl)
    (case lWORDS => first | k_is | k_exc | rfl)
    (case cWORDS => first | k_is | k_exc | rfl)
    (case dWORDS => first | k_is | k_exc | rfl)
    (case a0 => first | k_is | k_exc | rfl)
    (case l0 => first | k_is | k_exc | rfl)
    (case c0 => first | k_is | k_exc | rfl)
    (case k0 => first | k_is | k_exc | rfl)
    (case a1 => first | k_is | k_exc | rfl)
    (case l1 => first | k_is | k_exc | rfl)
    (case c1 => first | k_is | k_exc | rfl)
    (case k1 => first | k_is | k_exc | rfl)
    (case a2 => first | k_is | k_exc | rfl)
    (case l2 => first | k_is | k_exc | rfl)
    (case c2 => first | k_is | k_exc | rfl)
    (case k2 => first | k_is | k_exc | rfl)
    (case a3 => first | k_is | k_exc | rfl)
    (case l3 => first | k_is | k_exc | rfl)
    (case c3 => first | k_is | k_exc | rfl)
    (case k3 => first | k_is | k_exc | rfl)
    (case a4 => first | k_is | k_exc | rfl)
    (case l4 => first | k_is | k_exc | rfl)
    (case c4 => first | k_is | k_exc | rfl)
    (case k4 => first | k_is | k_exc | rfl)
    (case a5 => first | k_is | k_exc | rfl)
    (case l5 => first | k_is | k_exc | rfl)
    (case c5 => first | k_is | k_exc | rfl)
    (case k5 => first | k_is | k_exc | rfl)
    (case a6 => first | k_is | k_exc | rfl)
    (case l6 => first | k_is | k_exc | rfl)
    (case c6 => first | k_is | k_exc | rfl)
    (case k6 => first | k_is | k_exc | rfl)
    (case a7 => first | k_is | k_exc | rfl)
    (case l7 => first | k_is | k_exc | rfl)
    (case c7 => first | k_is | k_exc | rfl)
    (case k7 => first | k_is | k_exc | rfl)
    (case a8 => first | k_is | k_exc | rfl)
    (case l8 => first | k_is | k_exc | rfl)
    (case c8 => first | k_is | k_exc | rfl)
    (case k8 => first | k_is | k_exc | rfl)
    (case a9 => first | k_is | k_exc | rfl)
    (case i9 => first | k_is | k_exc | rfl)
    (case l9 => first | k_is | k_exc | rfl)
    (case c9 => first | k_is | k_exc | rfl)
    (case k9 => first | k_is | k_exc | rfl)
    (case lt9 => first | k_is | k_exc | rfl)
    (case ld9 => first | k_is | k_exc | rfl)
    (case a10 => first | k_is | k_exc | rfl)
    (case i10 => first | k_is | k_exc | rfl)
    (case l10 => first | k_is | k_exc | rfl)
    (case c10 => first | k_is | k_exc | rfl)
    (case k10 => first | k_is | k_exc | rfl)
    (case a11 => first | k_is | k_exc | rfl)
    (case i11 => first | k_is | k_exc | rfl)
    (case l11 => first | k_is | k_exc | rfl)
    (case c11 => first | k_is | k_exc | rfl)
    (case k11 => first | k_is | k_exc | rfl)
    (case a12 => first | k_is | k_exc | rfl)
    (case l12 => first | k_is | k_exc | rfl)
    (case c12 => first | k_is | k_exc | rfl)
    (case k12 => first | k_is | k_exc | rfl)
    (case a13 => first | k_is | k_exc | rfl)
    (case l13 => first | k_is | k_exc | rfl)
    (case c13 => first | k_is | k_exc | rfl)
    (case k13 => first | k_is | k_exc | rfl)
    (case a14 => first | k_is | k_exc | rfl)
    (case l14 => first | k_is | k_exc | rfl)
    (case c14 => first | k_is | k_exc | rfl)
    (case k14 => first | k_is | k_exc | rfl)
    (case a15 => first | k_is | k_exc | rfl)
    (case l15 => first | k_is | k_exc | rfl)
    (case c15 => first | k_is | k_exc | rfl)
    (case k15 => first | k_is | k_exc | rfl)
    (case a16 => first | k_is | k_exc | rfl)
    (case i16 => first | k_is | k_exc | rfl)
    (case l16 => first | k_is | k_exc | rfl)
    (case c16 => first | k_is | k_exc | rfl)
    (case k16 => first | k_is | k_exc | rfl)
    (case a17 => first | k_is | k_exc | rfl)
    (case i17 => first | k_is | k_exc | rfl)
    (case l17 => first | k_is | k_exc | rfl)
    (case c17 => first | k_is | k_exc | rfl)
    (case k17 => first | k_is | k_exc | rfl)
    (case a18 => first | k_is | k_exc | rfl)
    (case i18 => first | k_is | k_exc | rfl)
    (case l18 => first | k_is | k_exc | rfl)
    (case c18 => first | k_is | k_exc | rfl)
    (case k18 => first | k_is | k_exc | rfl)
    (case a19 => first | k_is | k_exc | rfl)
    (case i19 => first | k_is | k_exc | rfl)
    (case l19 => first | k_is | k_exc | rfl)
    (case c19 => first | k_is | k_exc | rfl)
    (case k19 => first | k_is | k_exc | rfl)
    (case a20 => first | k_is | k_exc | rfl)
    (case i20 => first | k_is | k_exc | rfl)
    (case l20 => first | k_is | k_exc | rfl)
    (case c20 => first | k_is | k_exc | rfl)
    (case k20 => first | k_is | k_exc | rfl)
    (case a21 => first | k_is | k_exc | rfl)
    (case i21 => first | k_is | k_exc | rfl)
    (case l21 => first | k_is | k_exc | rfl)
    (case c21 => first | k_is | k_exc | rfl)
    (case k21 => first | k_is | k_exc | rfl)
    (case a22 => first | k_is | k_exc | rfl)
    (case l22 => first | k_is | k_exc | rfl)
    (case c22 => first | k_is | k_exc | rfl)
    (case k22 => first | k_is | k_exc | rfl)
    (case a23 => first | k_is | k_exc | rfl)
    (case l23 => first | k_is | k_exc | rfl)
    (case c23 => first | k_is | k_exc | rfl)
    (case k23 => first | k_is | k_exc | rfl)
    (case a24 => first | k_is | k_exc | rfl)
    (case l24 => first | k_is | k_exc | rfl)
    (case c24 => first | k_is | k_exc | rfl)
    (case k24 => first | k_is | k_exc | rfl)
    (case a25 => first | k_is | k_exc | rfl)
    (case l25 => first | k_is | k_exc | rfl)
    (case c25 => first | k_is | k_exc | rfl)
    (case k25 => first | k_is | k_exc | rfl)
    (case a26 => first | k_is | k_exc | rfl)
    (case l26 => first | k_is | k_exc | rfl)
    (case c26 => first | k_is | k_exc | rfl)
    (case k26 => first | k_is | k_exc | rfl)
    (case a27 => first | k_is | k_exc | rfl)
    (case l27 => first | k_is | k_exc | rfl)
    (case c27 => first | k_is | k_exc | rfl)
    (case k27 => first | k_is | k_exc | rfl)
    (case a28 => first | k_is | k_exc | rfl)
    (case l28 => first | k_is | k_exc | rfl)
    (case c28 => first | k_is | k_exc | rfl)
    (case k28 => first | k_is | k_exc | rfl)
    (case a29 => first | k_is | k_exc | rfl)
    (case l29 => first | k_is | k_exc | rfl)
    (case c29 => first | k_is | k_exc | rfl)
    (case k29 => first | k_is | k_exc | rfl)
    (case a30 => first | k_is | k_exc | rfl)
    (case l30 => first | k_is | k_exc | rfl)
    (case c30 => first | k_is | k_exc | rfl)
    (case k30 => first | k_is | k_exc | rfl)
    (case a31 => first | k_is | k_exc | rfl)
    (case l31 => first | k_is | k_exc | rfl)
    (case c31 => first | k_is | k_exc | rfl)
    (case k31 => first | k_is | k_exc | rfl)
    (case a32 => first | k_is | k_exc | rfl)
    (case l32 => first | k_is | k_exc | rfl)
    (case c32 => first | k_is | k_exc | rfl)
    (case k32 => first | k_is | k_exc | rfl)
    (case a33 => first | k_is | k_exc | rfl)
    (case l33 => first | k_is | k_exc | rfl)
    (case c33 => first | k_is | k_exc | rfl)
    (case k33 => first | k_is | k_exc | rfl)
    (case a34 => first | k_is | k_exc | rfl)
    (case l34 => first | k_is | k_exc | rfl)
    (case c34 => first | k_is | k_exc | rfl)
    (case k34 => first | k_is | k_exc | rfl)
    (case a35 => first | k_is | k_exc | rfl)
    (case l35 => first | k_is | k_exc | rfl)
    (case c35 => first | k_is | k_exc | rfl)
    (case k35 => first | k_is | k_exc | rfl)
    (case a36 => first | k_is | k_exc | rfl)
    (case l36 => first | k_is | k_exc | rfl)
    (case c36 => first | k_is | k_exc | rfl)
    (case k36 => first | k_is | k_exc | rfl)
    (case a37 => first | k_is | k_exc | rfl)
    (case l37 => first | k_is | k_exc | rfl)
    (case c37 => first | k_is | k_exc | rfl)
    (case k37 => first | k_is | k_exc | rfl)
    (case a38 => first | k_is | k_exc | rfl)
    (case l38 => first | k_is | k_exc | rfl)
    (case c38 => first | k_is | k_exc | rfl)
    (case k38 => first | k_is | k_exc | rfl)
    (case a39 => first | k_is | k_exc | rfl)
    (case l39 => first | k_is | k_exc | rfl)
    (case c39 => first | k_is | k_exc | rfl)
    (case k39 => first | k_is | k_exc | rfl)
    (case a40 => first | k_is | k_exc | rfl)
    (case l40 => first | k_is | k_exc | rfl)
    (case c40 => first | k_is | k_exc | rfl)
    (case k40 => first | k_is | k_exc | rfl)
    (case a41 => first | k_is | k_exc | rfl)
    (case l41 => first | k_is | k_exc | rfl)
    (case c41 => first | k_is | k_exc | rfl)
    (case k41 => first | k_is | k_exc | rfl)
    (case a42 => first | k_is | k_exc | rfl)
    (case l42 => first | k_is | k_exc | rfl)
    (case c42 => first | k_is | k_exc | rfl)
    (case k42 => first | k_is | k_exc | rfl)
    (case a43 => first | k_is | k_exc | rfl)
    (case l43 => first | k_is | k_exc | rfl)
    (case c43 => first | k_is | k_exc | rfl)
    (case k43 => first | k_is | k_exc | rfl)
    (case a44 => first | k_is | k_exc | rfl)
    (case l44 => first | k_is | k_exc | rfl)
    (case c44 => first | k_is | k_exc | rfl)
    (case k44 => first | k_is | k_exc | rfl)
    (case a45 => first | k_is | k_exc | rfl)
    (case l45 => first | k_is | k_exc | rfl)
    (case c45 => first | k_is | k_exc | rfl)
    (case k45 => first | k_is | k_exc | rfl)
    (case a46 => first | k_is | k_exc | rfl)
    (case l46 => first | k_is | k_exc | rfl)
    (case c46 => first | k_is | k_exc | rfl)
    (case k46 => first | k_is | k_exc | rfl)
    (case a47 => first | k_is | k_exc | rfl)
    (case l47 => first | k_is | k_exc | rfl)
    (case c47 => first | k_is | k_exc | rfl)
    (case k47 => first | k_is | k_exc | rfl)
    (case a48 => first | k_is | k_exc | rfl)
    (case l48 => first | k_is | k_exc | rfl)
    (case c48 => first | k_is | k_exc | rfl)
    (case k48 => first | k_is | k_exc | rfl)
    (case a49 => first | k_is | k_exc | rfl)
    (case l49 => first | k_is | k_exc | rfl)
    (case c49 => first | k_is | k_exc | rfl)
    (case k49 => first | k_is | k_exc | rfl)
    (case a50 => first | k_is | k_exc | rfl)
    (case l50 => first | k_is | k_exc | rfl)
    (case c50 => first | k_is | k_exc | rfl)
    (case k50 => first | k_is | k_exc | rfl)
    (case lt50 => first | k_is | k_exc | rfl)
    (case ld50 => first | k_is | k_exc | rfl)
    (case a51 => first | k_is | k_exc | rfl)
    (case l51 => first | k_is | k_exc | rfl)
    (case c51 => first | k_is | k_exc | rfl)
    (case k51 => first | k_is | k_exc | rfl)
    (case a52 => first | k_is | k_exc | rfl)
    (case l52 => first | k_is | k_exc | rfl)
    (case c52 => first | k_is | k_exc | rfl)
    (case k52 => first | k_is | k_exc | rfl)
    (case a53 => first | k_is | k_exc | rfl)
    (case l53 => first | k_is | k_exc | rfl)
    (case c53 => first | k_is | k_exc | rfl)
    (case k53 => first | k_is | k_exc | rfl)
    (case a54 => first | k_is | k_exc | rfl)
    (case l54 => first | k_is | k_exc | rfl)
    (case c54 => first | k_is | k_exc | rfl)
    (case k54 => first | k_is | k_exc | rfl)
    (case a55 => first | k_is | k_exc | rfl)
    (case l55 => first | k_is | k_exc | rfl)
    (case c55 => first | k_is | k_exc | rfl)
    (case k55 => first | k_is | k_exc | rfl)
    (case a56 => first | k_is | k_exc | rfl)
    (case l56 => first | k_is | k_exc | rfl)
    (case c56 => first | k_is | k_exc | rfl)
    (case k56 => first | k_is | k_exc | rfl)
    (case a57 => first | k_is | k_exc | rfl)
    (case l57 => first | k_is | k_exc | rfl)
    (case c57 => first | k_is | k_exc | rfl)
    (case k57 => first | k_is | k_exc | rfl)
    (case a58 => first | k_is | k_exc | rfl)
    (case l58 => first | k_is | k_exc | rfl)
    (case c58 => first | k_is | k_exc | rfl)
    (case k58 => first | k_is | k_exc | rfl)
    (case a59 => first | k_is | k_exc | rfl)
    (case l59 => first | k_is | k_exc | rfl)
    (case c59 => first | k_is | k_exc | rfl)
    (case k59 => first | k_is | k_exc | rfl)
    (case a60 => first | k_is | k_exc | rfl)
    (case l60 => first | k_is | k_exc | rfl)
    (case c60 => first | k_is | k_exc | rfl)
    (case k60 => first | k_is | k_exc | rfl)
    (case a61 => first | k_is | k_exc | rfl)
    (case l61 => first | k_is | k_exc | rfl)
    (case c61 => first | k_is | k_exc | rfl)
    (case k61 => first | k_is | k_exc | rfl)
    (case a62 => first | k_is | k_exc | rfl)
    (case l62 => first | k_is | k_exc | rfl)
    (case c62 => first | k_is | k_exc | rfl)
    (case k62 => first | k_is | k_exc | rfl)
    (case a63 => first | k_is | k_exc | rfl)
    (case l63 => first | k_is | k_exc | rfl)
    (case c63 => first | k_is | k_exc | rfl)
    (case k63 => first | k_is | k_exc | rfl)
    (case a64 => first | k_is | k_exc | rfl)
    (case l64 => first | k_is | k_exc | rfl)
    (case c64 => first | k_is | k_exc | rfl)
    (case k64 => first | k_is | k_exc | rfl)
    (case a65 => first | k_is | k_exc | rfl)
    (case l65 => first | k_is | k_exc | rfl)
    (case c65 => first | k_is | k_exc | rfl)
    (case k65 => first | k_is | k_exc | rfl)
    (case a66 => first | k_is | k_exc | rfl)
    (case l66 => first | k_is | k_exc | rfl)
    (case c66 => first | k_is | k_exc | rfl)
    (case k66 => first | k_is | k_exc | rfl)
    (case a67 => first | k_is | k_exc | rfl)
    (case l67 => first | k_is | k_exc | rfl)
    (case c67 => first | k_is | k_exc | rfl)
    (case k67 => first | k_is | k_exc | rfl)
    (case a68 => first | k_is | k_exc | rfl)
    (case l68 => first | k_is | k_exc | rfl)
    (case c68 => first | k_is | k_exc | rfl)
    (case k68 => first | k_is | k_exc | rfl)
    (case a69 => first | k_is | k_exc | rfl)
    (case l69 => first | k_is | k_exc | rfl)
    (case c69 => first | k_is | k_exc | rfl)
    (case k69 => first | k_is | k_exc | rfl)
    (case gBadMachine => first | k_is | k_exc | rfl)
    (case xBadMachine => first | k_is | k_exc | rfl)
    (case kBadMachine => first | k_is | k_exc | rfl)
    (case bBadMachine => first | k_is | k_exc | rfl)
    (case tBadMachine => first | k_is | k_exc | rfl)
    (case iBadMachine => first | k_is | k_exc | rfl)
    (case gTooMany => first | k_is | k_exc | rfl)
    (case xTooMany => first | k_is | k_exc | rfl)
    (case kTooMany => first | k_is | k_exc | rfl)
    (case bTooMany => first | k_is | k_exc | rfl)
    (case tTooMany => first | k_is | k_exc | rfl)
    (case iTooMany => first | k_is | k_exc | rfl)
    (case gNoMark => first | k_is | k_exc | rfl)
    (case xNoMark => first | k_is | k_exc | rfl)
    (case kNoMark => first | k_is | k_exc | rfl)
    (case bNoMark => first | k_is | k_exc | rfl)
    (case tNoMark => first | k_is | k_exc | rfl)
    (case iNoMark => first | k_is | k_exc | rfl)
    (case gNoRoom => first | k_is | k_exc | rfl)
    (case xNoRoom => first | k_is | k_exc | rfl)
    (case kNoRoom => first | k_is | k_exc | rfl)
    (case bNoRoom => first | k_is | k_exc | rfl)
    (case tNoRoom => first | k_is | k_exc | rfl)
    (case iNoRoom => first | k_is | k_exc | rfl)
    (case gLETTERS => first | k_is | k_exc | rfl)
    (case gMOST_DOORS => first | k_is | k_exc | rfl)
    (case gMOST_ROOMS => first | k_is | k_exc | rfl)
    (case gMOST_WATCHES => first | k_is | k_exc | rfl)
    (case gNOUGHT => first | k_is | k_exc | rfl)
    (case zabs => first | k_is | k_exc | rfl)
    (case zall => first | k_is | k_exc | rfl)
    (case zany => first | k_is | k_exc | rfl)
    (case zbool => first | k_is | k_exc | rfl)
    (case zdict => first | k_is | k_exc | rfl)
    (case zenumerate => first | k_is | k_exc | rfl)
    (case zint => first | k_is | k_exc | rfl)
    (case zisinstance => first | k_is | k_exc | rfl)
    (case zlen => first | k_is | k_exc | rfl)
    (case zlist => first | k_is | k_exc | rfl)
    (case zmax => first | k_is | k_exc | rfl)
    (case zmin => first | k_is | k_exc | rfl)
    (case zrange => first | k_is | k_exc | rfl)
    (case zset => first | k_is | k_exc | rfl)
    (case zstr => first | k_is | k_exc | rfl)
    (case ztuple => first | k_is | k_exc | rfl)
    (case zzip => first | k_is | k_exc | rfl)
    (case he4_TooMany => first | k_is | k_exc | rfl)
    (case hs_TooMany_TooMany => first | k_is | k_exc | rfl)
