import PyProof.Rows.All
import Wide.All
import OpenK.AllK
import Wide.FinOn
import HandS.ForMost
import HandS.ForExc
import HandS.Wide
import HandS.WideBits
import HandS.IsInst
import HandS.TupLe
import KE.BitLaws
import HandS.Defaults
import HandS.ExcIs
import HandS.Conv
import HandS.Zip
import HandS.More
import HandS.SetKeys
import HandS.Strs
import PyProof.DictUpdate
import HandS.Style
import PySem.Challenge.RW_zonewalk_k51_rooms_of_roads
set_option Elab.async false
set_option linter.all false
set_option maxRecDepth 100000
set_option maxHeartbeats 4000000

namespace ZW
theorem fmod_gcd (a b : Int) : Int.gcd b (a.fmod b) = Int.gcd a b := by
  rw [Int.fmod_def, Int.gcd_comm a b]
  exact Int.gcd_sub_mul_left_right b a (a.fdiv b)
theorem fmod_lt (a b : Int) (hb : b ≠ 0) : (a.fmod b).natAbs < b.natAbs := by
  rcases Int.lt_or_lt_of_ne hb with h | h
  · have h1 := Int.fmod_def a b
    have e : a.fmod b = -((-a).fmod (-b)) := by simp
    rw [e, Int.fmod_eq_emod_of_nonneg _ (by omega)]
    have := Int.emod_lt_of_pos (-a) (b := -b) (by omega)
    have := Int.emod_nonneg (-a) (b := -b) (by omega)
    omega
  · rw [Int.fmod_eq_emod_of_nonneg a (by omega)]
    have := Int.emod_lt_of_pos a h
    have := Int.emod_nonneg a hb
    omega
theorem gcd_pos_right {a b : Int} (hb : b ≠ 0) : (0 : Int) < Int.gcd a b := by
  have := Int.gcd_pos_of_ne_zero_right a hb
  omega
/-- both divided by their gcd -/
structure Low (a b t u : Int) : Prop where
  pos : 0 < b → 0 < u
  top : t * Int.gcd a b = a
  bot : u * Int.gcd a b = b
  eq : t * b = a * u
  one : Int.gcd t u = 1
theorem low_of {a b : Int} (hb : b ≠ 0) : Low a b (a.fdiv (Int.gcd a b)) (b.fdiv (Int.gcd a b)) := by
  have g := gcd_pos_right (a := a) hb
  have d1 : (Int.gcd a b : Int) ∣ a := Int.gcd_dvd_left ..
  have d2 : (Int.gcd a b : Int) ∣ b := Int.gcd_dvd_right ..
  rw [Int.fdiv_eq_ediv_of_nonneg _ (by omega), Int.fdiv_eq_ediv_of_nonneg _ (by omega)]
  have e1 := Int.ediv_mul_cancel d1
  have e2 := Int.ediv_mul_cancel d2
  generalize hx : a / (Int.gcd a b : Int) = x at *
  generalize hy : b / (Int.gcd a b : Int) = y at *
  generalize hg : (Int.gcd a b : Int) = G at *
  refine ⟨fun h => ?_, ?_, ?_, ?_, ?_⟩
  · rcases Int.lt_or_le 0 y with z | z
    · exact z
    · have := Int.mul_nonpos_of_nonpos_of_nonneg z (Int.le_of_lt g)
      omega
  · rw [hg]; exact e1
  · rw [hg]; exact e2
  · rw [← e2, ← e1]; rw [Int.mul_comm y G, ← Int.mul_assoc]
  · have q : Int.gcd (x * G) (y * G) = Int.gcd x y * G.natAbs := Int.gcd_mul_right ..
    rw [e1, e2] at q
    have hG : G.natAbs = Int.gcd a b := by omega
    rw [hG] at q
    have gp : 0 < Int.gcd a b := by omega
    exact Nat.eq_of_mul_eq_mul_right gp (by rw [Nat.one_mul]; exact q.symm)
theorem quo_le {t G a : Int} (h : t * G = a) (hG : 0 < G) : t.natAbs ≤ a.natAbs := by
  rw [← h, Int.natAbs_mul]
  exact Nat.le_mul_of_pos_right _ (by omega)
/-- the fraction t / u, in lowest terms, that stands so to a and b -/
structure Red (a b t u : Int) : Prop where
  pos : 0 < u
  eq : t * b = a * u
  one : Int.gcd t u = 1
  tle : t.natAbs ≤ a.natAbs
  ule : u.natAbs ≤ b.natAbs
theorem Low.red {a b t u : Int} (l : Low a b t u) (h : 0 < b) : Red a b t u := ⟨l.pos h, l.eq, l.one, quo_le l.top (gcd_pos_right (by omega)), quo_le l.bot (gcd_pos_right (by omega))⟩
theorem red_neg {a b : Int} (hb : b < 0) : Red a b (a.fdiv (0 - (Int.gcd a b : Int))) (b.fdiv (0 - (Int.gcd a b : Int))) := by
  have l := low_of (a := a) (b := b) (by omega)
  have g := gcd_pos_right (a := a) (b := b) (by omega)
  have k : ∀ x t : Int, t * (Int.gcd a b : Int) = x → x.fdiv (0 - (Int.gcd a b : Int)) = - t := by
    intro x t e
    rw [Int.zero_sub, show x = (-(Int.gcd a b : Int)) * (-t) by rw [Int.neg_mul_neg, Int.mul_comm, e], Int.mul_fdiv_cancel_left _ (by omega)]
  rw [k _ _ l.top, k _ _ l.bot]
  have hu : b.fdiv (Int.gcd a b) < 0 := by
    rcases Int.lt_or_le (b.fdiv (Int.gcd a b)) 0 with z | z
    · exact z
    · have := Int.mul_nonneg z (Int.le_of_lt g); rw [l.bot] at this; omega
  refine ⟨by omega, by rw [Int.neg_mul, Int.mul_neg, l.eq], by rw [Int.gcd_neg, Int.neg_gcd]; exact l.one, by rw [Int.natAbs_neg]; exact quo_le l.top g, by rw [Int.natAbs_neg]; exact quo_le l.bot g⟩
theorem dvd_cop {u t v : Int} (h : u ∣ t * v) (c : Int.gcd t u = 1) : u ∣ v := by
  have h1 : u.natAbs ∣ t.natAbs * v.natAbs := by rw [← Int.natAbs_mul]; exact Int.natAbs_dvd_natAbs.mpr h
  have h2 : Nat.Coprime u.natAbs t.natAbs := by rw [Nat.coprime_comm]; exact c
  exact Int.natAbs_dvd_natAbs.mp (h2.dvd_of_dvd_mul_left h1)
theorem cop_uniq {t u t' u' : Int} (hu : 0 < u) (hu' : 0 < u') (c : Int.gcd t u = 1) (c' : Int.gcd t' u' = 1) (e : t * u' = t' * u) : t = t' ∧ u = u' := by
  have d1 : u ∣ u' := by
    have : u ∣ t * u' := ⟨t', by rw [e, Int.mul_comm]⟩
    exact dvd_cop this c
  have d2 : u' ∣ u := by
    have : u' ∣ t' * u := ⟨t, by rw [← e, Int.mul_comm]⟩
    exact dvd_cop this c'
  have eu : u = u' := by
    have h1 := Int.le_of_dvd hu' d1
    have h2 := Int.le_of_dvd hu d2
    omega
  subst eu
  exact ⟨Int.eq_of_mul_eq_mul_right (by omega) e, rfl⟩
theorem Red.uniq {a b t u t' u' : Int} (hb : b ≠ 0) (h : Red a b t u) (k : Red a b t' u') : t = t' ∧ u = u' := by
  refine cop_uniq h.pos k.pos h.one k.one ?_
  have : t * u' * b = t' * u * b := by
    rw [Int.mul_right_comm, h.eq, Int.mul_right_comm t', k.eq]; ac_rfl
  exact Int.eq_of_mul_eq_mul_right hb this
/-- fractions that stand so to the same two numbers, told by cross products -/
theorem red_cross {a b a' b' t u t' u' : Int} (hb : b ≠ 0) (hb' : b' ≠ 0) (x : a * b' = a' * b) (h : Red a b t u) (k : Red a' b' t' u') : t = t' ∧ u = u' := by
  refine cop_uniq h.pos k.pos h.one k.one ?_
  have e : t * u' * (b * b') = t' * u * (b * b') := by
    rw [show t * u' * (b * b') = (t * b) * (u' * b') by ac_rfl, show t' * u * (b * b') = (t' * b') * (u * b) by ac_rfl, h.eq, k.eq,
      show a * u * (u' * b') = (a * b') * (u * u') by ac_rfl, show a' * u' * (u * b) = (a' * b) * (u * u') by ac_rfl, x]
  exact Int.eq_of_mul_eq_mul_right (Int.mul_ne_zero hb hb') e
theorem gcd_le_size {a b : Int} (hb : b ≠ 0) : (Int.gcd a b) ≤ b.natAbs := by
  have := Int.gcd_dvd_right (a := a) (b := b)
  exact Nat.le_of_dvd (by omega) (by simpa using Int.natAbs_dvd_natAbs.mpr this)
theorem log_lt {i : Int} {n m : Nat} (h : i.natAbs < 2 ^ n) (h0 : 0 < n) (hm : n ≤ m) : i.natAbs.log2 < m := by
  by_cases e : i.natAbs = 0
  · rw [e]; simp; omega
  · exact Nat.lt_of_lt_of_le ((Nat.log2_lt e).mpr h) hm
open PySem PySem.Spec PyProof.Rows L2
theorem upd_keep {H : Hp} {p : Addr} {o : HO} (h : H p = none) : Same H (upd H p o) := fun b x e => by
  rw [upd_ne (ne_of_none e h)]
  exact e
theorem Same.to {H H' : Hp} (s : Same H H') {a : Addr} {o : HO} (h : H a = some o) : H' a = some o := s a o h
theorem seq_step {t u : TS} {D : Ends} {σ : L2.St} {H : Hp} (h : t { D with nx := u D } σ H) : tSeq t u D σ H := h
theorem ite_d {c : Prop} [Decidable c] {A B : Prop} (h1 : c → A) (h2 : ¬ c → B) : if decide c = true then A else B := by
  by_cases h : c
  · rw [if_pos (decide_eq_true h)]; exact h1 h
  · rw [if_neg (by rw [decide_eq_false h]; exact Bool.false_ne_true)]; exact h2 h
theorem shl1 {i : Int} {n : Nat} (h : i.natAbs < 2 ^ n) (hn : n ≤ 100000) : CShl i 1 := shl_ok (j := 1) h (by omega)
theorem one_ne : ((1 : Int) = 0) = False := by simp
theorem pow_lit (i : Int) : i ^ (1 : Nat) = i := Int.pow_one i
theorem cxK {CX : CXT} {P : Program} {w : World} {K : PySem.W.Frag} {mg : Str → Option Value} {base : Heap} {N : List Str} {qual : Str} {scope : Scope} {f : Addr} {cd : Value} {A : Around} {outer : List Env} {s : Shared} {H : Hp} {E : XK} :
    (cxOf CX P w K mg base N qual scope f cd A outer s H E).K = K := rfl
theorem ix_l {K : PySem.W.Frag} {H : Hp} {p : Addr} {xs : List V} {i : Int} {v : V} {Q : VK} (h : SqL K H p xs) (hi : 0 ≤ i) (hv : xs[i.toNat]? = some v) (q : Q v H) : rIxL K (.ref p) (.int i) H Q :=
  ⟨p, xs, i, v, rfl, rfl, h, at_of (j := i.toNat) (by omega) hv, q⟩
theorem ix_t {K : PySem.W.Frag} {H : Hp} {p : Addr} {xs : List V} {i : Int} {v : V} {Q : VK} (h : SqT K H p xs) (hi : 0 ≤ i) (hv : xs[i.toNat]? = some v) (q : Q v H) : rIxT K (.ref p) (.int i) H Q :=
  ⟨p, xs, i, v, rfl, rfl, h, at_of (j := i.toNat) (by omega) hv, q⟩
theorem sqL_upd {K : PySem.W.Frag} {H : Hp} {p : Addr} {xs : List V} : SqL K (upd H p (.lst xs)) p xs := SqL.of upd_same
theorem fm2 (c : Int) : c.fmod 2 = 0 ∨ c.fmod 2 = 1 := by
  rw [Int.fmod_eq_emod_of_nonneg _ (by omega)]; omega
theorem fm_pos {c m : Int} (h : 0 < m) : 0 ≤ c.fmod m ∧ c.fmod m < m := by
  rw [Int.fmod_eq_emod_of_nonneg _ (by omega)]
  exact ⟨Int.emod_nonneg _ (by omega), Int.emod_lt_of_pos _ h⟩
/-- a number of at most n bits -/
def Sz (n : Nat) (i : Int) : Prop := i.natAbs < 2 ^ n
theorem Sz.mono {i : Int} {a c : Nat} (ha : Sz a i) (h : a ≤ c) : Sz c i := Nat.lt_of_lt_of_le ha (Nat.pow_le_pow_right (by decide) h)
theorem Sz.mulW {i j : Int} {a b : Nat} (ha : Sz a i) (hb : Sz b j) (h : a + b ≤ 999998) : CMulW i j :=
  wide_mul (a := a + 1) (b := b + 1) (Sz.mono ha (by omega)) (Sz.mono hb (by omega)) (by omega) (by omega) (by omega)
theorem Sz.mul {i j : Int} {a b c : Nat} (ha : Sz a i) (hb : Sz b j) (h : a + b ≤ c) : Sz c (i * j) := Sz.mono (wide_lt ha hb) h
theorem Sz.add {i j : Int} {a b c : Nat} (ha : Sz a i) (hb : Sz b j) (h1 : a + 1 ≤ c) (h2 : b + 1 ≤ c) : Sz c (i + j) := by
  have x : Sz (c - 1) i := ha.mono (by omega)
  have y : Sz (c - 1) j := hb.mono (by omega)
  have e : (2 : Nat) ^ c = 2 ^ (c - 1) * 2 := by rw [← Nat.pow_succ]; congr 1; omega
  unfold Sz at x y ⊢
  omega
theorem Sz.sub {i j : Int} {a b c : Nat} (ha : Sz a i) (hb : Sz b j) (h1 : a + 1 ≤ c) (h2 : b + 1 ≤ c) : Sz c (i - j) := by
  have x : Sz (c - 1) i := ha.mono (by omega)
  have y : Sz (c - 1) j := hb.mono (by omega)
  have e : (2 : Nat) ^ c = 2 ^ (c - 1) * 2 := by rw [← Nat.pow_succ]; congr 1; omega
  unfold Sz at x y ⊢
  omega
theorem Sz.le {i j : Int} {a : Nat} (h : i.natAbs ≤ j.natAbs) (hj : Sz a j) : Sz a i := Nat.lt_of_le_of_lt h hj
theorem Sz.nn {i j : Int} {a : Nat} (h0 : 0 ≤ i) (h : i ≤ j) (hj : Sz a j) : Sz a i := Sz.le (by omega) hj
theorem Sz.rg {i j : Int} {a : Nat} (h0 : -j ≤ i) (h : i ≤ j) (hj : Sz a j) : Sz a i := Sz.le (by omega) hj
/-- a divisor that the rule takes -/
def DivOk (j : Int) : Prop := j ≠ 0 ∧ j.natAbs.log2 < 9000
theorem DivOk.of {j : Int} {n : Nat} (h : j ≠ 0) (hs : Sz n j) (hn : n ≤ 8000) : DivOk j := ⟨h, log_lt (n := 8000) (hs.mono hn) (by omega) (by omega)⟩
theorem sz_line {n : Nat} (h : n ≤ 1000) : (n ≤ sizeLine) = True := eq_true (Nat.le_of_lt (small1000 h))
section
variable {X : Cx}
theorem op_fdivZ : OpR X (binaryOp .FloorDiv) (rI (fun _ j => DivOk j) fun i j => .int (i.fdiv j)) := opI fun _ _ _ _ _ _ _ hc q =>
  floordiv_int hc.1 q (.inl (PyProof.noPylong_of_log2 hc.2))
end
theorem gTup_of {K : PySem.W.Frag} {a : Addr} {xs : List V} {n : Nat} {t : TGs} {σ : L2.St} {H : Hp} {Q : L2.St → Hp → Prop} (h : SqT K H a xs) (hn : xs.length = n) (q : t xs σ H Q) : gTup K n t (.ref a) σ H Q := ⟨a, xs, rfl, h, hn, q⟩
theorem sqt {K : PySem.W.Frag} {H : Hp} {a : Addr} {xs : List V} (h : H a = some (.tup xs)) : SqT K H a xs := SqT.of h
theorem Low.top_le {a b t u : Int} (l : Low a b t u) (hb : b ≠ 0) : t.natAbs ≤ a.natAbs := quo_le l.top (gcd_pos_right hb)
theorem Low.bot_le {a b t u : Int} (l : Low a b t u) (hb : b ≠ 0) : u.natAbs ≤ b.natAbs := quo_le l.bot (gcd_pos_right hb)
theorem ite_and {a : Bool} {c : Prop} [Decidable c] {A R : Prop} (h1 : a = true → c → A) (h2 : ¬ (a = true ∧ c) → R) : if a = true then (if decide c = true then A else R) else R := by
  by_cases ha : a = true
  · rw [if_pos ha]; exact ite_d (h1 ha) fun z => h2 fun q => z q.2
  · rw [if_neg ha]; exact h2 fun q => ha q.1
section
variable {X : Cx} {e : Expr} {es : List Expr} {t t' : TE} {ta : TA} {pos : Pos}
theorem pe_imp (h : PE X e t) (k : ∀ σ H Q, t' σ H Q → t σ H Q) : PE X e t' := ⟨fun pins s σ H Q I q => h.run pins s σ H Q I (k σ H Q q)⟩
def tWk (ta : TA) : TA := fun σ H Q => ∃ Q0 : List V → Hp → Prop, ta σ H Q0 ∧ ∀ xs H1, Q0 xs H1 → Q xs H1
theorem pa_wk (h : PA X es ta) : PA X es (tWk ta) := ⟨fun pos pins s σ H _ I ⟨Q0, a, k⟩ => thn (h.run pos pins s σ H Q0 I a) fun _ _ ⟨xs, H1, I1, r, q⟩ => ⟨xs, H1, I1, r, k _ _ q⟩⟩
/-- a new tuple, a new list: nothing but what is tracked is told of the heap behind -/
def tTupN (ta : TA) : TE := fun σ H Q => ta σ H fun xs H1 => xs.length ≤ sizeLine ∧ ∀ p H2, Same H1 H2 → H1 p = none → H2 p = some (.tup xs) → Q (.ref p) H2
def tLstN (ta : TA) : TE := fun σ H Q => ta σ H fun xs H1 => xs.length ≤ sizeLine ∧ ∀ p H2, Same H1 H2 → H1 p = none → H2 p = some (.lst xs) → Q (.ref p) H2
theorem pe_tupN {x1} (h : PA X es ta) : PE X (.Tuple es x1 pos) (tTupN ta) :=
  pe_imp (pe_tup (pa_wk h)) fun _ _ _ q => ⟨_, q, fun _ _ ⟨z, k⟩ => ⟨z, fun p hp => k p _ (upd_keep hp) hp upd_same⟩⟩
theorem pe_lstN (h : PA X es ta) : PE X (.List es pos) (tLstN ta) :=
  pe_imp (pe_lst (pa_wk h)) fun _ _ _ q => ⟨_, q, fun _ _ ⟨z, k⟩ => ⟨z, fun p hp => k p _ (upd_keep hp) hp upd_same⟩⟩
def rSlN (K : PySem.W.Frag) : V → Option Int → Option Int → Hp → VK → Prop := fun x lo hi H Q => ∃ a xs, x = .ref a ∧ SqL K H a xs ∧ ∀ p H2, Same H H2 → H p = none → H2 p = some (.lst (cutV xs lo hi)) → Q (.ref p) H2
theorem sl_listN : SlR X (rSlN X.K) := fun pins s σ H x v vl vu lo hi sl Q I rx hs p1 p2 ⟨a, xs, e, h, q⟩ =>
  sl_list pins s σ H x v vl vu lo hi sl Q I rx hs p1 p2 ⟨a, xs, e, h, fun p hp => q p _ (upd_keep hp) hp upd_same⟩
theorem op_imp {f : Value → Value → Sem Value} {r r' : R2} (h : OpR X f r) (k : ∀ x y H Q, r' x y H Q → r x y H Q) : OpR X f r' := fun pins s σ H x y v u Q I rx ry q => h pins s σ H x y v u Q I rx ry (k x y H Q q)
def rCatN : R2 := fun x y H Q => ∃ l b xs zs, x = .ref l ∧ y = .ref b ∧ H l = some (.lst xs) ∧ H b = some (.lst zs) ∧ xs.length + zs.length ≤ sizeLine ∧ ∀ p H2, Same H H2 → H p = none → H2 p = some (.lst (xs ++ zs)) → Q (.ref p) H2
theorem op_catN : OpR X (binaryOp .Add) rCatN := op_imp op_cat fun _ _ _ _ ⟨l, b, xs, zs, e1, e2, h1, h2, z, q⟩ => ⟨l, b, xs, zs, e1, e2, h1, h2, z, fun p hp => q p _ (upd_keep hp) hp upd_same⟩
def rRepN : R2 := fun x y H Q => ∃ l k xs, x = .ref l ∧ y = .int k ∧ H l = some (.lst xs) ∧ -(2 ^ 63) ≤ k ∧ k < 2 ^ 63 ∧ xs.length * k.toNat ≤ sizeLine ∧ ∀ p H2, Same H H2 → H p = none → H2 p = some (.lst (List.replicate k.toNat xs).flatten) → Q (.ref p) H2
theorem op_repN : OpR X (binaryOp .Mult) rRepN := op_imp op_rep fun _ _ _ _ ⟨l, k, xs, e1, e2, h, a, b, z, q⟩ => ⟨l, k, xs, e1, e2, h, a, b, z, fun p hp => q p _ (upd_keep hp) hp upd_same⟩
theorem small1000' {n : Nat} (h : n ≤ 1000) : n ≤ sizeLine := Nat.le_of_lt (small1000 h)
theorem call_imp {f : Value} {r r' : List V → Hp → VK → Prop} (h : CallR X f r) (k : ∀ x H Q, r' x H Q → r x H Q) : CallR X f r' := fun pins s σ H xs us Q I r q => h pins s σ H xs us Q I r (k xs H Q q)
def rListN (K : PySem.W.Frag) : List V → Hp → VK → Prop := fun xs H Q => ∃ p ys, xs = [.ref p] ∧ (SqL K H p ys ∨ SqT K H p ys) ∧ ∀ l H2, Same H H2 → H l = none → H2 l = some (.lst ys) → Q (.ref l) H2
theorem call_listN : CallR X (.type "list") (rListN X.K) := call_imp call_list_of fun _ _ _ ⟨p, ys, e, h, q⟩ => ⟨p, ys, e, h, fun l hl => q l _ (upd_keep hl) hl upd_same⟩
def rIntB : List V → Hp → VK → Prop := fun xs H Q => ∃ k, xs = [.bl k] ∧ Q (.int (if k then 1 else 0)) H
theorem call_intB : CallR X (.type "int") rIntB := call_imp call_int1 fun _ _ _ h => .inr h
end
theorem nat_and_mod (x y : Nat) : (x &&& y) % 2 = (x % 2) * (y % 2) := by
  have h := Nat.and_mod_two_pow (a := x) (b := y) (n := 1)
  have h1 : x % 2 = 0 ∨ x % 2 = 1 := by omega
  have h2 : y % 2 = 0 ∨ y % 2 = 1 := by omega
  rw [Nat.pow_one] at h
  rcases h1 with e | e <;> rcases h2 with f | f <;> rw [h, e, f] <;> rfl
theorem nat_or_mod (x y : Nat) : (x ||| y) % 2 = if x % 2 = 0 ∧ y % 2 = 0 then 0 else 1 := by
  have h := Nat.or_mod_two_pow (a := x) (b := y) (n := 1)
  have h1 : x % 2 = 0 ∨ x % 2 = 1 := by omega
  have h2 : y % 2 = 0 ∨ y % 2 = 1 := by omega
  rw [Nat.pow_one] at h
  rcases h1 with e | e <;> rcases h2 with f | f <;> rw [h, e, f] <;> rfl
theorem and_bit (a b : Int) : Builtin.bitAnd a b % 2 = (if a % 2 = 1 ∧ b % 2 = 1 then 1 else 0) := by
  have key : ∀ x y : Nat, x % 2 = 0 ∨ x % 2 = 1 := by omega
  have nn : ∀ x, Builtin.bitNot x = - x - 1 := by intro x; unfold Builtin.bitNot; omega
  by_cases ha : 0 ≤ a <;> by_cases hb : 0 ≤ b
  · rw [bitAnd_pp ha hb]
    have h := nat_and_mod a.toNat b.toNat
    have h1 : a.toNat % 2 = 0 ∨ a.toNat % 2 = 1 := by omega
    have h2 : b.toNat % 2 = 0 ∨ b.toNat % 2 = 1 := by omega
    rcases h1 with e | e <;> rcases h2 with f | f <;> rw [e, f] at h <;> split <;> omega
  · rw [bitAnd_pn ha hb, nn]
    have h := nat_and_mod a.toNat (-b-1).toNat
    have h1 : a.toNat % 2 = 0 ∨ a.toNat % 2 = 1 := by omega
    have h2 : (-b-1).toNat % 2 = 0 ∨ (-b-1).toNat % 2 = 1 := by omega
    rcases h1 with e | e <;> rcases h2 with f | f <;> rw [e, f] at h <;> split <;> omega
  · rw [bitAnd_np ha hb, nn]
    have h := nat_and_mod b.toNat (-a-1).toNat
    have h1 : b.toNat % 2 = 0 ∨ b.toNat % 2 = 1 := by omega
    have h2 : (-a-1).toNat % 2 = 0 ∨ (-a-1).toNat % 2 = 1 := by omega
    rcases h1 with e | e <;> rcases h2 with f | f <;> rw [e, f] at h <;> split <;> omega
  · rw [bitAnd_nn ha hb, nn, nn, nn]
    have h := nat_or_mod (-a-1).toNat (-b-1).toNat
    have h1 : (-a-1).toNat % 2 = 0 ∨ (-a-1).toNat % 2 = 1 := by omega
    have h2 : (-b-1).toNat % 2 = 0 ∨ (-b-1).toNat % 2 = 1 := by omega
    rcases h1 with e | e <;> rcases h2 with f | f <;> rw [e, f] at h <;> split at h <;> split <;> omega

theorem bit_sum (a b : Int) : Builtin.bitOr ((a / 2 + b / 2) * 2) (Builtin.bitAnd (Builtin.bitAnd a b) 1) = 2 * (a / 2 + b / 2) + (if a % 2 = 1 ∧ b % 2 = 1 then 1 else 0) := by
  rw [bitAnd_m1, and_bit, bitOr_and]
  split
  · rw [bitAnd_m1]; omega
  · rw [bitAnd_zero]; omega
theorem isi {K : PySem.W.Frag} {H : Hp} {x : V} {a b : String} {r : Bool} {Q : VK} (h : TyX K H x (.type a)) (k : kitB a b = some r) (q : Q (.bl r) H) : rIsi K [x, .ty b] H Q := ⟨x, .ty b, _, _, r, rfl, .ty b, h, kit_ty k, q⟩
theorem if_t {b : Bool} {A B : Prop} (h : b = true) (q : A) : if b = true then A else B := by rw [if_pos h]; exact q
theorem if_f {b : Bool} {A B : Prop} (h : b = false) (q : B) : if b = true then A else B := by rw [h, if_neg Bool.false_ne_true]; exact q
/-- a bound, as a value -/
def oV : Option Int → V
  | none => .non
  | some i => .int i
theorem oV_none : oV none = .non := rfl
theorem oV_some (i : Int) : oV (some i) = .int i := rfl
theorem funD_mk {K : PySem.W.Frag} {x qual : Str} {st : Stmt} {f t : Addr} {oc kV doc pm cdv ct : Value} {od an : Option Addr} {osl : Array (Option Value)} {o : Obj} {n : Nat} {its : List Value} {dvs : List V}
    (l : K.lookup f = some ⟨oc, od, .func (PySem.W.fnOf x qual (defArgs st) (defBody st) (defScope st) (.ref t) kV doc pm an cdv ct), osl⟩) (c : PySem.W.codeIn K cdv qual = true) (k : PySem.W.keepIn K (.ref f) = true)
    (lt : K.lookup t = some o) (ld : o.data = .seq its.toArray n) (hv : Vals dvs its) (hd : dvs ≠ []) : FunD K x qual (defArgs st) (defBody st) (defScope st) dvs [] f (PySem.W.fnOf x qual (defArgs st) (defBody st) (defScope st) (.ref t) kV doc pm an cdv ct) :=
  ⟨⟨oc, od, .ref t, kV, doc, pm, an, cdv, ct, osl, rfl, l, c, .inr ⟨hd, t, o, its, n, rfl, lt, ld, hv⟩, .inl rfl⟩, k⟩
section
variable {X : Cx} {D a : Addr} {cls : Value} {d : Option Addr} {oe : Obj} {pn : List (Addr × Obj)}
/-- isinstance of the caught error: its class is told in the reading -/
theorem call_isE2 (hz : Zc cls d oe) (hf : ∃ vs, oe.data = .fields vs) : CallR (X.suite a ((a, oe) :: pn)) (.builtin "isinstance") (fun xs H Q => ∃ D, cls = .ref D ∧ d = none ∧ ExcC X.K D ∧ rIsE X.K D a xs H Q) := by
  intro pins s σ H xs us Q I r ⟨D, h1, h2, C, h⟩
  subst h1; subst h2
  exact call_isE C hz hf pins s σ H xs us Q I r h
end
theorem cut_int {ns : List Int} {lo hi : Option Int} {i : Nat} {x : V} (h : (cutV (ns.map V.int) lo hi)[i]? = some x) : ∃ z, x = .int z := by
  have m := List.mem_of_mem_drop (List.mem_of_mem_take (List.mem_of_getElem? h))
  obtain ⟨z, _, e⟩ := List.mem_map.mp m
  exact ⟨z, e.symm⟩
def kinds : List String := ["int", "bool", "NoneType", "str", "list", "tuple", "dict"]
/-- whether a thing is a whole number -/
def spWhole (K : PySem.W.Frag) : Sp := fun vs H Q _ => ∃ (x : V) (t : String), vs = [x] ∧ TyX K H x (.type t) ∧ t ∈ kinds ∧ Q (.bl (decide (t = "int"))) H
/-- two numbers in lowest terms, as a new tuple -/
def LowT (a b : Int) (H : Hp) (Q : VK) : Prop := ∀ (t u : Int) (p : Addr) (H' : Hp), Low a b t u → Same H H' → H' p = some (.tup [.int t, .int u]) → Q (.ref p) H'
/-- two numbers in lowest terms with a bottom above 0, as a new tuple -/
def RedT (a b : Int) (H : Hp) (Q : VK) : Prop := ∀ (t u : Int) (p : Addr) (H' : Hp), Red a b t u → Same H H' → H' p = some (.tup [.int t, .int u]) → Q (.ref p) H'
theorem ncast (n : Nat) : ((no_index (OfNat.ofNat n) : Nat) : Int) = OfNat.ofNat n := rfl
theorem exm_two {K : PySem.W.Frag} {C : Addr} {cls : Value} {b : Bool} (h1 : PySem.W.subIn K (.ref C) (.type "BaseException") = some true) (h2 : PySem.W.hasDictIn K C = true) (h3 : PySem.W.typeIn K (.ref C) = some (.type "type")) (h4 : PySem.W.subIn K cls (.ref C) = some b) : PySem.W.exmOne K cls (.ref C) = some b := PySem.W.exm_ref h1 h2 h3 h4
/-- isinstance(e, c) of a caught error -/
theorem isE {K : PySem.W.Frag} {D a : Addr} {c : V} {cv : Value} {b : Bool} {H : Hp} {Q : VK} (X : ExcC K D) (hc : ∀ u, RelV c u → u = cv) (k : PySem.W.kitOne K (.ref D) cv = some b) (q : Q (.bl b) H) : ∃ D', Value.ref D = Value.ref D' ∧ (Option.none : Option Addr) = Option.none ∧ ExcC K D' ∧ rIsE K D' a [.ref a, c] H Q :=
  ⟨D, rfl, rfl, X, c, cv, b, rfl, hc, k, q⟩
theorem tyx_same {K : PySem.W.Frag} {H H2 : Hp} (s : Same H H2) {x : V} {t : Value} (h : TyX K H x t) : TyX K H2 x t := by
  cases h with
  | base b =>
    refine .base ?_
    cases b with
    | non => exact .non
    | bl y => exact .bl y
    | int i => exact .int i
    | str y => exact .str y
    | flt y => exact .flt y
    | lst e => exact .lst (s _ _ e)
    | frz e => exact .frz (s _ _ e)
    | tup e => exact .tup (s _ _ e)
    | dK e => exact .dK (s _ _ e)
    | dT e => exact .dT (s _ _ e)
    | ins e cl a b c d => exact .ins (s _ _ e) cl a b c d
  | byt b => exact .byt b
  | set e => exact .set (s _ _ e)
  | kList e c => exact .kList e c
  | kTuple e c => exact .kTuple e c
  | kDict e c => exact .kDict e c
  | fTuple e => exact .fTuple (s _ _ e)
  | fDict e => exact .fDict (s _ _ e)
/-- what stands behind a statement is shown once, for all its ways -/
theorem join_if {t R : TS} {D : Ends} {σ : L2.St} {H : Hp} (P : L2.St → Hp → Prop) (h2 : ∀ σ' H', P σ' H' → R D σ' H') (h1 : (∀ σ' H', P σ' H' → R D σ' H') → tSeq t R D σ H) : tSeq t R D σ H := h1 h2
theorem red_zero {b t u : Int} (R : Red 0 b t u) : Red 0 1 t u := by
  have h1 := R.tle
  have h2 : t = 0 := by simp at h1; exact h1
  subst h2
  have h3 := R.one
  rw [Int.gcd_zero_left] at h3
  exact ⟨R.pos, by simp, R.one, h1, by omega⟩
theorem shaped_ii (a b : Int) : SeqAt.shaped (.tuple [.int a, .int b]) = true := rfl
section
variable {X : Cx} {K : PySem.W.Frag}
theorem call_isiA (h : X.K = K) : CallR X (.builtin "isinstance") (rIsi K) := by subst h; exact call_isi
theorem ix_listA (h : X.K = K) : IxR X (rIxL K) := by subst h; exact ix_list
theorem ix_tupA (h : X.K = K) : IxR X (rIxT K) := by subst h; exact ix_tup
theorem call_tupleLA (h : X.K = K) : CallR X (.type "tuple") (fun xs H Q => ∃ p ys, xs = [.ref p] ∧ SqL K H p ys ∧ ∀ l H2, Same H H2 → H l = none → H2 l = some (.tup ys) → Q (.ref l) H2) := by
  subst h
  exact call_imp call_tuple_of fun _ _ _ ⟨p, ys, e, h, q⟩ => ⟨p, ys, e, .inl ⟨h, fun l hl => q l _ (upd_keep hl) hl upd_same⟩⟩
def tRevN (K : PySem.W.Frag) (te : TE) : TE := fun σ H Q => te σ H fun x H1 => ∃ a xs, x = .ref a ∧ SqL K H1 a xs ∧ ∀ p H2, Same H1 H2 → H1 p = none → H2 p = some (.lst xs.reverse) → Q (.ref p) H2
theorem op_mulOk : OpR X (binaryOp .Mult) (rI IntMulOk fun i j => .int (i * j)) := opI fun _ _ _ _ _ _ _ hc q => mul_int q hc
theorem op_in_seqA (h : X.K = K) : OpR X (compareOp .In) (rIn K false) := by subst h; exact op_in_seq
theorem op_notIn_seqA (h : X.K = K) : OpR X (compareOp .NotIn) (rIn K true) := by subst h; exact op_notIn_seq
theorem pe_indexA {o e : Expr} {to : TE} {t : TA} {apos cpos : PySem.Pos} (h : X.K = K) (ho : PE X o to) (ha : PA X [e] t)
    (hbase : attributeBase o "index" X.env (eval o X.env) = eval o X.env := by rfl)
    (hfew : ((backTo cpos (starEach [e] X.env)).all (fun x => !x.1) && (backToKw cpos (keywordEach [] X.env)).all (fun x => x.1.isSome)
      && decide (([e] : List Expr).length + ([] : List Keyword).length + (if ([] : List Keyword).isEmpty then 0 else 1) < 30)) = true := by rfl)
    (hline : (apos.endLine == cpos.line) = true := by rfl) (hs : starEach [e] X.env = (false, eval e X.env) :: starEach [] X.env := by rfl) (hplain : (backTo cpos (starEach [] X.env)).any (·.1) = false := by rfl) :
    PE X (.Call (.Attribute o "index" apos) [e] [] cpos) (tBM K "list" (rIndex K) to t) := by subst h; exact pe_bm PySem.F.plainAttrs_list PySem.F.slot_list_index PySem.F.type_list_index mt_index ho ha hbase hfew hline hs hplain
theorem pg_tupA {es : List Expr} {k : Nat} {t : TGs} {n : Nat} (h' : X.K = K) (hc : X.calm = true) (h : PGs X es t)
    (hn : (assignEach es X.env).length = n := by rfl) (hst : (assignEach es X.env).findIdx? (·.1) = none := by rfl) {pos : PySem.Pos} : PG X (.Tuple es k pos) (gTup K n t) := by subst h'; exact pg_tup hc h hn hst
theorem pe_fldA {o : Expr} {f : Str} {pos : PySem.Pos} {ta : TE} (h' : X.K = K) (he : PE X o ta) (hb : attributeBase o f X.env (eval o X.env) = eval o X.env) : PE X (.Attribute o f pos) (tFld K ta f) := by subst h'; exact pe_fld he hb
theorem call_len_seqA (h : X.K = K) : CallR X (.builtin "len") (fun xs H Q => ∃ p ys, xs = [.ref p] ∧ (SqL K H p ys ∨ SqT K H p ys) ∧ Q (.int ys.length) H) := by subst h; exact call_len_seq
theorem sl_listA (h : X.K = K) : SlR X (rSlN K) := by subst h; exact sl_listN
theorem call_listA (h : X.K = K) : CallR X (.type "list") (rListN K) := by subst h; exact call_listN
theorem pi_listA {tg l : Expr} {tl : TE} (h : X.K = K) (hl : PE X l tl) : PI X tg l (iList K tl) := by subst h; exact pi_list hl
end
theorem lc_vs {X : Cx} {e : Expr} {wi : TI} {g : TG} {tt : TT} {te : TE} {own : List (Str × Nat)} {vs : List Nat} (h : PE X e (tLc wi g tt te (own.map (·.2)))) (hv : own.map (·.2) = vs) : PE X e (tLc wi g tt te vs) := hv ▸ h
theorem lc_vsS {X : Cx} {e : Stmt} {wi : TI} {g k : TG} {tt : TT} {te : TE} {own : List (Str × Nat)} {vs : List Nat} (h : PS X e (tAsg (tLc wi g tt te (own.map (·.2))) k)) (hv : own.map (·.2) = vs) : PS X e (tAsg (tLc wi g tt te vs) k) := hv ▸ h
theorem same_updN {H H2 : Hp} {D : Addr} {o : HO} (hD : H D = none) (s : Same H H2) : Same H (upd H2 D o) := fun b x e => by
  rw [upd_ne (ne_of_none e hD)]
  exact s b x e
theorem sql_keep {K : PySem.W.Frag} {H H' : Hp} {a : Addr} {xs : List V} (h : SqL K H a xs) (k : ∀ b o, H b = some o → H' b = some o) : SqL K H' a xs := Same.seq (show Same H H' from k) h
theorem dpall_of {K : PySem.W.Frag} {H : Hp} : ∀ {vs : List V} {ds : List PyData}, vs.length = ds.length → (∀ (k : Nat) (v : V) (d : PyData), vs[k]? = some v → ds[k]? = some d → Dp K H v d) → DpAll K H vs ds
  | [], [], _, _ => .nil
  | [], _ :: _, h, _ => by cases h
  | _ :: _, [], h, _ => by cases h
  | v :: vs, d :: ds, h, k => .cons (k 0 v d rfl rfl) (dpall_of (Nat.succ.inj h) fun j v' d' h1 h2 => k (j + 1) v' d' h1 h2)
theorem shaped_list {ds : List PyData} (h : ∀ d ∈ ds, d.canLay0 = true ∧ d.depth ≤ 60) : SeqAt.shaped (.list ds) = true := by
  have key : ∀ ds : List PyData, (∀ d ∈ ds, d.canLay0 = true ∧ d.depth ≤ 60) → PyData.canLayAll0 ds = true ∧ PyData.depthAll ds ≤ 60 := by
    intro ds
    induction ds with
    | nil => intro _; exact ⟨rfl, Nat.zero_le _⟩
    | cons d ds ih =>
      intro h
      have h1 := h d (List.mem_cons_self ..)
      have h2 := ih fun x hx => h x (List.mem_cons_of_mem _ hx)
      refine ⟨by show (d.canLay0 && PyData.canLayAll0 ds) = true; rw [h1.1, h2.1]; rfl, ?_⟩
      show max d.depth (PyData.depthAll ds) ≤ 60
      omega
  have z := key ds h
  refine Bool.and_eq_true_iff.mpr ⟨z.1, decide_eq_true ?_⟩
  show PyData.depthAll ds + 1 ≤ 64
  omega
/-- whether a fraction is let by a bound -/
def letsO : Option Int → Int → Int → Bool
  | none, _, _ => true
  | some b, t, u => decide (t < b / 2 * u ∨ (t = b / 2 * u ∧ b % 2 = 1))
def narO : Option Int → Option Int → Option Int
  | none, y => y
  | some a, none => some a
  | some a, some b => some (if b < a then b else a)
/-- a fraction's tuple -/
def FracAt (n : Nat) (H : Hp) (v : V) : Prop := ∃ (q : Addr) (t u : Int), v = .ref q ∧ H q = some (.tup [.int t, .int u]) ∧ 0 < u ∧ Sz n t ∧ Sz n u
theorem FracAt.keep {n : Nat} {H H' : Hp} {v : V} (s : Same H H') (h : FracAt n H v) : FracAt n H' v := by
  obtain ⟨q, t, u, e, e2, r⟩ := h
  exact ⟨q, t, u, e, s _ _ e2, r⟩
theorem join_bl {b : Bool} {P : Prop} (h1 : b = true → P) (h2 : b = false → P) : P := by cases b; exact h2 rfl; exact h1 rfl
/-- a for over a list, behind its iterable's reading -/
def ForL (K : PySem.W.Frag) (a : Addr) (g : TG) (tb : TS) (D : Ends) (σ : L2.St) (H : Hp) : Prop := ∃ W : Nat → Nat → L2.St → Hp → Prop, (∃ m, W 0 m σ H) ∧ ∀ i m σ H, W i m σ H →
  ((Itl K a).stop i H ∧ D.nx σ H) ∨ ((Itl K a).go i H ∧ ∃ N : L2.St → Hp → Prop, (∀ σ' H', N σ' H' → ∃ m', m' < m ∧ W (i + 1) m' σ' H') ∧ ∀ x H', (Itl K a).yld i H x H' → g x σ H' fun σ2 H2 => tb { D with nx := N, ct := N, bk := D.nx } σ2 H2)
theorem for_li {K : PySem.W.Frag} {te : TE} {g : TG} {tb : TS} {D : Ends} {σ : L2.St} {H : Hp} (h : te σ H fun x H1 => ∃ a, x = .ref a ∧ (∃ xs, SqL K H1 a xs) ∧ ForL K a g tb D σ H1) : tFor (iList K te) g tb D σ H := h
theorem forL_by {K : PySem.W.Frag} {a : Addr} {xs : List V} {g : TG} {tb : TS} {D : Ends} {σ : L2.St} {H : Hp} (Pv : Nat → L2.St → Hp → Prop) (h0 : Pv 0 σ H) (hl : ∀ i σ H, i ≤ xs.length → Pv i σ H → SqL K H a xs)
    (hs : ∀ i x σ H, xs[i]? = some x → Pv i σ H → g x σ H fun σ2 H2 => tb { D with nx := Pv (i + 1), ct := Pv (i + 1), bk := D.nx } σ2 H2) (hd : ∀ σ H, Pv xs.length σ H → D.nx σ H) : (∃ ys, SqL K H a ys) ∧ ForL K a g tb D σ H :=
  ⟨⟨xs, hl 0 σ H (Nat.zero_le _) h0⟩, for_list (K := K) (a := a) (xs := xs) Pv h0 hl hs hd⟩
/-- what is asked whether it is a fraction, and the answer -/
inductive FrIn (K : PySem.W.Frag) (H : Hp) : V → Bool → Prop where
  | other {x : V} {t : String} (h : TyX K H x (.type t)) (k : t ∈ kinds) (n : t ≠ "tuple") : FrIn K H x false
  | len {p : Addr} {xs : List V} (h : H p = some (.tup xs)) (n : xs.length ≠ 2) : FrIn K H (.ref p) false
  | odd {p : Addr} {v0 v1 : V} {t0 t1 : String} (h : H p = some (.tup [v0, v1])) (h0 : TyX K H v0 (.type t0)) (h1 : TyX K H v1 (.type t1)) (k0 : t0 ∈ kinds) (k1 : t1 ∈ kinds) (n : t0 ≠ "int" ∨ t1 ≠ "int") : FrIn K H (.ref p) false
  | num {p : Addr} {a b : Int} (h : H p = some (.tup [.int a, .int b])) : FrIn K H (.ref p) (decide (1 ≤ b ∧ Int.gcd a b = 1))
theorem FrIn.keep {K : PySem.W.Frag} {H H' : Hp} {x : V} {b : Bool} (s : Same H H') (h : FrIn K H x b) : FrIn K H' x b := by
  cases h with
  | other h k n => exact .other (tyx_same s h) k n
  | len h n => exact .len (s _ _ h) n
  | odd h h0 h1 k0 k1 n => exact .odd (s _ _ h) (tyx_same s h0) (tyx_same s h1) k0 k1 n
  | num h => exact .num (s _ _ h)
def tDictN : TE := fun _ H Q => ∀ p H2, Same H H2 → H p = none → H2 p = some (.dK []) → Q (.ref p) H2
theorem pe_dnewN {X : Cx} {pos : Pos} : PE X (.Dict [] [] pos) tDictN := pe_imp pe_dnewK fun _ _ _ q p hp => q p _ (upd_keep hp) hp upd_same
theorem fr_no {K : PySem.W.Frag} {H : Hp} {p : Addr} {a b : Int} (h : H p = some (.tup [.int a, .int b])) (n : ¬ (1 ≤ b ∧ Int.gcd a b = 1)) : FrIn K H (.ref p) false := by
  have z := FrIn.num (K := K) h
  rw [decide_eq_false n] at z
  exact z
def addO : Option Int → Option Int → Option Int
  | some a, some b => some (2 * (a / 2 + b / 2) + (if a % 2 = 1 ∧ b % 2 = 1 then 1 else 0))
  | _, _ => none
/-- a for over a range, behind its bound's reading -/
def ForR (n : Nat) (g : TG) (tb : TS) (D : Ends) (σ : L2.St) (H : Hp) : Prop := ∃ W : Nat → Nat → L2.St → Hp → Prop, (∃ m, W 0 m σ H) ∧ ∀ i m σ H, W i m σ H →
  ((Itr 0 n).stop i H ∧ D.nx σ H) ∨ ((Itr 0 n).go i H ∧ ∃ N : L2.St → Hp → Prop, (∀ σ' H', N σ' H' → ∃ m', m' < m ∧ W (i + 1) m' σ' H') ∧ ∀ x H', (Itr 0 n).yld i H x H' → g x σ H' fun σ2 H2 => tb { D with nx := N, ct := N, bk := D.nx } σ2 H2)
theorem for_rg {ta : TA} {g : TG} {tb : TS} {D : Ends} {σ : L2.St} {H : Hp} (h : ta σ H fun vs H1 => ∃ j : Int, vs = [.int j] ∧ -(2 ^ 62) ≤ j ∧ j < 2 ^ 62 ∧ ForR j.toNat g tb D σ H1) : tFor (iRng1 ta) g tb D σ H := h
theorem forR_by {n : Nat} {g : TG} {tb : TS} {D : Ends} {σ : L2.St} {H : Hp} (Pv : Nat → L2.St → Hp → Prop) (h0 : Pv 0 σ H)
    (hs : ∀ i σ H, i < n → Pv i σ H → g (.int (0 + i)) σ H fun σ2 H2 => tb { D with nx := Pv (i + 1), ct := Pv (i + 1), bk := D.nx } σ2 H2) (hd : ∀ σ H, Pv n σ H → D.nx σ H) : ForR n g tb D σ H := for_range (lo := 0) (n := n) Pv h0 hs hd
theorem rg_ok {n : Nat} (h : n ≤ 100000) : -(2 ^ 62) ≤ ((n : Nat) : Int) ∧ ((n : Nat) : Int) < 2 ^ 62 := by constructor <;> omega
theorem cut_from {xs : List V} {k : Nat} (h : k ≤ xs.length) : cutV xs (some (k : Int)) none = xs.drop k := by
  unfold cutV
  rw [HT.sIx_none, HT.sIx_nat, Nat.min_eq_left h]
  exact List.take_of_length_le (by rw [List.length_drop]; exact Nat.le_refl _)
/-- xs.append(v) -/
theorem app_at {H : Hp} {l : Addr} {xs : List V} {v : V} {Q : VK} (h : H l = some (.lst xs)) (hl : xs.length ≤ 1000) (q : Q .non (upd H l (.lst (xs ++ [v])))) : rAppend (.ref l) [v] H Q := ⟨l, xs, v, rfl, rfl, h, small1000 hl, q⟩
/-- the same, what stands behind kept closed -/
theorem join_op {t R : TS} {D : Ends} {σ : L2.St} {H : Hp} (P : L2.St → Hp → Prop) (h2 : ∀ σ' H', P σ' H' → R D σ' H') (h1 : ∀ R' : TS, (∀ σ' H', P σ' H' → R' D σ' H') → tSeq t R' D σ H) : tSeq t R D σ H := h1 R h2
theorem ex_int {i : Int} {P : Int → Prop} (h : P i) : ∃ j, V.int i = V.int j ∧ P j := ⟨i, rfl, h⟩
theorem pi_tupA {X : Cx} {K : PySem.W.Frag} {tg l : Expr} {tl : TE} (h : X.K = K) (hl : PE X l tl) : PI X tg l (iTup K tl) := by subst h; exact pi_tup hl
/-- a for over a tuple, behind its iterable's reading -/
def ForT (K : PySem.W.Frag) (a : Addr) (g : TG) (tb : TS) (D : Ends) (σ : L2.St) (H : Hp) : Prop := ∃ W : Nat → Nat → L2.St → Hp → Prop, (∃ m, W 0 m σ H) ∧ ∀ i m σ H, W i m σ H →
  ((Itt K a).stop i H ∧ D.nx σ H) ∨ ((Itt K a).go i H ∧ ∃ N : L2.St → Hp → Prop, (∀ σ' H', N σ' H' → ∃ m', m' < m ∧ W (i + 1) m' σ' H') ∧ ∀ x H', (Itt K a).yld i H x H' → g x σ H' fun σ2 H2 => tb { D with nx := N, ct := N, bk := D.nx } σ2 H2)
theorem for_tp {K : PySem.W.Frag} {te : TE} {g : TG} {tb : TS} {D : Ends} {σ : L2.St} {H : Hp} (h : te σ H fun x H1 => ∃ a, x = .ref a ∧ (∃ xs, SqT K H1 a xs) ∧ ForT K a g tb D σ H1) : tFor (iTup K te) g tb D σ H := h
theorem forT_by {K : PySem.W.Frag} {a : Addr} {xs : List V} {g : TG} {tb : TS} {D : Ends} {σ : L2.St} {H : Hp} (Pv : Nat → L2.St → Hp → Prop) (h0 : Pv 0 σ H) (hl : ∀ i σ H, i ≤ xs.length → Pv i σ H → SqT K H a xs)
    (hs : ∀ i x σ H, xs[i]? = some x → Pv i σ H → g x σ H fun σ2 H2 => tb { D with nx := Pv (i + 1), ct := Pv (i + 1), bk := D.nx } σ2 H2) (hd : ∀ σ H, Pv xs.length σ H → D.nx σ H) : (∃ ys, SqT K H a ys) ∧ ForT K a g tb D σ H :=
  ⟨⟨xs, hl 0 σ H (Nat.zero_le _) h0⟩, for_tup (K := K) (a := a) (xs := xs) Pv h0 hl hs hd⟩
/-! ### own classes -/
/-- what isinstance asks of an own class -/
structure OwnCls (K : PySem.W.Frag) (C : Addr) : Prop where
  hc : PySem.W.findIn K (.ref C) "__class__" = some (some (.builtin "object.__class__"))
  hn : PySem.W.specialIn K (.builtin "object.__class__") "__get__" = some (some (.builtin "getset_descriptor.__get__"))
  ht : PySem.W.takesIn K (.builtin "object.__class__") = some true
  hm : PySem.W.mroIn K C (.type "object") = some true
/-- isinstance of an own instance and its class -/
theorem is_own {K : PySem.W.Frag} {H : Hp} {p C dx : Addr} {fs : List (Str × V)} {Q : VK} (h : H p = some (.ins C dx fs)) (c : Cls K C) (o : OwnCls K C) (q : Q (.bl true) H) : rIsi K [.ref p, .ref C] H Q :=
  ⟨.ref p, .ref C, _, _, true, rfl, .own C, .base (.ins h c o.hc o.hn o.ht o.hm), by unfold PySem.W.kitOne; simp, q⟩
/-- a new instance: nothing but what is tracked is told of the heap behind -/
def tMakeN (C : Addr) (sp : Sp) (dvs : List V) (E : XK) (t : TA) : TE := fun σ H Q => t σ H fun vs H1 => ∀ x dx H2, Same H1 H2 → H1 x = none → H2 x = some (.ins C dx []) → sp (.ref x :: (vs ++ dvs)) H2 (fun v H3 => v = .non ∧ Q (.ref x) H3) E
section
variable {X : Cx} {CX : CXT} {k : Nat} {f C : Addr} {fd : FuncData} {ps : List Str} {ds : List Value} {dvs : List V} {sp : Sp} {E : XK} {x : Str} {e : Expr} {es : List Expr} {t : TA} {p pos : Pos}
theorem pe_makeN (M : Mk X.K C f) (F : FnOk X.prog X.w X.K X.mg X.base CX k f fd ps sp) (hr : Room (k + 1) X.A) (hg : Gl X x) (hm : X.mg x = some (.ref C)) (hb : Binds X.K fd ps ds) (hd : Vals dvs ds) (hx : Passes CX X E)
    (ha : PA X (e :: es) t) (hdb : (x == ("__debug__" : Str)) = false := by decide) (he : starEach (e :: es) X.env = (false, eval e X.env) :: starEach es X.env := by rfl) (hpl : (backTo pos (starEach es X.env)).any (·.1) = false := by rfl) :
    PE X (.Call (.Name x p) (e :: es) [] pos) (tMakeN C sp dvs E t) :=
  pe_imp (pe_make M F hr hg hm hb hd hx (pa_wk ha) hdb he hpl) fun σ H Q q => ⟨_, q, fun vs H1 q2 a dx h1 h2 ne => q2 a dx _ (fun b o z => by rw [upd_ne (ne_of_none z h1), upd_ne (ne_of_none z h2)]; exact z) h1 upd_same⟩
end
/-! ### a call within a try, with what it leaves out -/
section
variable {X : Cx} {CX : CXT} {k : Nat} {f : Addr} {fd : FuncData} {ps : List Str} {sp : Sp} {E : L2.St → XK} {x : Str} {p pos : Pos} {e : Expr} {es : List Expr} {t : TA} {ds : List Value} {dvs : List V}
theorem run_fnSD {pins : List (Addr × Obj)} {σ : L2.St} {H : Hp} {s : Shared} {Q : VK} {us : List Value} {vs : List V} (F : FnOk X.prog X.w X.K X.mg X.base CX k f fd ps sp) (hr : Room k X.A) (hb : Binds X.K fd ps ds) (hd : Vals dvs ds) (hx : PassesAt CX X σ (E σ))
    (I : Inv X pins σ H s) (r : Vals vs us) (h : sp (vs ++ dvs) H Q (E σ)) : wpAny (model X.prog X.w) X.A (call (.ref f) us) (EP X pins σ Q) X.xe s := by
  have r2 : Vals (vs ++ dvs) (us ++ ds) := r.append hd
  have hl : (us ++ ds).length = ps.length := by rw [← r2.length]; exact F.len _ _ _ _ h
  refine wpAny_call (codeAny_mono (F.run X.A X.stack s H ⟨us, []⟩ (us ++ ds) (vs ++ dvs) Q (E σ) hr I.env0 (hb s us I.kIn hl) r2 h) fun r s' hq => ?_)
  cases r with
  | error e => exact hx pins H s e s' I hq
  | ok fl =>
    cases fl with
    | ret u => exact I.after hq
    | next => exact False.elim hq
    | brk => exact False.elim hq
    | cont => exact False.elim hq
def tCallSD (sp : Sp) (dvs : List V) (E : L2.St → XK) (t : TA) : TE := fun σ H Q => t σ H fun vs H1 => sp (vs ++ dvs) H1 Q (E σ)
theorem pe_callSD (F : FnOk X.prog X.w X.K X.mg X.base CX k f fd ps sp) (hr : Room k X.A) (hg : Gl X x) (hm : X.mg x = some (.ref f)) (hk : PySem.W.keepIn X.K (.ref f) = true) (hb : Binds X.K fd ps ds) (hd : Vals dvs ds) (hx : ∀ σ, PassesAt CX X σ (E σ))
    (ha : PA X (e :: es) t) (hdb : (x == ("__debug__" : Str)) = false := by decide) (he : starEach (e :: es) X.env = (false, eval e X.env) :: starEach es X.env := by rfl) (hpl : (backTo pos (starEach es X.env)).any (·.1) = false := by rfl) :
    PE X (.Call (.Name x p) (e :: es) [] pos) (tCallSD sp dvs E t) := by
  refine ⟨fun pins s σ H Q I h => ?_⟩
  refine wpAny_Call_Name_kw (ld_glob I hg hm ?_ hdb)
  refine PySem.W.callWith_K (h₀ := X.base) I.ok.mod.kin hk (thn (ha.run pos pins s σ H _ I h) fun us s1 ⟨vs, H1, I1, r, q⟩ => ⟨I1.kIn, ?_⟩) he hpl
  exact run_fnSD F hr hb hd (hx σ) I1 r q
end
/-- what simp leaves alone -/
def Kp (p : Prop) : Prop := p
theorem Kp.of {p : Prop} (h : p) : Kp p := h
end ZW

namespace ZW
open PySem PySem.Spec PyProof.Rows L2
theorem dvl_2 : DivOk 2 = True := eq_true ⟨by decide, by decide +kernel⟩
theorem dvl_3 : DivOk 3 = True := eq_true ⟨by decide, by decide +kernel⟩
theorem dvl_4 : DivOk 4 = True := eq_true ⟨by decide, by decide +kernel⟩
theorem dvl_5 : DivOk 5 = True := eq_true ⟨by decide, by decide +kernel⟩
theorem dvl_6 : DivOk 6 = True := eq_true ⟨by decide, by decide +kernel⟩
theorem dvl_7 : DivOk 7 = True := eq_true ⟨by decide, by decide +kernel⟩
theorem dvl_8 : DivOk 8 = True := eq_true ⟨by decide, by decide +kernel⟩
theorem dvl_12 : DivOk 12 = True := eq_true ⟨by decide, by decide +kernel⟩
theorem dvl_15 : DivOk 15 = True := eq_true ⟨by decide, by decide +kernel⟩
theorem dvl_16 : DivOk 16 = True := eq_true ⟨by decide, by decide +kernel⟩
theorem dvl_24 : DivOk 24 = True := eq_true ⟨by decide, by decide +kernel⟩
theorem dvl_26 : DivOk 26 = True := eq_true ⟨by decide, by decide +kernel⟩
theorem dvl_28 : DivOk 28 = True := eq_true ⟨by decide, by decide +kernel⟩
theorem dvl_64 : DivOk 64 = True := eq_true ⟨by decide, by decide +kernel⟩
theorem dvl_840 : DivOk 840 = True := eq_true ⟨by decide, by decide +kernel⟩
theorem dvl_6720 : DivOk 6720 = True := eq_true ⟨by decide, by decide +kernel⟩
theorem dvl_1000000000000000000000000000000000000000000000 : DivOk 1000000000000000000000000000000000000000000000 = True := eq_true ⟨by decide, by decide +kernel⟩
theorem pwl_2_4 : CPow 2 4 = True := eq_true ⟨by decide, by decide, by decide +kernel⟩
theorem pwl_10_15 : CPow 10 15 = True := eq_true ⟨by decide, by decide, by decide +kernel⟩
theorem pwl_10_18 : CPow 10 18 = True := eq_true ⟨by decide, by decide, by decide +kernel⟩
theorem pwl_10_30 : CPow 10 30 = True := eq_true ⟨by decide, by decide, by decide +kernel⟩
theorem pwl_10_40 : CPow 10 40 = True := eq_true ⟨by decide, by decide, by decide +kernel⟩
theorem pwl_10_45 : CPow 10 45 = True := eq_true ⟨by decide, by decide, by decide +kernel⟩
end ZW
local macro_rules | `(tactic| walk_at "rd") => `(tactic| ((try simp only [L2.start, List.map_cons, List.map_nil, List.length_cons, List.length_nil, Nat.reduceAdd, Nat.zero_add, Nat.reduceSub, Nat.sub_self, List.replicate, List.cons_append, List.nil_append, List.append_nil]); try simp only [L2.tIfS, L2.tTest, L2.tB, L2.tOp, L2.tUn, L2.tVar, L2.tC, L2.tRet, L2.tRetN, L2.tNext, L2.tAsg, L2.tPar, L2.gName, L2.tCons, L2.tNil, L2.tCall, L2.tCB, L2.tAnd, L2.tOr, L2.tNot, L2.tAndV, L2.tOrV, L2.tNotV, L2.tIf, L2.rI0, L2.rI, L2.rU, L2.rAdd, L2.rSub, L2.rEq, L2.rNe, L2.scal, L2.tTup, L2.tLst, ZW.tTupN, ZW.tLstN, L2.tSl, L2.tPart, L2.tNoPart, ZW.rSlN, ZW.rCatN, ZW.rRepN, ZW.rListN, ZW.rIntB,  L2.tDrop, L2.tIsN, L2.tNotN, L2.tCmp, L2.t2I,
  List.map_cons, List.map_nil, List.length_cons, List.length_nil, List.append_nil, List.nil_append, List.cons_append, List.getElem?_cons_zero, List.getElem?_cons_succ, List.set_cons_zero, List.set_cons_succ, Nat.reduceSub, Nat.reduceAdd, Nat.sub_self, Nat.zero_add, List.getElem?_nil, List.append_eq,
  Option.some.injEq, L2.V.int.injEq, L2.V.bl.injEq, L2.V.ref.injEq, reduceCtorEq, exists_eq_left', exists_eq_left, exists_eq, true_and, and_true, exists_and_left, exists_eq_right, exists_eq_right', decide_true, decide_false, Bool.not_true, Bool.not_false, if_true, if_false, ite_true, ite_false, Bool.false_eq_true, List.cons.injEq, ite_self, and_self, and_assoc, L2.gCons, L2.gNil, Int.reduceToNat, Int.reduceMul, Int.reduceSub, Int.reduceAdd, Int.reduceNe, Int.reduceLE, Int.reduceLT, Int.reduceNeg, Int.reduceEq, ZW.dvl_2, ZW.dvl_3, ZW.dvl_4, ZW.dvl_5, ZW.dvl_6, ZW.dvl_7, ZW.dvl_8, ZW.dvl_12, ZW.dvl_15, ZW.dvl_16, ZW.dvl_24, ZW.dvl_26, ZW.dvl_28, ZW.dvl_64, ZW.dvl_840, ZW.dvl_6720, ZW.dvl_1000000000000000000000000000000000000000000000, ZW.pwl_2_4, ZW.pwl_10_15, ZW.pwl_10_18, ZW.pwl_10_30, ZW.pwl_10_40, ZW.pwl_10_45, ZW.sz_line, Nat.reduceLT, Nat.reduceLeDiff, Nat.reduceLeDiff, ne_eq, not_false_eq_true, Int.reducePow, Int.pow_one,  forall_const, implies_true, ZW.cxK, ZW.ncast, L2.tCallS, ZW.tCallSD, ZW.tRevN, L2.tYes, L2.gSub, Int.zero_add, ZW.tDictN, L2.wipe, L2.tDGet, L2.tDIn, L2.tDNotIn, L2.sDPut]))
local macro_rules | `(tactic| walk_at "ix") => `(tactic| (walk_at "rd"; first | refine ZW.ix_l (L2.SqL.of (by assumption)) (by decide) rfl ?_ | refine ZW.ix_t (L2.SqT.of (by assumption)) (by decide) rfl ?_))
local macro_rules | `(tactic| walk_at "sq") => `(tactic| (walk_at "rd"; refine ZW.seq_step ?_; walk_at "rd"))
local macro_rules | `(tactic| walk_at "isT") => `(tactic| (walk_at "rd"; refine ZW.isi (r := true) (by first | exact .base (.int _) | exact .base (.bl _) | exact .base .non | exact .base (.str _) | exact .base (.tup (by assumption)) | exact .base (.lst (by assumption)) | exact .base (.dK (by assumption))) (by decide +kernel) ?_; walk_at "rd"))
local macro_rules | `(tactic| walk_at "isF") => `(tactic| (walk_at "rd"; refine ZW.isi (r := false) (by first | exact .base (.int _) | exact .base (.bl _) | exact .base .non | exact .base (.str _) | exact .base (.tup (by assumption)) | exact .base (.lst (by assumption)) | exact .base (.dK (by assumption))) (by decide +kernel) ?_; walk_at "rd"))
local macro_rules | `(tactic| walk_at "rt") => `(tactic| (walk_at "rd"; (try simp only [L2.V.str.injEq, L2.tChain, exists_eq_left', exists_eq_left, exists_eq_right', true_and, and_true, exists_and_left]); (try walk_at "rd"); (try simp only [L2.V.str.injEq, exists_eq_left', exists_eq_left, exists_eq_right', true_and, and_true, exists_and_left])))

namespace ZW
open PySem PySem.Spec PyProof.Rows L2
def topS (i : Nat) : Stmt := PySem.Challenge.pw_zonewalk_k51_rooms_of_roads.main.body.getD i (.Pass ⟨0, 0, 0, 0⟩)
abbrev s_at_most : Stmt := topS 1
theorem sc_at_most : FnScope ["number"] ["number"] (defScope s_at_most) := ⟨rfl, rfl, rfl, by decide +kernel, rfl, by decide +kernel, by decide +kernel⟩
abbrev s_below : Stmt := topS 2
theorem sc_below : FnScope ["number"] ["number"] (defScope s_below) := ⟨rfl, rfl, rfl, by decide +kernel, rfl, by decide +kernel, by decide +kernel⟩
abbrev s_number_of : Stmt := topS 3
theorem sc_number_of : FnScope ["bound"] ["bound"] (defScope s_number_of) := ⟨rfl, rfl, rfl, by decide +kernel, rfl, by decide +kernel, by decide +kernel⟩
abbrev s_is_open : Stmt := topS 4
theorem sc_is_open : FnScope ["bound"] ["bound"] (defScope s_is_open) := ⟨rfl, rfl, rfl, by decide +kernel, rfl, by decide +kernel, by decide +kernel⟩
abbrev s_added : Stmt := topS 5
theorem sc_added : FnScope ["one", "other"] ["one", "other"] (defScope s_added) := ⟨rfl, rfl, rfl, by decide +kernel, rfl, by decide +kernel, by decide +kernel⟩
abbrev s_narrower : Stmt := topS 6
theorem sc_narrower : FnScope ["one", "other"] ["one", "other"] (defScope s_narrower) := ⟨rfl, rfl, rfl, by decide +kernel, rfl, by decide +kernel, by decide +kernel⟩
abbrev s_is_whole : Stmt := topS 16
theorem sc_is_whole : FnScope ["thing"] ["thing"] (defScope s_is_whole) := ⟨rfl, rfl, rfl, by decide +kernel, rfl, by decide +kernel, by decide +kernel⟩
abbrev s_divisor : Stmt := topS 17
theorem sc_divisor : FnScope ["one", "other"] ["one", "other"] (defScope s_divisor) := ⟨rfl, rfl, rfl, by decide +kernel, rfl, by decide +kernel, by decide +kernel⟩
abbrev s_fraction : Stmt := topS 18
theorem sc_fraction : FnScope ["top", "bottom", "share"] ["top", "bottom"] (defScope s_fraction) := ⟨rfl, rfl, rfl, by decide +kernel, rfl, by decide +kernel, by decide +kernel⟩
abbrev s_minus : Stmt := topS 19
theorem sc_minus : FnScope ["one", "other"] ["one", "other"] (defScope s_minus) := ⟨rfl, rfl, rfl, by decide +kernel, rfl, by decide +kernel, by decide +kernel⟩
abbrev s_of_signs : Stmt := topS 27
theorem sc_of_signs : FnScope ["thing", "signs", "most", "sign"] ["thing", "signs", "most"] (defScope s_of_signs) := ⟨rfl, rfl, rfl, by decide +kernel, rfl, by decide +kernel, by decide +kernel⟩
abbrev s_is_name : Stmt := topS 28
theorem sc_is_name : FnScope ["thing"] ["thing"] (defScope s_is_name) := ⟨rfl, rfl, rfl, by decide +kernel, rfl, by decide +kernel, by decide +kernel⟩
abbrev s_is_watch_name : Stmt := topS 29
theorem sc_is_watch_name : FnScope ["thing"] ["thing"] (defScope s_is_watch_name) := ⟨rfl, rfl, rfl, by decide +kernel, rfl, by decide +kernel, by decide +kernel⟩
abbrev s_is_sign : Stmt := topS 30
theorem sc_is_sign : FnScope ["thing"] ["thing"] (defScope s_is_sign) := ⟨rfl, rfl, rfl, by decide +kernel, rfl, by decide +kernel, by decide +kernel⟩
abbrev s_is_look : Stmt := topS 31
theorem sc_is_look : FnScope ["thing", "words", "watches"] ["thing", "words", "watches"] (defScope s_is_look) := ⟨rfl, rfl, rfl, by decide +kernel, rfl, by decide +kernel, by decide +kernel⟩
abbrev s_is_guard : Stmt := topS 32
theorem sc_is_guard : FnScope ["thing", "words", "watches", "look"] ["thing", "words", "watches"] (defScope s_is_guard) := ⟨rfl, rfl, rfl, by decide +kernel, rfl, by decide +kernel, by decide +kernel⟩
abbrev s_unlike : Stmt := topS 33
theorem sc_unlike : FnScope ["things"] ["things"] (defScope s_unlike) := ⟨rfl, rfl, rfl, by decide +kernel, rfl, by decide +kernel, by decide +kernel⟩
abbrev s_own : Stmt := topS 34
theorem sc_own : FnScope ["thing"] ["thing"] (defScope s_own) := ⟨rfl, rfl, rfl, by decide +kernel, rfl, by decide +kernel, by decide +kernel⟩
abbrev s_Door_init : Stmt := inClass (topS 35) 0
theorem sc_Door_init : FnScope ["self", "start", "end", "guard", "noughts", "sign"] ["self", "start", "end", "guard", "noughts", "sign"] (defScope s_Door_init) := ⟨rfl, rfl, rfl, by decide +kernel, rfl, by decide +kernel, by decide +kernel⟩
abbrev s_Door_asks : Stmt := inClass (topS 35) 1
theorem sc_Door_asks : FnScope ["self"] ["self"] (defScope s_Door_asks) := ⟨rfl, rfl, rfl, by decide +kernel, rfl, by decide +kernel, by decide +kernel⟩
abbrev s_Door_sets : Stmt := inClass (topS 35) 2
theorem sc_Door_sets : FnScope ["self"] ["self"] (defScope s_Door_sets) := ⟨rfl, rfl, rfl, by decide +kernel, rfl, by decide +kernel, by decide +kernel⟩
abbrev s_are_watches : Stmt := topS 36
theorem sc_are_watches : FnScope ["thing", "watch"] ["thing"] (defScope s_are_watches) := ⟨rfl, rfl, rfl, by decide +kernel, rfl, by decide +kernel, by decide +kernel⟩
abbrev s_is_room : Stmt := topS 37
theorem sc_is_room : FnScope ["thing", "watches"] ["thing", "watches"] (defScope s_is_room) := ⟨rfl, rfl, rfl, by decide +kernel, rfl, by decide +kernel, by decide +kernel⟩
abbrev s_are_rooms : Stmt := topS 38
theorem sc_are_rooms : FnScope ["thing", "watches", "room"] ["thing", "watches"] (defScope s_are_rooms) := ⟨rfl, rfl, rfl, by decide +kernel, rfl, by decide +kernel, by decide +kernel⟩
abbrev s_is_door : Stmt := topS 39
theorem sc_is_door : FnScope ["thing", "watches", "names", "name", "noughts", "watch"] ["thing", "watches", "names"] (defScope s_is_door) := ⟨rfl, rfl, rfl, by decide +kernel, rfl, by decide +kernel, by decide +kernel⟩
abbrev s_Machine_init : Stmt := inClass (topS 40) 0
theorem sc_Machine_init : FnScope ["self", "watches", "rooms", "doors", "names", "room", "door"] ["self", "watches", "rooms", "doors"] (defScope s_Machine_init) := ⟨rfl, rfl, rfl, by decide +kernel, rfl, by decide +kernel, by decide +kernel⟩
abbrev s_Machine_watches : Stmt := inClass (topS 40) 1
theorem sc_Machine_watches : FnScope ["self"] ["self"] (defScope s_Machine_watches) := ⟨rfl, rfl, rfl, by decide +kernel, rfl, by decide +kernel, by decide +kernel⟩
abbrev s_Machine_rooms : Stmt := inClass (topS 40) 2
theorem sc_Machine_rooms : FnScope ["self"] ["self"] (defScope s_Machine_rooms) := ⟨rfl, rfl, rfl, by decide +kernel, rfl, by decide +kernel, by decide +kernel⟩
abbrev s_Machine_doors : Stmt := inClass (topS 40) 3
theorem sc_Machine_doors : FnScope ["self"] ["self"] (defScope s_Machine_doors) := ⟨rfl, rfl, rfl, by decide +kernel, rfl, by decide +kernel, by decide +kernel⟩
abbrev s_Machine_stay : Stmt := inClass (topS 40) 4
theorem sc_Machine_stay : FnScope ["self", "room"] ["self", "room"] (defScope s_Machine_stay) := ⟨rfl, rfl, rfl, by decide +kernel, rfl, by decide +kernel, by decide +kernel⟩
abbrev s_Machine_watch_number : Stmt := inClass (topS 40) 5
theorem sc_Machine_watch_number : FnScope ["self", "name"] ["self", "name"] (defScope s_Machine_watch_number) := ⟨rfl, rfl, rfl, by decide +kernel, rfl, by decide +kernel, by decide +kernel⟩
abbrev s_placed : Stmt := topS 41
theorem sc_placed : FnScope ["machine", "guard", "watches", "watch", "word", "number"] ["machine", "guard"] (defScope s_placed) := ⟨rfl, rfl, rfl, by decide +kernel, rfl, by decide +kernel, by decide +kernel⟩
abbrev s_through : Stmt := topS 44
theorem sc_through : FnScope ["rows", "k", "way", "row", "j"] ["rows", "k"] (defScope s_through) := ⟨rfl, rfl, rfl, by decide +kernel, rfl, by decide +kernel, by decide +kernel⟩
abbrev s_narrowest : Stmt := topS 45
theorem sc_narrowest : FnScope ["zone", "rows", "i", "k", "row"] ["zone"] (defScope s_narrowest) := ⟨rfl, rfl, rfl, by decide +kernel, rfl, by decide +kernel, by decide +kernel⟩
abbrev s_everywhere : Stmt := topS 46
theorem sc_everywhere : FnScope ["many", "rows", "i", "row"] ["many"] (defScope s_everywhere) := ⟨rfl, rfl, rfl, by decide +kernel, rfl, by decide +kernel, by decide +kernel⟩
abbrev s_room_of : Stmt := topS 49
theorem sc_room_of : FnScope ["machine", "road", "doors", "room", "number"] ["machine", "road"] (defScope s_room_of) := ⟨rfl, rfl, rfl, by decide +kernel, rfl, by decide +kernel, by decide +kernel⟩
abbrev s_put_look : Stmt := topS 50
theorem sc_put_look : FnScope ["zone", "look", "since", "now", "watch", "word", "number", "bound"] ["zone", "look", "since", "now"] (defScope s_put_look) := ⟨rfl, rfl, rfl, by decide +kernel, rfl, by decide +kernel, by decide +kernel⟩
abbrev s_put_guard : Stmt := topS 51
theorem sc_put_guard : FnScope ["zone", "machine", "guard", "since", "now", "look"] ["zone", "machine", "guard", "since", "now"] (defScope s_put_guard) := ⟨rfl, rfl, rfl, by decide +kernel, rfl, by decide +kernel, by decide +kernel⟩
abbrev s_road_zone : Stmt := topS 52
theorem sc_road_zone : FnScope ["machine", "road", "guard", "doors", "zone", "watch", "since", "room", "now", "door"] ["machine", "road", "guard"] (defScope s_road_zone) := ⟨rfl, rfl, rfl, by decide +kernel, rfl, by decide +kernel, by decide +kernel⟩
abbrev s_soonest : Stmt := topS 53
theorem sc_soonest : FnScope ["machine", "road", "guard", "zone", "bound"] ["machine", "road", "guard"] (defScope s_soonest) := ⟨rfl, rfl, rfl, by decide +kernel, rfl, by decide +kernel, by decide +kernel⟩
abbrev s_fine : Stmt := topS 54
theorem sc_fine : FnScope ["bound", "scale"] ["bound", "scale"] (defScope s_fine) := ⟨rfl, rfl, rfl, by decide +kernel, rfl, by decide +kernel, by decide +kernel⟩
abbrev s_least_times : Stmt := topS 55
theorem sc_least_times : FnScope ["zone", "scale", "rows", "bound", "row"] ["zone", "scale"] (defScope s_least_times) := ⟨rfl, rfl, rfl, by decide +kernel, rfl, by decide +kernel, by decide +kernel⟩
abbrev s_steps_of : Stmt := topS 56
theorem sc_steps_of : FnScope ["road", "times", "doors", "k"] ["road", "times"] (defScope s_steps_of) := ⟨rfl, rfl, rfl, by decide +kernel, rfl, by decide +kernel, by decide +kernel⟩
abbrev s_run_of : Stmt := topS 57
theorem sc_run_of : FnScope ["machine", "road", "guard", "zone"] ["machine", "road", "guard"] (defScope s_run_of) := ⟨rfl, rfl, rfl, by decide +kernel, rfl, by decide +kernel, by decide +kernel⟩
abbrev s_soonest_run : Stmt := topS 58
theorem sc_soonest_run : FnScope ["machine", "road", "guard", "near", "zone", "parts"] ["machine", "road", "guard", "near"] (defScope s_soonest_run) := ⟨rfl, rfl, rfl, by decide +kernel, rfl, by decide +kernel, by decide +kernel⟩
abbrev s_l_cell_at : Stmt := topS 60
theorem sc_l_cell_at : FnScope ["_law_script", "_law_k"] ["_law_script", "_law_k"] (defScope s_l_cell_at) := ⟨rfl, rfl, rfl, by decide +kernel, rfl, by decide +kernel, by decide +kernel⟩
abbrev s_l_stream : Stmt := topS 61
theorem sc_l_stream : FnScope ["_law_cell", "_law_many", "_law_found", "_law_rest", "_law_k", "_law_number_here"] ["_law_cell", "_law_many"] (defScope s_l_stream) := ⟨rfl, rfl, rfl, by decide +kernel, rfl, by decide +kernel, by decide +kernel⟩
abbrev s_l_names : Stmt := topS 62
theorem sc_l_names : FnScope ["_law_cell", "_law_many", "_law_letters", "_law_size", "_law_at", "_law_names_here", "_law_k", "_law_word", "_law_j"] ["_law_cell", "_law_many"] (defScope s_l_names) := ⟨rfl, rfl, rfl, by decide +kernel, rfl, by decide +kernel, by decide +kernel⟩
abbrev s_l_number : Stmt := topS 63
theorem sc_l_number : FnScope ["_law_x", "_law_unit"] ["_law_x", "_law_unit"] (defScope s_l_number) := ⟨rfl, rfl, rfl, by decide +kernel, rfl, by decide +kernel, by decide +kernel⟩
abbrev s_l_guard : Stmt := topS 64
theorem sc_l_guard : FnScope ["_law_xs", "_law_unit", "_law_watches", "_law_guard_here", "_law_k", "_law_word"] ["_law_xs", "_law_unit", "_law_watches"] (defScope s_l_guard) := ⟨rfl, rfl, rfl, by decide +kernel, rfl, by decide +kernel, by decide +kernel⟩
abbrev s_l_stay : Stmt := topS 65
theorem sc_l_stay : FnScope ["_law_xs", "_law_unit", "_law_watches", "_law_stay_here", "_law_k", "_law_number_here"] ["_law_xs", "_law_unit", "_law_watches"] (defScope s_l_stay) := ⟨rfl, rfl, rfl, by decide +kernel, rfl, by decide +kernel, by decide +kernel⟩
abbrev s_l_door : Stmt := topS 66
theorem sc_l_door : FnScope ["_law_cell", "_law_unit", "_law_watches", "_law_many", "_law_xs", "_law_noughts", "_law_sign", "_law_k"] ["_law_cell", "_law_unit", "_law_watches", "_law_many"] (defScope s_l_door) := ⟨rfl, rfl, rfl, by decide +kernel, rfl, by decide +kernel, by decide +kernel⟩
abbrev s_l_machine : Stmt := topS 67
theorem sc_l_machine : FnScope ["_law_script", "_law_first", "_law_second", "_law_unit", "_law_watches", "_law_names_here", "_law_rooms", "_law_k", "_law_xs", "_law_doors", "_law_cell"] ["_law_script"] (defScope s_l_machine) := ⟨rfl, rfl, rfl, by decide +kernel, rfl, by decide +kernel, by decide +kernel⟩
abbrev s_l_made : Stmt := topS 68
theorem sc_l_made : FnScope ["_law_spec", "_law_watches", "_law_rooms", "_law_doors", "_law_built", "_law_begin", "_law_end", "_law_guard_here", "_law_noughts", "_law_sign", "_law_name", "_law_stay_here"] ["_law_spec"] (defScope s_l_made) := ⟨rfl, rfl, rfl, by decide +kernel, rfl, by decide +kernel, by decide +kernel⟩
abbrev s_l_road : Stmt := topS 69
theorem sc_l_road : FnScope ["_law_spec", "_law_cells", "_law_watches", "_law_rooms", "_law_doors", "_law_room_here", "_law_road_here", "_law_cell", "_law_ways", "_law_k"] ["_law_spec", "_law_cells"] (defScope s_l_road) := ⟨rfl, rfl, rfl, by decide +kernel, rfl, by decide +kernel, by decide +kernel⟩
abbrev s_l_spoilt : Stmt := topS 70
theorem sc_l_spoilt : FnScope ["_law_spec", "_law_road_here", "_law_cell", "_law_watches", "_law_rooms", "_law_doors", "_law_some", "_law_bad", "_law_at"] ["_law_spec", "_law_road_here", "_law_cell"] (defScope s_l_spoilt) := ⟨rfl, rfl, rfl, by decide +kernel, rfl, by decide +kernel, by decide +kernel⟩
abbrev s_l_room : Stmt := topS 71
theorem sc_l_room : FnScope ["_law_spec", "_law_road_here", "_law_watches", "_law_rooms", "_law_doors", "_law_room_here", "_law_number_here"] ["_law_spec", "_law_road_here"] (defScope s_l_room) := ⟨rfl, rfl, rfl, by decide +kernel, rfl, by decide +kernel, by decide +kernel⟩
abbrev s_l_asked : Stmt := topS 72
theorem sc_l_asked : FnScope ["_law_which", "_law_machine_here", "_law_road_here", "_law_guard_here"] ["_law_which", "_law_machine_here", "_law_road_here", "_law_guard_here"] (defScope s_l_asked) := ⟨rfl, rfl, rfl, by decide +kernel, rfl, by decide +kernel, by decide +kernel⟩
abbrev s_l_refused : Stmt := topS 73
theorem sc_l_refused : FnScope ["_law_which", "_law_machine_here", "_law_road_here", "_law_guard_here", "_law_found", "_law_good", "e"] ["_law_which", "_law_machine_here", "_law_road_here", "_law_guard_here"] (defScope s_l_refused) := ⟨rfl, rfl, rfl, by decide +kernel, rfl, by decide +kernel, by decide +kernel⟩
abbrev s_law : Stmt := topS 74
theorem sc_law : FnScope ["_law_script", "_law_spec", "_law_machine_here", "_law_road_here", "_law_room_here", "_law_found", "_law_cell", "_law_wrong", "_law_due", "_law_which", "_law_bad"] ["_law_script"] (defScope s_law) := ⟨rfl, rfl, rfl, by decide +kernel, rfl, by decide +kernel, by decide +kernel⟩
structure Top (K : PySem.W.Frag) (mg : Str → Option Value) where
  C_Door : Addr
  g_Door : mg "Door" = some (.ref C_Door)
  cl_Door : Cls K C_Door
  ty_Door : OwnCls K C_Door
  n_Door_backs : NoAttr K C_Door "backs"
  n_Door_end : NoAttr K C_Door "end"
  n_Door_looks : NoAttr K C_Door "looks"
  n_Door_sign : NoAttr K C_Door "sign"
  n_Door_start : NoAttr K C_Door "start"
  C_Machine : Addr
  g_Machine : mg "Machine" = some (.ref C_Machine)
  cl_Machine : Cls K C_Machine
  ty_Machine : OwnCls K C_Machine
  n_Machine_door_list : NoAttr K C_Machine "door_list"
  n_Machine_room_names : NoAttr K C_Machine "room_names"
  n_Machine_stay_looks : NoAttr K C_Machine "stay_looks"
  n_Machine_watch_names : NoAttr K C_Machine "watch_names"
  t_BELOW : Addr
  g_BELOW : mg "BELOW" = some (.ref t_BELOW)
  q_BELOW : ∀ H, SqT K H t_BELOW ((["<", "<="] : List Str).map V.str)
  t_WORDS : Addr
  g_WORDS : mg "WORDS" = some (.ref t_WORDS)
  q_WORDS : ∀ H, SqT K H t_WORDS ((["<", "<=", ">", ">=", "="] : List Str).map V.str)
  f_at_most : Addr
  d_at_most : FuncData
  F_at_most : Fun K "at_most" "at_most" s_at_most f_at_most d_at_most
  b_at_most : Binds K d_at_most ["number"] []
  g_at_most : mg "at_most" = some (.ref f_at_most)
  f_below : Addr
  d_below : FuncData
  F_below : Fun K "below" "below" s_below f_below d_below
  b_below : Binds K d_below ["number"] []
  g_below : mg "below" = some (.ref f_below)
  f_number_of : Addr
  d_number_of : FuncData
  F_number_of : Fun K "number_of" "number_of" s_number_of f_number_of d_number_of
  b_number_of : Binds K d_number_of ["bound"] []
  g_number_of : mg "number_of" = some (.ref f_number_of)
  f_is_open : Addr
  d_is_open : FuncData
  F_is_open : Fun K "is_open" "is_open" s_is_open f_is_open d_is_open
  b_is_open : Binds K d_is_open ["bound"] []
  g_is_open : mg "is_open" = some (.ref f_is_open)
  f_added : Addr
  d_added : FuncData
  F_added : Fun K "added" "added" s_added f_added d_added
  b_added : Binds K d_added ["one", "other"] []
  g_added : mg "added" = some (.ref f_added)
  f_narrower : Addr
  d_narrower : FuncData
  F_narrower : Fun K "narrower" "narrower" s_narrower f_narrower d_narrower
  b_narrower : Binds K d_narrower ["one", "other"] []
  g_narrower : mg "narrower" = some (.ref f_narrower)
  f_is_whole : Addr
  d_is_whole : FuncData
  F_is_whole : Fun K "is_whole" "is_whole" s_is_whole f_is_whole d_is_whole
  b_is_whole : Binds K d_is_whole ["thing"] []
  g_is_whole : mg "is_whole" = some (.ref f_is_whole)
  f_divisor : Addr
  d_divisor : FuncData
  F_divisor : Fun K "divisor" "divisor" s_divisor f_divisor d_divisor
  b_divisor : Binds K d_divisor ["one", "other"] []
  g_divisor : mg "divisor" = some (.ref f_divisor)
  f_fraction : Addr
  d_fraction : FuncData
  F_fraction : FunD K "fraction" "fraction" (defArgs s_fraction) (defBody s_fraction) (defScope s_fraction) [.int 1] [] f_fraction d_fraction
  b_fraction : Binds K d_fraction ["top", "bottom"] []
  g_fraction : mg "fraction" = some (.ref f_fraction)
  dv_fraction : List Value
  v_fraction : Vals [.int 1] dv_fraction
  bd_fraction : Binds K d_fraction ["top", "bottom"] dv_fraction
  f_minus : Addr
  d_minus : FuncData
  F_minus : Fun K "minus" "minus" s_minus f_minus d_minus
  b_minus : Binds K d_minus ["one", "other"] []
  g_minus : mg "minus" = some (.ref f_minus)
  f_of_signs : Addr
  d_of_signs : FuncData
  F_of_signs : Fun K "of_signs" "of_signs" s_of_signs f_of_signs d_of_signs
  b_of_signs : Binds K d_of_signs ["thing", "signs", "most"] []
  g_of_signs : mg "of_signs" = some (.ref f_of_signs)
  f_is_name : Addr
  d_is_name : FuncData
  F_is_name : Fun K "is_name" "is_name" s_is_name f_is_name d_is_name
  b_is_name : Binds K d_is_name ["thing"] []
  g_is_name : mg "is_name" = some (.ref f_is_name)
  f_is_watch_name : Addr
  d_is_watch_name : FuncData
  F_is_watch_name : Fun K "is_watch_name" "is_watch_name" s_is_watch_name f_is_watch_name d_is_watch_name
  b_is_watch_name : Binds K d_is_watch_name ["thing"] []
  g_is_watch_name : mg "is_watch_name" = some (.ref f_is_watch_name)
  f_is_sign : Addr
  d_is_sign : FuncData
  F_is_sign : Fun K "is_sign" "is_sign" s_is_sign f_is_sign d_is_sign
  b_is_sign : Binds K d_is_sign ["thing"] []
  g_is_sign : mg "is_sign" = some (.ref f_is_sign)
  f_is_look : Addr
  d_is_look : FuncData
  F_is_look : Fun K "is_look" "is_look" s_is_look f_is_look d_is_look
  b_is_look : Binds K d_is_look ["thing", "words", "watches"] []
  g_is_look : mg "is_look" = some (.ref f_is_look)
  f_is_guard : Addr
  d_is_guard : FuncData
  F_is_guard : Fun K "is_guard" "is_guard" s_is_guard f_is_guard d_is_guard
  b_is_guard : Binds K d_is_guard ["thing", "words", "watches"] []
  g_is_guard : mg "is_guard" = some (.ref f_is_guard)
  f_unlike : Addr
  d_unlike : FuncData
  F_unlike : Fun K "unlike" "unlike" s_unlike f_unlike d_unlike
  b_unlike : Binds K d_unlike ["things"] []
  g_unlike : mg "unlike" = some (.ref f_unlike)
  f_own : Addr
  d_own : FuncData
  F_own : Fun K "own" "own" s_own f_own d_own
  b_own : Binds K d_own ["thing"] []
  g_own : mg "own" = some (.ref f_own)
  f_Door_init : Addr
  d_Door_init : FuncData
  F_Door_init : FunD K "__init__" "Door.__init__" (defArgs s_Door_init) (defBody s_Door_init) (defScope s_Door_init) [.str ""] [] f_Door_init d_Door_init
  b_Door_init : Binds K d_Door_init ["self", "start", "end", "guard", "noughts", "sign"] []
  mk_Door : Mk K C_Door f_Door_init
  dv_Door_init : List Value
  v_Door_init : Vals [.str ""] dv_Door_init
  bd_Door_init : Binds K d_Door_init ["self", "start", "end", "guard", "noughts", "sign"] dv_Door_init
  f_Door_asks : Addr
  d_Door_asks : FuncData
  F_Door_asks : Fun K "asks" "Door.asks" s_Door_asks f_Door_asks d_Door_asks
  b_Door_asks : Binds K d_Door_asks ["self"] []
  m_Door_asks : Meth K C_Door "asks" f_Door_asks
  f_Door_sets : Addr
  d_Door_sets : FuncData
  F_Door_sets : Fun K "sets" "Door.sets" s_Door_sets f_Door_sets d_Door_sets
  b_Door_sets : Binds K d_Door_sets ["self"] []
  m_Door_sets : Meth K C_Door "sets" f_Door_sets
  f_are_watches : Addr
  d_are_watches : FuncData
  F_are_watches : Fun K "are_watches" "are_watches" s_are_watches f_are_watches d_are_watches
  b_are_watches : Binds K d_are_watches ["thing"] []
  g_are_watches : mg "are_watches" = some (.ref f_are_watches)
  f_is_room : Addr
  d_is_room : FuncData
  F_is_room : Fun K "is_room" "is_room" s_is_room f_is_room d_is_room
  b_is_room : Binds K d_is_room ["thing", "watches"] []
  g_is_room : mg "is_room" = some (.ref f_is_room)
  f_are_rooms : Addr
  d_are_rooms : FuncData
  F_are_rooms : Fun K "are_rooms" "are_rooms" s_are_rooms f_are_rooms d_are_rooms
  b_are_rooms : Binds K d_are_rooms ["thing", "watches"] []
  g_are_rooms : mg "are_rooms" = some (.ref f_are_rooms)
  f_is_door : Addr
  d_is_door : FuncData
  F_is_door : Fun K "is_door" "is_door" s_is_door f_is_door d_is_door
  b_is_door : Binds K d_is_door ["thing", "watches", "names"] []
  g_is_door : mg "is_door" = some (.ref f_is_door)
  f_Machine_init : Addr
  d_Machine_init : FuncData
  F_Machine_init : Fun K "__init__" "Machine.__init__" s_Machine_init f_Machine_init d_Machine_init
  b_Machine_init : Binds K d_Machine_init ["self", "watches", "rooms", "doors"] []
  mk_Machine : Mk K C_Machine f_Machine_init
  f_Machine_watches : Addr
  d_Machine_watches : FuncData
  F_Machine_watches : Fun K "watches" "Machine.watches" s_Machine_watches f_Machine_watches d_Machine_watches
  b_Machine_watches : Binds K d_Machine_watches ["self"] []
  m_Machine_watches : Meth K C_Machine "watches" f_Machine_watches
  f_Machine_rooms : Addr
  d_Machine_rooms : FuncData
  F_Machine_rooms : Fun K "rooms" "Machine.rooms" s_Machine_rooms f_Machine_rooms d_Machine_rooms
  b_Machine_rooms : Binds K d_Machine_rooms ["self"] []
  m_Machine_rooms : Meth K C_Machine "rooms" f_Machine_rooms
  f_Machine_doors : Addr
  d_Machine_doors : FuncData
  F_Machine_doors : Fun K "doors" "Machine.doors" s_Machine_doors f_Machine_doors d_Machine_doors
  b_Machine_doors : Binds K d_Machine_doors ["self"] []
  m_Machine_doors : Meth K C_Machine "doors" f_Machine_doors
  f_Machine_stay : Addr
  d_Machine_stay : FuncData
  F_Machine_stay : Fun K "stay" "Machine.stay" s_Machine_stay f_Machine_stay d_Machine_stay
  b_Machine_stay : Binds K d_Machine_stay ["self", "room"] []
  m_Machine_stay : Meth K C_Machine "stay" f_Machine_stay
  f_Machine_watch_number : Addr
  d_Machine_watch_number : FuncData
  F_Machine_watch_number : Fun K "watch_number" "Machine.watch_number" s_Machine_watch_number f_Machine_watch_number d_Machine_watch_number
  b_Machine_watch_number : Binds K d_Machine_watch_number ["self", "name"] []
  m_Machine_watch_number : Meth K C_Machine "watch_number" f_Machine_watch_number
  f_placed : Addr
  d_placed : FuncData
  F_placed : Fun K "placed" "placed" s_placed f_placed d_placed
  b_placed : Binds K d_placed ["machine", "guard"] []
  g_placed : mg "placed" = some (.ref f_placed)
  f_through : Addr
  d_through : FuncData
  F_through : Fun K "through" "through" s_through f_through d_through
  b_through : Binds K d_through ["rows", "k"] []
  g_through : mg "through" = some (.ref f_through)
  f_narrowest : Addr
  d_narrowest : FuncData
  F_narrowest : Fun K "narrowest" "narrowest" s_narrowest f_narrowest d_narrowest
  b_narrowest : Binds K d_narrowest ["zone"] []
  g_narrowest : mg "narrowest" = some (.ref f_narrowest)
  f_everywhere : Addr
  d_everywhere : FuncData
  F_everywhere : Fun K "everywhere" "everywhere" s_everywhere f_everywhere d_everywhere
  b_everywhere : Binds K d_everywhere ["many"] []
  g_everywhere : mg "everywhere" = some (.ref f_everywhere)
  f_room_of : Addr
  d_room_of : FuncData
  F_room_of : Fun K "room_of" "room_of" s_room_of f_room_of d_room_of
  b_room_of : Binds K d_room_of ["machine", "road"] []
  g_room_of : mg "room_of" = some (.ref f_room_of)
  f_put_look : Addr
  d_put_look : FuncData
  F_put_look : Fun K "put_look" "put_look" s_put_look f_put_look d_put_look
  b_put_look : Binds K d_put_look ["zone", "look", "since", "now"] []
  g_put_look : mg "put_look" = some (.ref f_put_look)
  f_put_guard : Addr
  d_put_guard : FuncData
  F_put_guard : Fun K "put_guard" "put_guard" s_put_guard f_put_guard d_put_guard
  b_put_guard : Binds K d_put_guard ["zone", "machine", "guard", "since", "now"] []
  g_put_guard : mg "put_guard" = some (.ref f_put_guard)
  f_road_zone : Addr
  d_road_zone : FuncData
  F_road_zone : Fun K "road_zone" "road_zone" s_road_zone f_road_zone d_road_zone
  b_road_zone : Binds K d_road_zone ["machine", "road", "guard"] []
  g_road_zone : mg "road_zone" = some (.ref f_road_zone)
  f_soonest : Addr
  d_soonest : FuncData
  F_soonest : Fun K "soonest" "soonest" s_soonest f_soonest d_soonest
  b_soonest : Binds K d_soonest ["machine", "road", "guard"] []
  g_soonest : mg "soonest" = some (.ref f_soonest)
  f_fine : Addr
  d_fine : FuncData
  F_fine : Fun K "fine" "fine" s_fine f_fine d_fine
  b_fine : Binds K d_fine ["bound", "scale"] []
  g_fine : mg "fine" = some (.ref f_fine)
  f_least_times : Addr
  d_least_times : FuncData
  F_least_times : Fun K "least_times" "least_times" s_least_times f_least_times d_least_times
  b_least_times : Binds K d_least_times ["zone", "scale"] []
  g_least_times : mg "least_times" = some (.ref f_least_times)
  f_steps_of : Addr
  d_steps_of : FuncData
  F_steps_of : Fun K "steps_of" "steps_of" s_steps_of f_steps_of d_steps_of
  b_steps_of : Binds K d_steps_of ["road", "times"] []
  g_steps_of : mg "steps_of" = some (.ref f_steps_of)
  f_run_of : Addr
  d_run_of : FuncData
  F_run_of : Fun K "run_of" "run_of" s_run_of f_run_of d_run_of
  b_run_of : Binds K d_run_of ["machine", "road", "guard"] []
  g_run_of : mg "run_of" = some (.ref f_run_of)
  f_soonest_run : Addr
  d_soonest_run : FuncData
  F_soonest_run : Fun K "soonest_run" "soonest_run" s_soonest_run f_soonest_run d_soonest_run
  b_soonest_run : Binds K d_soonest_run ["machine", "road", "guard", "near"] []
  g_soonest_run : mg "soonest_run" = some (.ref f_soonest_run)
  f_l_cell_at : Addr
  d_l_cell_at : FuncData
  F_l_cell_at : Fun K "_law_cell_at" "_law_cell_at" s_l_cell_at f_l_cell_at d_l_cell_at
  b_l_cell_at : Binds K d_l_cell_at ["_law_script", "_law_k"] []
  g_l_cell_at : mg "_law_cell_at" = some (.ref f_l_cell_at)
  f_l_stream : Addr
  d_l_stream : FuncData
  F_l_stream : Fun K "_law_stream" "_law_stream" s_l_stream f_l_stream d_l_stream
  b_l_stream : Binds K d_l_stream ["_law_cell", "_law_many"] []
  g_l_stream : mg "_law_stream" = some (.ref f_l_stream)
  f_l_names : Addr
  d_l_names : FuncData
  F_l_names : Fun K "_law_names" "_law_names" s_l_names f_l_names d_l_names
  b_l_names : Binds K d_l_names ["_law_cell", "_law_many"] []
  g_l_names : mg "_law_names" = some (.ref f_l_names)
  f_l_number : Addr
  d_l_number : FuncData
  F_l_number : Fun K "_law_number" "_law_number" s_l_number f_l_number d_l_number
  b_l_number : Binds K d_l_number ["_law_x", "_law_unit"] []
  g_l_number : mg "_law_number" = some (.ref f_l_number)
  f_l_guard : Addr
  d_l_guard : FuncData
  F_l_guard : Fun K "_law_guard" "_law_guard" s_l_guard f_l_guard d_l_guard
  b_l_guard : Binds K d_l_guard ["_law_xs", "_law_unit", "_law_watches"] []
  g_l_guard : mg "_law_guard" = some (.ref f_l_guard)
  f_l_stay : Addr
  d_l_stay : FuncData
  F_l_stay : Fun K "_law_stay" "_law_stay" s_l_stay f_l_stay d_l_stay
  b_l_stay : Binds K d_l_stay ["_law_xs", "_law_unit", "_law_watches"] []
  g_l_stay : mg "_law_stay" = some (.ref f_l_stay)
  f_l_door : Addr
  d_l_door : FuncData
  F_l_door : Fun K "_law_door" "_law_door" s_l_door f_l_door d_l_door
  b_l_door : Binds K d_l_door ["_law_cell", "_law_unit", "_law_watches", "_law_many"] []
  g_l_door : mg "_law_door" = some (.ref f_l_door)
  f_l_machine : Addr
  d_l_machine : FuncData
  F_l_machine : Fun K "_law_machine" "_law_machine" s_l_machine f_l_machine d_l_machine
  b_l_machine : Binds K d_l_machine ["_law_script"] []
  g_l_machine : mg "_law_machine" = some (.ref f_l_machine)
  f_l_made : Addr
  d_l_made : FuncData
  F_l_made : Fun K "_law_made" "_law_made" s_l_made f_l_made d_l_made
  b_l_made : Binds K d_l_made ["_law_spec"] []
  g_l_made : mg "_law_made" = some (.ref f_l_made)
  f_l_road : Addr
  d_l_road : FuncData
  F_l_road : Fun K "_law_road" "_law_road" s_l_road f_l_road d_l_road
  b_l_road : Binds K d_l_road ["_law_spec", "_law_cells"] []
  g_l_road : mg "_law_road" = some (.ref f_l_road)
  f_l_spoilt : Addr
  d_l_spoilt : FuncData
  F_l_spoilt : Fun K "_law_spoilt" "_law_spoilt" s_l_spoilt f_l_spoilt d_l_spoilt
  b_l_spoilt : Binds K d_l_spoilt ["_law_spec", "_law_road_here", "_law_cell"] []
  g_l_spoilt : mg "_law_spoilt" = some (.ref f_l_spoilt)
  f_l_room : Addr
  d_l_room : FuncData
  F_l_room : Fun K "_law_room" "_law_room" s_l_room f_l_room d_l_room
  b_l_room : Binds K d_l_room ["_law_spec", "_law_road_here"] []
  g_l_room : mg "_law_room" = some (.ref f_l_room)
  f_l_asked : Addr
  d_l_asked : FuncData
  F_l_asked : Fun K "_law_asked" "_law_asked" s_l_asked f_l_asked d_l_asked
  b_l_asked : Binds K d_l_asked ["_law_which", "_law_machine_here", "_law_road_here", "_law_guard_here"] []
  g_l_asked : mg "_law_asked" = some (.ref f_l_asked)
  f_l_refused : Addr
  d_l_refused : FuncData
  F_l_refused : Fun K "_law_refused" "_law_refused" s_l_refused f_l_refused d_l_refused
  b_l_refused : Binds K d_l_refused ["_law_which", "_law_machine_here", "_law_road_here", "_law_guard_here"] []
  g_l_refused : mg "_law_refused" = some (.ref f_l_refused)
  f_law : Addr
  d_law : FuncData
  F_law : Fun K "law" "law" s_law f_law d_law
  b_law : Binds K d_law ["_law_script"] []
  g_law : mg "law" = some (.ref f_law)
  C_WalkError : Addr
  g_WalkError : mg "WalkError" = some (.ref C_WalkError)
  k_WalkError : PySem.W.keepIn K (.ref C_WalkError) = true
  b_WalkError : PySem.W.subIn K (.ref C_WalkError) (.type "BaseException") = some true
  t_WalkError : PySem.W.typeIn K (.ref C_WalkError) = some (.type "type")
  i_WalkError : PySem.W.isClsIn K C_WalkError = true
  C_NoNumber : Addr
  g_NoNumber : mg "NoNumber" = some (.ref C_NoNumber)
  x_NoNumber : PySem.W.excIn K C_NoNumber [.type "ValueError", .type "Exception", .type "BaseException", .type "object"] "ValueError.__new__" = true
  k_NoNumber : PySem.W.keepIn K (.ref C_NoNumber) = true
  b_NoNumber : PySem.W.subIn K (.ref C_NoNumber) (.type "BaseException") = some true
  t_NoNumber : PySem.W.typeIn K (.ref C_NoNumber) = some (.type "type")
  i_NoNumber : PySem.W.isClsIn K C_NoNumber = true
  C_BadMachine : Addr
  g_BadMachine : mg "BadMachine" = some (.ref C_BadMachine)
  x_BadMachine : PySem.W.excIn K C_BadMachine [.type "ValueError", .type "Exception", .type "BaseException", .type "object"] "ValueError.__new__" = true
  k_BadMachine : PySem.W.keepIn K (.ref C_BadMachine) = true
  b_BadMachine : PySem.W.subIn K (.ref C_BadMachine) (.type "BaseException") = some true
  t_BadMachine : PySem.W.typeIn K (.ref C_BadMachine) = some (.type "type")
  i_BadMachine : PySem.W.isClsIn K C_BadMachine = true
  C_TooMany : Addr
  g_TooMany : mg "TooMany" = some (.ref C_TooMany)
  x_TooMany : PySem.W.excIn K C_TooMany [.type "ValueError", .type "Exception", .type "BaseException", .type "object"] "ValueError.__new__" = true
  k_TooMany : PySem.W.keepIn K (.ref C_TooMany) = true
  b_TooMany : PySem.W.subIn K (.ref C_TooMany) (.type "BaseException") = some true
  t_TooMany : PySem.W.typeIn K (.ref C_TooMany) = some (.type "type")
  i_TooMany : PySem.W.isClsIn K C_TooMany = true
  C_NoRun : Addr
  g_NoRun : mg "NoRun" = some (.ref C_NoRun)
  k_NoRun : PySem.W.keepIn K (.ref C_NoRun) = true
  b_NoRun : PySem.W.subIn K (.ref C_NoRun) (.type "BaseException") = some true
  t_NoRun : PySem.W.typeIn K (.ref C_NoRun) = some (.type "type")
  i_NoRun : PySem.W.isClsIn K C_NoRun = true
  C_NoMark : Addr
  g_NoMark : mg "NoMark" = some (.ref C_NoMark)
  x_NoMark : PySem.W.excIn K C_NoMark [.type "ValueError", .type "Exception", .type "BaseException", .type "object"] "ValueError.__new__" = true
  k_NoMark : PySem.W.keepIn K (.ref C_NoMark) = true
  b_NoMark : PySem.W.subIn K (.ref C_NoMark) (.type "BaseException") = some true
  t_NoMark : PySem.W.typeIn K (.ref C_NoMark) = some (.type "type")
  i_NoMark : PySem.W.isClsIn K C_NoMark = true
  C_NoRoad : Addr
  g_NoRoad : mg "NoRoad" = some (.ref C_NoRoad)
  x_NoRoad : PySem.W.excIn K C_NoRoad [.type "ValueError", .type "Exception", .type "BaseException", .type "object"] "ValueError.__new__" = true
  k_NoRoad : PySem.W.keepIn K (.ref C_NoRoad) = true
  b_NoRoad : PySem.W.subIn K (.ref C_NoRoad) (.type "BaseException") = some true
  t_NoRoad : PySem.W.typeIn K (.ref C_NoRoad) = some (.type "type")
  i_NoRoad : PySem.W.isClsIn K C_NoRoad = true
  t_LETTERS : Tok
  g_LETTERS : mg "LETTERS" = some (.str "abcdefghijklmnopqrstuvwxyz" t_LETTERS)
  t_MOST_DOORS_machines : Tok
  g_MOST_DOORS_machines : mg "MOST_DOORS_machines" = some (.int 200 t_MOST_DOORS_machines)
  t_MOST_DOORS_roads : Tok
  g_MOST_DOORS_roads : mg "MOST_DOORS_roads" = some (.int 200 t_MOST_DOORS_roads)
  t_MOST_ROOMS : Tok
  g_MOST_ROOMS : mg "MOST_ROOMS" = some (.int 64 t_MOST_ROOMS)
  t_MOST_WATCHES : Tok
  g_MOST_WATCHES : mg "MOST_WATCHES" = some (.int 7 t_MOST_WATCHES)
  t_NOUGHT : Tok
  g_NOUGHT : mg "NOUGHT" = some (.int 1 t_NOUGHT)
  m_ValueError : mg "ValueError" = none
  m_abs : mg "abs" = none
  m_all : mg "all" = none
  m_bool : mg "bool" = none
  m_int : mg "int" = none
  m_isinstance : mg "isinstance" = none
  m_len : mg "len" = none
  m_list : mg "list" = none
  m_min : mg "min" = none
  m_range : mg "range" = none
  m_set : mg "set" = none
  m_str : mg "str" = none
  m_tuple : mg "tuple" = none
  e1_NoRoad : PySem.W.findIn K (.ref C_NoRoad) "__getattribute__" = some (some (.builtin "BaseException.__getattribute__"))
  e2_NoRoad : PySem.W.findIn K (.ref C_NoRoad) "__getattr__" = some none
  e4_NoRoad : PySem.W.hasDictIn K C_NoRoad = true
  e5_NoRoad : PySem.W.findIn K (.ref C_NoRoad) "__class__" = some (some (.builtin "object.__class__"))
  e8_NoRoad : PySem.W.mroIn K C_NoRoad (.type "object") = some true
  k_NoRoad_WalkError : PySem.W.kitOne K (.ref C_NoRoad) (.ref C_WalkError) = some true
  k_NoRoad_NoRun : PySem.W.kitOne K (.ref C_NoRoad) (.ref C_NoRun) = some false
  e1_NoMark : PySem.W.findIn K (.ref C_NoMark) "__getattribute__" = some (some (.builtin "BaseException.__getattribute__"))
  e2_NoMark : PySem.W.findIn K (.ref C_NoMark) "__getattr__" = some none
  e4_NoMark : PySem.W.hasDictIn K C_NoMark = true
  e5_NoMark : PySem.W.findIn K (.ref C_NoMark) "__class__" = some (some (.builtin "object.__class__"))
  e8_NoMark : PySem.W.mroIn K C_NoMark (.type "object") = some true
  k_NoMark_WalkError : PySem.W.kitOne K (.ref C_NoMark) (.ref C_WalkError) = some true
  k_NoMark_NoRun : PySem.W.kitOne K (.ref C_NoMark) (.ref C_NoRun) = some false
  s_NoRoad_NoRoad : PySem.W.subIn K (.ref C_NoRoad) (.ref C_NoRoad) = some true
  s_NoMark_NoRoad : PySem.W.subIn K (.ref C_NoMark) (.ref C_NoRoad) = some false
  s_NoMark_NoMark : PySem.W.subIn K (.ref C_NoMark) (.ref C_NoMark) = some true
  e6_ : PySem.W.specialIn K (.builtin "object.__class__") "__get__" = some (some (.builtin "getset_descriptor.__get__"))
  e7_ : PySem.W.takesIn K (.builtin "object.__class__") = some true
  k_NoRoad_NoMark : PySem.W.kitOne K (.ref C_NoRoad) (.ref C_NoMark) = some false
  k_NoMark_NoRoad : PySem.W.kitOne K (.ref C_NoMark) (.ref C_NoRoad) = some false
  k_NoRoad_v : PySem.W.kitOne K (.ref C_NoRoad) (.type "ValueError") = some true
/-! ### several except clauses, each with the same name -/
section
open PySem PySem.Spec PyProof.Rows L2
abbrev Clause := Value × (Addr → Value → Option Addr → TS)
def wNamed (K : PySem.W.Frag) (i : Nat) (Wo : WX) (D : Ends) : List Clause → WX
  | [] => Wo
  | z :: zs => wAs K z.1 i z.2 (wNamed K i Wo D zs) D
inductive NamedCl (X : Cx) (n : Str) : List ExceptHandler → List Clause → Prop
  | nil : NamedCl X n [] []
  | cons {y : Str} {c : Value} {ts : Addr → Value → Option Addr → TS} {st : Stmt} {sts : List Stmt} {q1 q2 : Pos} {hs : List ExceptHandler} {zs : List Clause} (nm : Names X y c)
      (su : ∀ (a : Addr) (oe : Obj) (cls : Value) (d : Option Addr) (pn : List (Addr × Obj)), Zc cls d oe → (∃ vs, oe.data = .fields vs) → PSs (X.suite a ((a, oe) :: pn)) (st :: sts) (ts a cls d)) (r : NamedCl X n hs zs) : NamedCl X n (.ExceptHandler (some (.Name y q1)) (some n) (st :: sts) q2 :: hs) ((c, ts) :: zs)
variable {X : Cx} {n : Str} {i : Nat} {body : List Stmt} {hd : ExceptHandler} {hds : List ExceptHandler} {zs : List Clause} {pos : Pos} {tb : WX → TS} {Wo : WX}
theorem ps_try_named (e1 : X.stack = X.env :: X.outer) (e2 : X.env.frame = some X.env.locals) (e3 : X.N.Nodup) (e4 : X.N[i]? = some n) (e5 : X.env.kindOf n = some .local) (tk : Takes X Wo)
    (bo : ∀ (W : WX) (pn : List (Addr × Obj)) (xe : Value → Shared → Prop), Takes (X.tr pn xe) W → PassesOwn (model X.prog X.w) X.A X.env xe → PSs (X.tr pn xe) body (tb W)) (cl : NamedCl X n (hd :: hds) zs) :
    PS X (.Try body (hd :: hds) [] [] pos) (fun D σ H => tb (wNamed X.K i Wo D zs) D σ H) := by
  refine ⟨fun pins s σ H D inv wish => ?_⟩
  have okay := inv.ok
  have frm : X.A.frames = some (X.env :: X.outer) := by rw [okay.frames, e1]
  have lcl : Loc X.env.scope n := .inl e5
  refine wpAny_Try_except (wpAny_mono ((bo (wNamed X.K i Wo D zs) (X.pn ++ pins) (fun ex t1 => wpAny (model X.prog X.w) X.A (noteFrame ex X.env) (fun _ t2 => wpAny (model X.prog X.w) X.A (setFlight ex none) (fun _ t3 => wpAny (model X.prog X.w) X.A (handleBy ex X.env (hd :: hds)) (SP X pins D) X.xe t3) X.xe t2) X.xe t1) (fun u t hx => ?_) PassesOwn.looking).run [] s σ H D (inv.toTry _) wish) (fun fl t hsp => ?_) fun _ _ hx => hx)
  · obtain ⟨a, B, tI, pins', σ', H', cls, d, rfl, inv1, nb, up, sky, na, os, ag, w⟩ := hx
    have inv2 : Inv X pins σ' H' tI := inv1.ofTry okay
    have sky2 : Sky B (X.env :: X.outer) a (Zc cls d) X.env.locals t.heap := by rw [← e1]; exact sky
    show wpAny (model X.prog X.w) X.A (noteFrame (.ref a) X.env) _ _ t
    refine Sky.land Zc.steady frm e2 sky2 fun g3 land3 up3 => ?_
    have inv3 : Inv X pins σ' H' { t with heap := g3 } := inv2.landed nb land3.1 (up.trans up3) os ag
    obtain ⟨ob, vals, got, hz3, dat⟩ := land3.there
    have away : a ∉ frs (X.env :: X.outer) := fun mem => by
      obtain ⟨_, ob', got', nf⟩ := land3.2.2.1.mem mem
      rw [got] at got'; cases got'
      exact nf _ dat
    have awayL : a ≠ X.env.locals := fun z => away (List.mem_filterMap.mpr ⟨X.env, List.mem_cons_self, by rw [e2, z]⟩)
    have awayF : a ∉ X.fs := fun mem => by
      obtain ⟨ev, he, q⟩ := List.mem_filterMap.mp mem
      exact away (List.mem_filterMap.mpr ⟨ev, List.mem_cons_of_mem _ he, q⟩)
    have invS := inv3.suite got dat na awayL awayF
    have run : ∀ {hs' : List ExceptHandler} {zs' : List Clause}, NamedCl X n hs' zs' → wNamed X.K i Wo D zs' cls d σ' H' → wpAny (model X.prog X.w) X.A (handleBy (.ref a) X.env hs') (SP X pins D) X.xe { t with heap := g3 } := by
      intro hs' zs' k
      induction k with
      | nil =>
        intro w
        have fin : wpAny (model X.prog X.w) X.A (setFlight (.ref a) X.env.frame) (fun _ t4 => wpAny (model X.prog X.w) X.A (throw (.ref a) : Sem Flow) (SP X pins D) X.xe t4) X.xe { t with heap := g3 } := by
          rw [e2]
          exact HandSPX.setFlight_upZ land3 fun g4 k4 up4 => wpAny_throw (tk _ _ ⟨a, B, tI, pins, σ', H', cls, d, rfl, inv2, nb, (up.trans up3).trans up4, .inr (.inr (by rw [e1]; exact k4)), na, os, ag, w⟩)
        obtain ⟨_, _, _, o4, v4, T4, oT4, tt4, f1, f2, f3, f4, f5⟩ := id land3
        refine wpAny_handleBy_nil ?_
        unfold PySem.passOn
        refine wpAny_bind (wpAny_field f1 f3 f4 ?_)
        rw [if_neg (by simp : ¬ ((Value.ref T4 == Value.none) = true))]
        first
          | exact wpAny_bind fin
          | exact wpAny_bind (wpAny_pure (wpAny_bind fin))
      | @cons y c ts st sts q1 q2 hs2 zs2 nm su r ih =>
        rintro ⟨b, hb, yes, no⟩
        refine wpAny_handleBy_cons (codeAny_handlers_test ?_) (by intro q; cases q)
        have LK : PySem.W.Looks (model X.prog X.w) g3 (typeOf (.ref a)) cls := fun A1 Q1 E1 s1 k1 q1 => wpAny_typeOf_ref (k1 _ _ got) (by rw [hz3.1]; exact q1)
        have named : ∀ {Q1 : Value → Shared → Prop} {E1 : Value → Shared → Prop}, Q1 c { t with heap := g3 } → wpAny (model X.prog X.w) (X.A.mark (some (.ref a))) (eval (.Name y q1) X.env) Q1 E1 { t with heap := g3 } := fun q => by
          obtain ⟨hg, hdb, hm | ⟨hm, hv, hnn⟩⟩ := nm
          · exact ld_glob (X := X.suite a ((a, ob) :: (X.pn ++ pins))) invS hg hm q hdb
          · exact ld_blt (X := X.suite a ((a, ob) :: (X.pn ++ pins))) invS hg hm hv q hnn hdb
        refine named ((PySem.W.exm_one (M := model X.prog X.w) inv3.kIn LK hb).here ?_)
        cases b with
        | false => exact ih (no rfl)
        | true =>
          refine codeAny_handlers_suite_as (HandSPX.lands_againZ land3 fun g4 land4 up4 => ?_)
          have inv4 : Inv X pins σ' H' { t with heap := g4 } := inv2.landed nb land4.1 ((up.trans up3).trans up4) os ag
          obtain ⟨ob4, vals4, got4, hz4, dat4⟩ := land4.there
          refine store_ok (X := X.suite a ((a, ob4) :: (X.pn ++ pins))) (v := .ref a) (inv4.suite got4 dat4 na awayL awayF) e3 e4 lcl rfl (fun t5 inv5 => ?_) (.inr e5)
          refine wpAny_mono ((su a ob4 cls d (X.pn ++ pins) hz4 ⟨_, dat4⟩).run [] t5 _ H' _ inv5 (yes rfl a na)) (fun fl t6 hsp => ?_) fun _ _ z => z.elim
          have close : ∀ {σ6 : L2.St} {H6 : Hp} {Q : Shared → Prop}, Inv (X.suite a ((a, ob4) :: (X.pn ++ pins))) [] σ6 H6 t6 → (∀ t7, Inv X pins (σ6.set i none) H6 t7 → Q t7) → wpAny (model X.prog X.w) X.A (do bindName X.env n .none; unbindBehindTheSuite X.env n q2) (fun _ t7 => Q t7) X.xe t6 := fun {σ6 H6 Q} inv6 hq => gone_ok (inv6.unsuite okay) e3 e4 e5 hq
          cases fl with
          | ret u => obtain ⟨v6, σ6, H6, inv6, r6, q6⟩ := hsp; exact close inv6 fun t7 inv7 => ⟨_, _, _, inv7, r6, q6⟩
          | _ => obtain ⟨σ6, H6, inv6, q6⟩ := hsp; exact close inv6 fun t7 inv7 => ⟨_, _, inv7, q6⟩
    exact run cl w
  · cases fl with
    | next => obtain ⟨σ', H', inv', q⟩ := hsp; exact wpAny_execs_nil ⟨σ', H', inv'.ofTry okay, q⟩
    | ret u => obtain ⟨v, σ', H', inv', r, q⟩ := hsp; exact ⟨v, σ', H', inv'.ofTry okay, r, q⟩
    | brk => obtain ⟨σ', H', inv', q⟩ := hsp; exact ⟨σ', H', inv'.ofTry okay, q⟩
    | cont => obtain ⟨σ', H', inv', q⟩ := hsp; exact ⟨σ', H', inv'.ofTry okay, q⟩
end
section
open PySem PySem.Spec PyProof.Rows L2
variable {X : Cx} {a : Addr} {cls : Value} {d : Option Addr} {oe : Obj} {pn : List (Addr × Obj)}
/-- isinstance(e, (c1, c2, ..)) of the caught error -/
theorem call_isET (hz : Zc cls d oe) (hf : ∃ vs, oe.data = .fields vs) : CallR (X.suite a ((a, oe) :: pn)) (.builtin "isinstance") (fun xs H Q => ∃ D, cls = .ref D ∧ d = none ∧ ExcC X.K D ∧ ∃ (tp : Addr) (cs : List V) (us : List Value) (b : Bool), xs = [.ref a, .ref tp] ∧ H tp = some (.tup cs) ∧ Paired ClsV cs us ∧ PySem.W.kitAny X.K (.ref D) us = some b ∧ Q (.bl b) H) := by
  rintro pins s σ H xs us Q inv r ⟨D, rfl, rfl, C, tp, cs, ws, b, rfl, hT, k, e, q⟩
  obtain ⟨u1, u2, rfl, r1, r2⟩ := vals2 r
  cases (show u1 = Value.ref a from r1)
  cases (show u2 = Value.ref tp from r2)
  obtain ⟨_, its, rv, o, h1, h2, n, h3⟩ := (show ObjOk _ _ H s.heap tp (.tup cs) from inv.hok tp _ hT)
  cases ClsV.all k rv
  obtain ⟨oc, od, dt, sl⟩ := o
  simp only at h2 h3
  subst h2; subst h3
  obtain ⟨got, _⟩ := inv.pin (a, oe) (List.mem_append.mpr (.inl List.mem_cons_self))
  obtain ⟨vs, hv⟩ := hf
  have J : PySem.W.InstAt s.heap a oe D none := by
    obtain ⟨c1, d1, t1, l1⟩ := oe
    obtain ⟨z1, z2⟩ := hz
    dsimp only at z1 z2 hv
    subst z1; subst z2; subst hv
    exact ⟨got, rfl, rfl, trivial⟩
  exact PySem.W.kia_tup (PySem.W.handS_kitx_exc C.hg C.hk C.hs C.hd C.ha C.hn C.ht C.hm) inv.kIn J h1 e (fun z => nomatch z) fun tk => ⟨.bl b, H, inv.kept (t' := tk) fun _ _ z => z, rfl, q⟩
end
/-! ### len(set(xs)) of a list of texts -/
/-- the set at a holds the first i texts: it has i members just where no two of these are one -/
def SetUp (P : Program) (w : World) (h : Heap) (a : Addr) (xs : List Str) (i : Nat) : Prop :=
  ∃ c, c ≤ i ∧ (c = i ↔ (xs.take i).Nodup) ∧ h.SetOf (PySem.strKind P w) a (fun k => decide (k ∈ xs.take i)) c
section
variable {P : Program} {w : World} {A : Around} {h h' : Heap} {a it : Addr} {xs : List Str} {i n : Nat}
theorem SetUp.keep (U : SetUp P w h a xs i) (k : ∀ o, h.get? a = some o → h'.get? a = some o) : SetUp P w h' a xs i := by
  obtain ⟨c, hc, hd, o, es, ep, t, ho, r⟩ := U
  exact ⟨c, hc, hd, o, es, ep, t, k o ho, r⟩
theorem nodup_snoc {l : List Str} {x : Str} : (l ++ [x]).Nodup ↔ l.Nodup ∧ x ∉ l := by
  rw [List.nodup_append]
  constructor
  · rintro ⟨p, _, q⟩
    exact ⟨p, fun hx => q x hx x (List.mem_singleton.mpr rfl) rfl⟩
  · rintro ⟨p, q⟩
    exact ⟨p, by simp, fun y hy z hz e => q (by rw [← List.mem_singleton.mp hz, ← e]; exact hy)⟩
theorem setUp_add {c : Nat} {x : Str} (hx : xs[i]? = some x) (hc : c ≤ i) (hd : c = i ↔ (xs.take i).Nodup)
    (S : h.SetOf (PySem.strKind P w) a (fun k => decide (k ∈ xs.take i) || decide (k = x)) (if decide (x ∈ xs.take i) = true then c else c + 1)) : SetUp P w h a xs (i + 1) := by
  have e : xs.take (i + 1) = xs.take i ++ [x] := by rw [List.take_add_one, hx]; rfl
  refine ⟨_, ?_, ?_, PyProof.Rows.SetOf_congr S (fun k => by rw [e]; simp) rfl⟩
  · split <;> omega
  · rw [e, nodup_snoc, ← hd]
    by_cases m : x ∈ xs.take i
    · rw [if_pos (decide_eq_true m)]
      exact ⟨fun z => by omega, fun z => absurd m z.2⟩
    · rw [if_neg (by simpa using m)]
      exact ⟨fun z => ⟨by omega, m⟩, fun z => by omega⟩
theorem setUp_loop {R : Result → Shared → Prop} {fp wr : List Addr} {G : Array GenState → Array GenState → Prop} {Pv : Nat → Value → Prop} {St : Nat → Shared → Prop} (W : WalksS P w A.in1 it fp wr G n Pv St) (ha : a ∉ fp)
    (few : n + 1 < scanBound) (hv : ∀ i v, Pv i v → ∃ x t, xs[i]? = some x ∧ v = Value.str x t) (k : Nat) : ∀ (i : Nat) (s : Shared), i + k = n → St i s → SetUp P w s.heap a xs i →
    (∀ z, Moved (a :: wr) G s z → SetUp P w z.heap a xs n → R (.ok (.ret .none)) z) → codeAny (model P w) A (.builtin "set.update.loop" ⟨[.ref a, .ref it], []⟩) R s := by
  have aw : a ∉ wr := fun z => ha (W.sub _ z)
  have up : ∀ b ∈ wr, b ∈ a :: wr := fun b z => List.mem_cons_of_mem _ z
  induction k with
  | zero =>
    intro i s hk st U fin
    obtain rfl : i = n := by omega
    refine codeAny_builtin PyProof.Rows.F.entry_set_update_loop (by rw [Around.under_plainId PyProof.Rows.F.plain_set_update_loop _]; exact wpAny_bind (W.done s _ _ st fun z m => wpAny_pure (fin z (m.mono up) (U.keep fun o e => m.heap a o aw e))))
  | succ k ih =>
    intro i s hk st U fin
    refine codeAny_builtin PyProof.Rows.F.entry_set_update_loop ?_; rw [Around.under_plainId PyProof.Rows.F.plain_set_update_loop _]
    refine wpAny_bind (m := pyNext (.ref it)) (W.item i s _ _ (by omega) st fun v z pv sz m => ?_)
    obtain ⟨x, t, hx, rfl⟩ := hv i v pv
    obtain ⟨c, hc, hd, S⟩ := U.keep fun o e => m.heap a o aw e
    refine wpAny_bind (m := holding [Value.str x t] (setAdd a (.str x t))) (wpAny_holding ?_)
    unfold setAdd
    refine wpAny_holding (wpAny_bind ((PySem.strKind P w).pyHash (k := x) (strKind_is _ _ _ _) ?_))
    refine wpAny_setAddHashed_of (knd := PySem.strKind P w) (s := { z with toks := z.toks + 1 }) (strKind_is _ _ _ _) rfl S (by omega) fun g sb S2 => wpAny_pure ⟨plainId_quiet PyProof.Rows.F.plain_set_update_loop _, ?_⟩
    refine ih (i + 1) _ (by omega) (W.frame _ z _ _ sz (Nat.le_succ _) fun b hb o e => ?_) (setUp_add hx hc hd S2) fun y m2 U2 => fin y (Moved.trans W.gtrans ((m.mono up).then_heap (Nat.le_succ _) fun b o hb e => ?_) m2) U2
    · exact (sb.2 b fun q => ha (q ▸ hb)).trans e
    · exact (sb.2 b fun q => hb (q ▸ List.mem_cons_self)).trans e
end
/-- a set that was just made -/
abbrev rawSet (led : Bool) : Obj := { cls := .type "set", dict := none, data := .set #[] 0 (.fresh 0 0 led) }
section
variable {P : Program} {w : World} {A : Around} {E : Value → Shared → Prop}
theorem setUp_init {s : Shared} {l a : Addr} {items : Array Value} {xs : List Str} {led : Bool} {Q : Value → Shared → Prop} (hh : A.handled = none) (hl : s.heap.IsList l items) (hn : items.size = xs.length) (few : xs.length + 1 < scanBound)
    (hv : ∀ (i : Nat) (v : Value), items[i]? = some v → ∃ (x : Str) (t : Tok), xs[i]? = some x ∧ v = Value.str x t) (ho : s.heap.get? a = some (rawSet led)) (al : a ≠ l)
    (fin : ∀ g tk, SetUp P w g a xs xs.length → (∀ b o, b ≠ a → s.heap.get? b = some o → g.get? b = some o) → Q .none { s with heap := g, toks := tk }) :
    wpAny (model P w) A.in1 (Builtin.«set.__init__» ⟨[.ref a, .ref l], []⟩) (fun r z => ∃ v, r = .done (.ret v) ∧ Q v z) E s := by
  obtain ⟨⟨ocls, odict, odata, oslots⟩, eo, ec, nl, ed⟩ := hl
  simp only at ec ed
  subst ec; subst ed
  have lst : s.heap.IsList l items := ⟨_, eo, rfl, nl, rfl⟩
  have f1 := PySem.F.sub_list_set
  have f2 := PySem.F.sub_list_frozenset
  have f3 : (Value.type "list" == Value.type "dict") = false := by decide
  unfold Builtin.«set.__init__» noKeywords Builtin.Frozenset.updateFrom
  generalize hp : pyIter = PI
  wp_walk
  subst hp
  refine wpAny_pyIter_list lst (wpAny_bind (wpAny_runValue ?_))
  have la : a < s.heap.objs.size := Heap.lt_size ho
  have ll : l < s.heap.objs.size := Heap.lt_size eo
  refine setUp_loop ((Walks.list (by simp [hh]) _ l (Nat.ne_of_lt ll) items).toS) ?_ (n := items.size) (by omega) hv items.size 0 _ (by omega) ⟨⟨_, Heap.get?_push_size _ rfl, rfl, rfl⟩, lst.push _⟩ ?_ fun z m U => ?_
  · intro z
    rcases List.mem_cons.mp z with z | z
    · exact absurd z (Nat.ne_of_lt la)
    · exact al (List.mem_singleton.mp z)
  · exact ⟨0, Nat.le_refl 0, by simp, PyProof.Rows.SetOf_congr ((PyProof.Rows.setObjOf_fresh (knd := PySem.strKind P w) led).setOf (Heap.get?_push_of_some _ ho) (by decide)) (fun k => by simp) rfl⟩
  · obtain ⟨g, gs, dr, tk, os⟩ := z
    obtain rfl : gs = s.gens := m.gens
    obtain rfl : dr = s.drawn := m.drawn
    obtain rfl : os = s.os := m.os
    rw [hn] at U
    refine wpAny_pure (wpAny_pure ⟨.none, rfl, fin g tk U fun b o hb e => m.heap b o (fun z => ?_) (Heap.get?_push_of_some _ e)⟩)
    have := Heap.lt_size e
    rcases List.mem_cons.mp z with z | z
    · exact hb z
    · exact absurd (List.mem_singleton.mp z) (Nat.ne_of_lt this)
end
section
variable {P : Program} {w : World} {A : Around} {E : Value → Shared → Prop}
theorem set_texts {s : Shared} {l : Addr} {items : Array Value} {xs : List Str} {Q : Value → Shared → Prop} (hh : A.handled = none) (hl : s.heap.IsList l items) (hn : items.size = xs.length) (few : xs.length + 1 < scanBound)
    (hv : ∀ (i : Nat) (v : Value), items[i]? = some v → ∃ (x : Str) (t : Tok), xs[i]? = some x ∧ v = Value.str x t)
    (fin : ∀ g tk, SetUp P w g s.heap.objs.size xs xs.length → (∀ b o, s.heap.get? b = some o → g.get? b = some o) → Q (.ref s.heap.objs.size) { s with heap := g, toks := tk }) :
    wpAny (model P w) A (call (.type "set") [.ref l]) Q E s := by
  obtain ⟨cs, tl, f0⟩ := PySem.F.called_set.mro
  have f1 := PySem.F.called_set.made
  have f2 := PySem.F.called_set.sub
  have f3 := PySem.F.called_set.notType
  have f4 := PySem.F.called_set.canCreate
  have f5 := PySem.F.typeCall_set_1 (.ref l)
  refine wpAny_call (codeAny_of_tree (wpAny_pure ⟨Code.quiet_builtin _ (by decide +kernel), codeAny_builtin PySem.F.entry_type_call ?_⟩))
  rw [Around.under_plain (weight_type_call_type "set" [.ref l] []) rfl]
  repeat (any_goals (first | assumption | wp_step))
  refine codeAny_mono (code_set_new_1 (.ref l) (E := E) (Q₁ := fun v z => ∃ led : Bool, v = .ref s.heap.objs.size ∧ z = { s with heap := s.heap.push (rawSet led) }) fun led => ⟨led, rfl, rfl⟩) fun r z hr => ?_
  rcases r with e | f
  · exact hr
  cases f with
  | ret v =>
    obtain ⟨led, rfl, rfl⟩ := hr
    have ho : (s.heap.push (rawSet led)).get? s.heap.objs.size = some (rawSet led) := Heap.get?_push_size _ rfl
    have ty : Shared.TypeIs { s with heap := s.heap.push (rawSet led) } (.ref s.heap.objs.size) "set" := ⟨_, ho, rfl⟩
    have f6 := PySem.F.called_set.init.lookup
    have f7 := PySem.F.called_set.init.bind (.ref s.heap.objs.size)
    repeat (any_goals (first | assumption | wp_step))
    obtain ⟨ol, eo, _⟩ := id hl
    have ll : l < s.heap.objs.size := Heap.lt_size eo
    have body := setUp_init (P := P) (w := w) (A := A.in1) (E := E) (s := { s with heap := s.heap.push (rawSet led) }) (led := led) (Q := fun v z => v = .none ∧ ∃ g tk, z = { s with heap := g, toks := tk } ∧ SetUp P w g s.heap.objs.size xs xs.length ∧ ∀ b o, s.heap.get? b = some o → g.get? b = some o) (by simp [hh]) (hl.push _) hn few hv ho (Nat.ne_of_gt ll)
      fun g tk U k => ⟨rfl, g, tk, rfl, U, fun b o e => k b o (Nat.ne_of_lt (Heap.lt_size e)) (Heap.get?_push_of_some _ e)⟩
    refine codeAny_call_builtin PySem.F.called_set.init.plain PySem.F.entry_set_init (check_set_init_1 ty (wpAny_mono body (fun r z hr => ?_) (fun e z he => he)))
    obtain ⟨v, rfl, rfl, g, tk, rfl, U, k⟩ := hr
    repeat (any_goals (first | assumption | wp_step))
    exact fin g tk U k
  | _ => exact hr.elim
end
def tLenSetN (K : PySem.W.Frag) (ta : TE) : TE := fun σ H Q => ta σ H fun x H1 => ∃ l, ∃ xs : List Str, x = .ref l ∧ SqL K H1 l (xs.map V.str) ∧ xs.length + 1 < scanBound ∧ ∀ c : Nat, c ≤ xs.length → (c = xs.length ↔ xs.Nodup) → Q (.int c) H1
section
variable {X : Cx}
theorem pe_lenSetN {a : Expr} {ta : TE} {p p2 q pos : Pos} (hc : X.calm = true) (hg : Gl X "len") (hm : X.mg "len" = none) (hg2 : Gl X "set") (hm2 : X.mg "set" = none) (ha : PE X a ta)
    (na : starEach [a] X.env = (false, eval a X.env) :: starEach [] X.env := by rfl) : PE X (.Call (.Name "len" p) [.Call (.Name "set" p2) [a] [] q] [] pos) (tLenSetN X.K ta) := by
  refine ⟨fun pins s σ H Q I h => Call_ (ld_blt I hg hm boot_len (PyProof.Rows.callWith_builtin1 (PyProof.Rows.args_cons (Call_ (ld_blt I hg2 hm2 boot_set ?_)) rfl) rfl rfl))⟩
  refine PyProof.Rows.callWith_type1 (PyProof.Rows.args_cons (thn (ha.run pins s σ H _ I h) fun v z ⟨x, H1, J, r, t⟩ => PyProof.Rows.args_nil ?_) na) na rfl
  obtain ⟨l, xs, rfl, hq, few, t⟩ := t
  cases r
  obtain ⟨its, rv, pl, _⟩ := J.list hq
  have hl : its.toArray.size = xs.length := by rw [List.size_toArray, ← rv.length, List.length_map]
  refine set_texts (J.ok.hd hc) pl.isList hl few (fun i v hv => ?_) fun g tk U k => PyProof.Rows.args_nil ?_
  · have hi : i < xs.length := by rw [← hl]; exact (Array.getElem?_eq_some_iff.mp hv).1
    have hx := List.getElem?_eq_getElem hi
    obtain ⟨u, hu, t, rfl⟩ := rv.get (i := i) (x := .str xs[i]) (by rw [List.getElem?_map, hx]; rfl)
    rw [List.getElem?_toArray, hu] at hv
    exact ⟨xs[i], t, hx, (Option.some.inj hv).symm⟩
  · obtain ⟨c, hc, hd, o, es, ep, tb, ho, he, hd2, _, _, _, hf, hs⟩ := U
    rw [List.take_length] at hd
    have J2 : Inv X pins σ H1 { z with heap := g, toks := tk } := J.kept k
    refine call_len_set ho he hd2 hf (by rw [hs]; unfold scanBound at few; omega) ⟨.int c, H1, J2.tok _, ⟨_, by rw [hs]⟩, t c hc hd⟩
end
/-! ### zones: lists of lists of bounds -/
abbrev Mx := Nat → Nat → Option Int
def up2 (M : Mx) (i j : Nat) (v : Option Int) : Mx := fun a b => if a = i ∧ b = j then v else M a b
def zrow (n : Nat) (f : Nat → Option Int) : List V := (List.range n).map fun j => oV (f j)
theorem zrow_len (n : Nat) (f : Nat → Option Int) : (zrow n f).length = n := by simp [zrow]
theorem zrow_get {n j : Nat} (f : Nat → Option Int) (h : j < n) : (zrow n f)[j]? = some (oV (f j)) := by simp [zrow, h]
theorem zrow_set {n i j : Nat} (M : Mx) (v : Option Int) : (zrow n (M i)).set j (oV v) = zrow n (up2 M i j v i) := by
  apply List.ext_getElem?
  intro k
  by_cases hk : k < n
  · rw [zrow_get _ hk, List.getElem?_set]
    by_cases e : j = k
    · subst e; simp [zrow_len, hk, up2]
    · rw [if_neg e, zrow_get _ hk]
      have : ¬ k = j := fun z => e z.symm
      simp [up2, this]
  · rw [List.getElem?_eq_none (by simp [zrow]; omega), List.getElem?_eq_none (by simp [zrow]; omega)]
theorem zrow_other {n i a j : Nat} (M : Mx) (v : Option Int) (h : a ≠ i) : zrow n (up2 M i j v a) = zrow n (M a) := by
  unfold zrow up2
  apply List.map_congr_left
  intro b _
  rw [if_neg (fun z => h z.1)]
/-- the zone M of n places stands at p, its rows at as -/
structure ZAt (H : Hp) (p : Addr) (as : List Addr) (n : Nat) (M : Mx) : Prop where
  top : H p = some (.lst (as.map V.ref))
  len : as.length = n
  row : ∀ (i : Nat) (a : Addr), as[i]? = some a → H a = some (.lst (zrow n (M i)))
  nd : as.Nodup
theorem ZAt.np {H : Hp} {p : Addr} {as : List Addr} {n : Nat} {M : Mx} (z : ZAt H p as n M) : p ∉ as := by
  intro hp
  obtain ⟨i, hi, e⟩ := List.mem_iff_getElem.mp hp
  have r := z.row i p (by rw [List.getElem?_eq_getElem hi, e])
  have t := z.top
  rw [r] at t
  have e2 : zrow n (M i) = as.map V.ref := by
    have := Option.some.inj t
    injection this
  have h0 : (zrow n (M i))[i]? = (as.map V.ref)[i]? := by rw [e2]
  rw [zrow_get _ (by rw [← z.len]; exact hi), List.getElem?_map, List.getElem?_eq_getElem hi] at h0
  have h1 := Option.some.inj h0
  cases hM : M i i with
  | none => rw [hM] at h1; cases h1
  | some v => rw [hM] at h1; cases h1
theorem ZAt.get {H : Hp} {p : Addr} {as : List Addr} {n : Nat} {M : Mx} (z : ZAt H p as n M) {i : Nat} (h : i < n) : ∃ a, as[i]? = some a ∧ (as.map V.ref)[i]? = some (.ref a) ∧ H a = some (.lst (zrow n (M i))) := by
  have hl : i < as.length := by rw [z.len]; exact h
  refine ⟨as[i], List.getElem?_eq_getElem hl, ?_, z.row i _ (List.getElem?_eq_getElem hl)⟩
  rw [List.getElem?_map, List.getElem?_eq_getElem hl]; rfl
theorem ZAt.set {H : Hp} {p a : Addr} {as : List Addr} {n i j : Nat} {M : Mx} (z : ZAt H p as n M) (v : Option Int) (ha : as[i]? = some a) : ZAt (upd H a (.lst ((zrow n (M i)).set j (oV v)))) p as n (up2 M i j v) := by
  refine ⟨?_, z.len, fun i' a' h' => ?_, z.nd⟩
  · rw [upd_ne (fun e => z.np (by rw [e]; exact List.mem_of_getElem? ha))]; exact z.top
  · by_cases e : i' = i
    · subst e
      obtain rfl : a = a' := Option.some.inj (ha.symm.trans h')
      rw [upd_same, zrow_set]
    · have na : a' ≠ a := fun q => e (nd_ix z.nd h' (by rw [q]; exact ha))
      rw [upd_ne na, z.row i' a' h', zrow_other _ _ e]
theorem ZAt.keep {H H' : Hp} {p : Addr} {as : List Addr} {n : Nat} {M : Mx} (z : ZAt H p as n M) (s : Same H H') : ZAt H' p as n M := ⟨s _ _ z.top, z.len, fun i a h => s _ _ (z.row i a h), z.nd⟩
def iter (f : Nat → Mx → Mx) : Nat → Mx → Mx
  | 0, M => M
  | i + 1, M => f i (iter f i M)
def cell1 (k i j : Nat) (M : Mx) : Mx := up2 M i j (narO (M i j) (addO (M i k) (M k j)))
def rowst (n k i : Nat) (M : Mx) : Mx := if M i k = none then M else iter (cell1 k i) n M
def thr (n k : Nat) (M : Mx) : Mx := iter (rowst n k) n M
def diag1 (i : Nat) (M : Mx) : Mx := up2 (up2 M i i (narO (M i i) (some 1))) 0 i (narO (up2 M i i (narO (M i i) (some 1)) 0 i) (some 1))
def nrw (n : Nat) (M : Mx) : Mx := iter (thr n) n (iter diag1 n M)
/-- all bounds of at most s bits -/
def SzM (s : Nat) (M : Mx) : Prop := ∀ i j v, M i j = some v → Sz s v
theorem SzM.mono {s t : Nat} {M : Mx} (h : SzM s M) (l : s ≤ t) : SzM t M := fun i j v e => (h i j v e).mono l
theorem addO_sz {s : Nat} {x y : Option Int} (hx : ∀ v, x = some v → Sz s v) (hy : ∀ v, y = some v → Sz s v) {v : Int} (h : addO x y = some v) : Sz (s + 2) v := by
  cases x with
  | none => cases h
  | some a =>
    cases y with
    | none => cases h
    | some b =>
      have e := Option.some.inj h
      have h1 := hx a rfl
      have h2 := hy b rfl
      have p : (2 : Nat) ^ (s + 2) = 2 ^ s * 4 := by rw [Nat.pow_add]
      have p0 : 0 < (2 : Nat) ^ s := Nat.pow_pos (by decide)
      unfold Sz at *
      rw [p, ← e]
      split <;> omega
theorem narO_sz {s : Nat} {x y : Option Int} (hx : ∀ v, x = some v → Sz s v) (hy : ∀ v, y = some v → Sz s v) {v : Int} (h : narO x y = some v) : Sz s v := by
  cases x with
  | none => exact hy v h
  | some a =>
    cases y with
    | none => exact hx v h
    | some b =>
      have e := Option.some.inj h
      rw [← e]
      split
      · exact hy b rfl
      · exact hx a rfl
theorem up2_sz {s : Nat} {M : Mx} {i j : Nat} {w : Option Int} (h : SzM s M) (hw : ∀ v, w = some v → Sz s v) : SzM s (up2 M i j w) := fun a b v e => by
  unfold up2 at e
  split at e
  · exact hw v e
  · exact h a b v e
theorem cell1_sz {s : Nat} {M : Mx} {k i j : Nat} (h : SzM s M) : SzM (s + 2) (cell1 k i j M) :=
  up2_sz (h.mono (by omega)) fun v e => narO_sz (fun v e => (h i j v e).mono (by omega)) (fun v e => addO_sz (fun v e => h i k v e) (fun v e => h k j v e) e) e
theorem iter_sz {f : Nat → Mx → Mx} {c s : Nat} {M : Mx} (hf : ∀ i s M, SzM s M → SzM (s + c) (f i M)) (h : SzM s M) : ∀ m, SzM (s + c * m) (iter f m M)
  | 0 => h
  | m + 1 => (hf m _ _ (iter_sz hf h m)).mono (by rw [Nat.mul_succ]; omega)
theorem rowst_sz {n k i s : Nat} {M : Mx} (h : SzM s M) : SzM (s + 2 * n) (rowst n k i M) := by
  unfold rowst
  split
  · exact h.mono (by omega)
  · exact iter_sz (fun _ _ _ h => cell1_sz h) h n
theorem thr_sz {n k s : Nat} {M : Mx} (h : SzM s M) : SzM (s + 2 * n * n) (thr n k M) := iter_sz (fun _ _ _ h => rowst_sz h) h n
theorem diag1_sz {i s : Nat} {M : Mx} (hs : 1 ≤ s) (h : SzM s M) : SzM s (diag1 i M) := by
  have one : Sz s 1 := by
    have : (2 : Nat) ^ 1 ≤ 2 ^ s := Nat.pow_le_pow_right (by decide) hs
    unfold Sz; omega
  have a : SzM s (up2 M i i (narO (M i i) (some 1))) := up2_sz h fun v e => narO_sz (fun v e => h i i v e) (fun v e => by cases e; exact one) e
  exact up2_sz a fun v e => narO_sz (fun v e => a 0 i v e) (fun v e => by cases e; exact one) e
theorem diags_sz {s : Nat} {M : Mx} (hs : 1 ≤ s) (h : SzM s M) : ∀ m, SzM s (iter diag1 m M)
  | 0 => h
  | m + 1 => diag1_sz hs (diags_sz hs h m)
theorem half_sz {s : Nat} {a b : Int} (h1 : Sz s a) (h2 : Sz s b) (h : s ≤ 9990) : Sz 10000 (a / 2 + b / 2) := by
  have p : (2 : Nat) ^ (s + 2) = 2 ^ s * 4 := by rw [Nat.pow_add]
  have p0 : 0 < (2 : Nat) ^ s := Nat.pow_pos (by decide)
  have g : Sz (s + 2) (a / 2 + b / 2) := by
    unfold Sz at *
    rw [p]; omega
  exact g.mono (by omega)
theorem set_at {K : PySem.W.Frag} {H : Hp} {r : Addr} {n j : Nat} {f : Nat → Option Int} {x : Option Int} {Q : Hp → Prop} (h : H r = some (.lst (zrow n f))) (hj : j < n) (q : Q (upd H r (.lst ((zrow n f).set j (oV x))))) : rSetL (.ref r) (.int j) (oV x) H Q := by
  refine ⟨r, _, j, j, rfl, rfl, h, ?_, q⟩
  rw [zrow_len]
  unfold ixN
  rw [if_pos (by omega), if_pos (by omega), Int.toNat_natCast]
theorem ix_row {K : PySem.W.Frag} {H : Hp} {r : Addr} {n j : Nat} {f : Nat → Option Int} {Q : VK} (h : H r = some (.lst (zrow n f))) (hj : j < n) (q : Q (oV (f j)) H) : rIxL K (.ref r) (.int j) H Q :=
  ix_l (.of h) (by omega) (by rw [Int.toNat_natCast]; exact zrow_get _ hj) q
theorem ix_top {K : PySem.W.Frag} {H : Hp} {p : Addr} {as : List Addr} {n i : Nat} {M : Mx} {Q : VK} (z : ZAt H p as n M) (hi : i < n) (q : ∀ a, as[i]? = some a → H a = some (.lst (zrow n (M i))) → Q (.ref a) H) : rIxL K (.ref p) (.int i) H Q := by
  obtain ⟨a, h1, h2, h3⟩ := z.get hi
  exact ix_l (.of z.top) (by omega) (by rw [Int.toNat_natCast]; exact h2) (q a h1 h3)
/-- [list(row) for row in zone]: fresh rows -/
theorem lc_copy {K : PySem.W.Frag} {H : Hp} {p : Addr} {as : List Addr} {n : Nat} {M : Mx} {s c : Nat} {σ : L2.St} {Q : VK} (z : ZAt H p as n M) (hn : n ≤ 60) (hσ : σ[s]? = some (some (.ref p))) (hc : c < σ.length)
    (q : ∀ D as' H', Same H H' → ZAt H' D as' n M → H D = none → (∀ a ∈ as', H a = none) → Q (.ref D) H') :
    tLc (iList K (tVar s)) (gName c) tYes (tCB (rListN K) (tCons (tVar c) tNil)) [c] σ H Q := by
  refine ⟨.ref p, hσ, p, rfl, ⟨_, .of z.top⟩, fun D hD => ?_⟩
  refine lc_list (K := K) (a := p) (xs := as.map V.ref) (fun i H' => ∃ as' : List Addr, Same H H' ∧ H' D = some (.lst (as'.map V.ref)) ∧ as'.length = i ∧ as'.Nodup ∧ (∀ a ∈ as', H a = none ∧ a ≠ D) ∧ ∀ (j : Nat) (a : Addr), as'[j]? = some a → H' a = some (.lst (zrow n (M j))))
    ⟨[], upd_keep hD, upd_same, rfl, List.nodup_nil, (fun a h => by cases h), (fun j a h => by cases h)⟩ (fun i H' _ ⟨_, sm, _⟩ => .of (sm _ _ z.top)) ?_ ?_
  · rintro i x H' hi ⟨as', sm, eD, hl, nd, hf, hr⟩
    have hin : i < n := by
      have := (List.getElem?_eq_some_iff.mp hi).1
      rw [List.length_map, z.len] at this; exact this
    obtain ⟨r, er, er2, hr1⟩ := z.get hin
    obtain rfl : x = .ref r := Option.some.inj (hi.symm.trans er2)
    refine ⟨?_, .ref r, ?_, r, _, rfl, .inl (.of (sm _ _ hr1)), fun l H2 s2 fl e2 => ?_⟩
    · show ((σ.set c none).set c (some (.ref r))).set c none = σ.set c none
      rw [List.set_set, List.set_set]
    · show ((σ.set c none).set c (some (.ref r)))[c]? = some (some (.ref r))
      rw [List.getElem?_set_self (by rw [List.length_set]; exact hc)]
    have nD : l ≠ D := fun e => by rw [e, eD] at fl; cases fl
    have nl : l ∉ as' := fun hm => by
      obtain ⟨j, hj, e⟩ := List.mem_iff_getElem.mp hm
      have := hr j l (by rw [List.getElem?_eq_getElem hj, e])
      rw [fl] at this; cases this
    refine ⟨as'.map V.ref, s2 _ _ eD, by rw [List.length_map, hl]; exact small1000 (by omega), as' ++ [l], same_updN hD (sm.trans s2), ?_, by simp [hl], ?_, ?_, ?_⟩
    · rw [upd_same, List.map_append]; rfl
    · rw [List.nodup_append]
      refine ⟨nd, by simp, fun a ha b hb e => ?_⟩
      have : b = l := by simpa using hb
      exact nl (by rw [← this, ← e]; exact ha)
    · intro a ha
      rcases List.mem_append.mp ha with h | h
      · exact hf a h
      · have : a = l := by simpa using h
        subst this
        exact ⟨sm.free fl, nD⟩
    · intro j a hj
      by_cases c1 : j < as'.length
      · rw [List.getElem?_append_left c1] at hj
        rw [upd_ne (hf a (List.mem_of_getElem? hj)).2]
        exact s2 _ _ (hr j a hj)
      · have hlt := (List.getElem?_eq_some_iff.mp hj).1
        rw [List.length_append, List.length_singleton] at hlt
        obtain rfl : j = as'.length := by omega
        rw [List.getElem?_append_right (Nat.le_refl _), Nat.sub_self] at hj
        have : l = a := by simpa using hj
        subst this
        rw [upd_ne nD, hl]
        exact e2
  · rintro H' ⟨as', sm, eD, hl, nd, hf, hr⟩
    rw [List.length_map, z.len] at hl
    exact q D as' H' sm ⟨eD, hl, hr, nd⟩ hD fun a ha => (hf a ha).1
/-- a bound that is there stays -/
def Has (M : Mx) (i j : Nat) : Prop := ∃ d, M i j = some d
theorem has_up2 {M : Mx} {i j a b : Nat} {x : Option Int} (h : Has M a b) : Has (up2 M i j (narO (M i j) x)) a b := by
  unfold Has up2
  by_cases c : a = i ∧ b = j
  · obtain ⟨rfl, rfl⟩ := c
    obtain ⟨d, e⟩ := h
    rw [if_pos ⟨rfl, rfl⟩, e]
    cases x with
    | none => exact ⟨d, rfl⟩
    | some y => exact ⟨_, rfl⟩
  · rw [if_neg c]; exact h
theorem has_new {M : Mx} {i j : Nat} {y : Int} : Has (up2 M i j (narO (M i j) (some y))) i j := by
  unfold Has up2
  rw [if_pos ⟨rfl, rfl⟩]
  cases M i j with
  | none => exact ⟨y, rfl⟩
  | some v => exact ⟨_, rfl⟩
theorem has_iter {f : Nat → Mx → Mx} {a b : Nat} (hf : ∀ i M, Has M a b → Has (f i M) a b) {M : Mx} (h : Has M a b) : ∀ m, Has (iter f m M) a b
  | 0 => h
  | m + 1 => hf m _ (has_iter hf h m)
theorem has_rowst {n k i a b : Nat} {M : Mx} (h : Has M a b) : Has (rowst n k i M) a b := by
  unfold rowst
  split
  · exact h
  · exact has_iter (fun _ _ h => has_up2 h) h n
theorem has_thr {n k a b : Nat} {M : Mx} (h : Has M a b) : Has (thr n k M) a b := has_iter (fun _ _ h => has_rowst h) h n
theorem has_diag {i a b : Nat} {M : Mx} (h : Has M a b) : Has (diag1 i M) a b := has_up2 (has_up2 h)
theorem has_diags {M : Mx} : ∀ m i, i < m → Has (iter diag1 m M) i i
  | m + 1, i, h => by
    by_cases c : i = m
    · subst c; exact has_up2 has_new
    · exact has_diag (has_diags m i (by omega))
theorem has_nrw {n i : Nat} {M : Mx} (h : i < n) : Has (nrw n M) i i := has_iter (fun _ _ h => has_thr h) (has_diags n i h) n
theorem nrw_sz {n s m : Nat} {M : Mx} (hs : 1 ≤ s) (h : SzM s M) : SzM (s + 2 * n * n * m) (iter (thr n) m (iter diag1 n M)) := iter_sz (fun _ _ _ h => thr_sz h) (diags_sz hs h n) m
theorem ZAt.upd_fresh {H0 H : Hp} {a : Addr} {o : HO} {as : List Addr} (s : Same H0 H) (f : ∀ a ∈ as, H0 a = none) (ha : a ∈ as) : Same H0 (upd H a o) := same_updN (f a ha) s
theorem zrow_snoc (j : Nat) (f : Nat → Option Int) (x : Option Int) : zrow j f ++ [oV x] = zrow (j + 1) (fun b => if b = j then x else f b) := by
  unfold zrow
  rw [List.range_succ, List.map_append]
  congr 1
  · apply List.map_congr_left
    intro b hb
    show oV (f b) = oV (if b = j then x else f b)
    rw [if_neg (by have := List.mem_range.mp hb; omega)]
  · simp
theorem zrow_congr {n : Nat} {f g : Nat → Option Int} (h : ∀ j, j < n → f j = g j) : zrow n f = zrow n g := List.map_congr_left fun j hj => by rw [h j (List.mem_range.mp hj)]
/-- a row is put behind the rows so far -/
structure Grow (H0 H : Hp) (l : Addr) (as : List Addr) (i n : Nat) (M : Mx) : Prop where
  top : H l = some (.lst (as.map V.ref))
  len : as.length = i
  nd : as.Nodup
  fr : ∀ a ∈ as, H0 a = none ∧ a ≠ l
  row : ∀ (j : Nat) (a : Addr), as[j]? = some a → H a = some (.lst (zrow n (M j)))
theorem Grow.snoc {H0 H : Hp} {l r : Addr} {as : List Addr} {i n : Nat} {M : Mx} {f : Nat → Option Int} (g : Grow H0 H l as i n M) (hr : H r = some (.lst (zrow n f))) (fr : H0 r = none) (nr : r ∉ as) (nl : r ≠ l) :
    Grow H0 (upd H l (.lst (as.map V.ref ++ [.ref r]))) l (as ++ [r]) (i + 1) n (fun a b => if a = i then f b else M a b) := by
  refine ⟨by rw [upd_same, List.map_append]; rfl, by simp [g.len], ?_, ?_, ?_⟩
  · rw [List.nodup_append]
    refine ⟨g.nd, by simp, fun a ha b hb e => ?_⟩
    have : b = r := by simpa using hb
    exact nr (by rw [← this, ← e]; exact ha)
  · intro a ha
    rcases List.mem_append.mp ha with h | h
    · exact g.fr a h
    · have : a = r := by simpa using h
      rw [this]; exact ⟨fr, nl⟩
  · intro j a hj
    have len := g.len
    by_cases c1 : j < as.length
    · rw [List.getElem?_append_left c1] at hj
      rw [upd_ne (g.fr a (List.mem_of_getElem? hj)).2, g.row j a hj]
      have : ¬ j = i := by omega
      simp [this]
    · have hlt := (List.getElem?_eq_some_iff.mp hj).1
      rw [List.length_append, List.length_singleton] at hlt
      obtain rfl : j = as.length := by omega
      rw [List.getElem?_append_right (Nat.le_refl _), Nat.sub_self] at hj
      have : r = a := by simpa using hj
      subst this
      rw [upd_ne nl, hr, len]
      simp
theorem Grow.keep {H0 H H' : Hp} {l : Addr} {as : List Addr} {i n : Nat} {M : Mx} (g : Grow H0 H l as i n M) (s : ∀ b o, H b = some o → (b = l ∨ b ∈ as) → H' b = some o) : Grow H0 H' l as i n M :=
  ⟨s _ _ g.top (.inl rfl), g.len, g.nd, g.fr, fun j a h => s _ _ (g.row j a h) (.inr (List.mem_of_getElem? h))⟩
theorem Grow.done {H0 H : Hp} {l : Addr} {as : List Addr} {n : Nat} {M : Mx} (g : Grow H0 H l as n n M) : ZAt H l as n M := ⟨g.top, g.len, g.row, g.nd⟩
def natV (xs : List Nat) : List V := xs.map fun x : Nat => V.int (x : Int)
theorem natV_len (xs : List Nat) : (natV xs).length = xs.length := by simp [natV]
theorem natV_get {xs : List Nat} {i : Nat} (h : i < xs.length) : (natV xs)[i]? = some (.int (xs[i] : Nat)) := by simp [natV, h]
theorem perm_erase {α : Type} : ∀ {l : List α} {k : Nat} (h : k < l.length), List.Perm (l[k] :: l.eraseIdx k) l
  | x :: l, 0, _ => .refl _
  | x :: l, k + 1, h => (List.Perm.swap x _ _).trans (.cons x (perm_erase (l := l) (k := k) (by simpa using h)))
theorem erase_map {α β : Type} (f : α → β) : ∀ (l : List α) (k : Nat), (l.map f).eraseIdx k = (l.eraseIdx k).map f
  | [], _ => rfl
  | _ :: _, 0 => rfl
  | x :: l, k + 1 => by show f x :: (l.map f).eraseIdx k = f x :: (l.eraseIdx k).map f; rw [erase_map f l k]
def oD : Option Int → PyData
  | none => .none
  | some i => .int i
theorem dp_oV {K : PySem.W.Frag} {H : Hp} : ∀ x : Option Int, Dp K H (oV x) (oD x)
  | none => .non
  | some i => .int i
def rdata (n : Nat) (f : Nat → Option Int) : PyData := .list ((List.range n).map fun j => oD (f j))
def zdata (n : Nat) (M : Mx) : PyData := .list ((List.range n).map fun i => rdata n (M i))
theorem dp_row {K : PySem.W.Frag} {H : Hp} {r : Addr} {n : Nat} {f : Nat → Option Int} (h : H r = some (.lst (zrow n f))) : Dp K H (.ref r) (rdata n f) := by
  refine .lst (.of h) (dpall_of (by simp [zrow]) fun k v d h1 h2 => ?_)
  have hk : k < n := by
    have := (List.getElem?_eq_some_iff.mp h1).1
    rwa [zrow_len] at this
  rw [zrow_get _ hk] at h1
  rw [List.getElem?_map, List.getElem?_range hk] at h2
  cases h1; cases h2
  exact dp_oV _
theorem ZAt.dp {K : PySem.W.Frag} {H : Hp} {p : Addr} {as : List Addr} {n : Nat} {M : Mx} (z : ZAt H p as n M) : Dp K H (.ref p) (zdata n M) := by
  refine .lst (.of z.top) (dpall_of (by simp [z.len]) fun k v d h1 h2 => ?_)
  have hk : k < n := by
    have := (List.getElem?_eq_some_iff.mp h1).1
    rwa [List.length_map, z.len] at this
  obtain ⟨a, _, e2, e3⟩ := z.get hk
  rw [e2] at h1
  rw [List.getElem?_map, List.getElem?_range hk] at h2
  cases h1; cases h2
  exact dp_row e3
theorem lay_list {ds : List PyData} {k : Nat} (h : ∀ d ∈ ds, d.canLay0 = true ∧ d.depth ≤ k) : (PyData.list ds).canLay0 = true ∧ (PyData.list ds).depth ≤ k + 1 := by
  have key : ∀ ds : List PyData, (∀ d ∈ ds, d.canLay0 = true ∧ d.depth ≤ k) → PyData.canLayAll0 ds = true ∧ PyData.depthAll ds ≤ k := by
    intro ds
    induction ds with
    | nil => intro _; exact ⟨rfl, Nat.zero_le _⟩
    | cons d ds ih =>
      intro h
      have h1 := h d (List.mem_cons_self ..)
      have h2 := ih fun x hx => h x (List.mem_cons_of_mem _ hx)
      refine ⟨by show (d.canLay0 && PyData.canLayAll0 ds) = true; rw [h1.1, h2.1]; rfl, ?_⟩
      show max d.depth (PyData.depthAll ds) ≤ k
      omega
  have z := key ds h
  exact ⟨z.1, by show PyData.depthAll ds + 1 ≤ k + 1; omega⟩
theorem lay_oD (x : Option Int) : (oD x).canLay0 = true ∧ (oD x).depth ≤ 0 := by cases x <;> exact ⟨rfl, Nat.le_refl _⟩
theorem lay_row (n : Nat) (f : Nat → Option Int) : (rdata n f).canLay0 = true ∧ (rdata n f).depth ≤ 1 := lay_list fun d h => by
  obtain ⟨j, _, rfl⟩ := List.mem_map.mp h
  exact lay_oD _
theorem lay_zone (n : Nat) (M : Mx) : (zdata n M).canLay0 = true ∧ (zdata n M).depth ≤ 2 := lay_list fun d h => by
  obtain ⟨j, _, rfl⟩ := List.mem_map.mp h
  exact lay_row _ _
theorem shaped_zone (n : Nat) (M : Mx) : SeqAt.shaped (zdata n M) = true := Bool.and_eq_true_iff.mpr ⟨(lay_zone n M).1, decide_eq_true (by have := (lay_zone n M).2; omega)⟩
theorem cube_le {n : Nat} (h : n ≤ 8) : 2 * n * n * n ≤ 1024 := Nat.mul_le_mul (Nat.mul_le_mul (Nat.mul_le_mul_left 2 h) h) h
/-! ### the narrowest form, as mathematics -/
/-- the first bound is no wider than the second -/
def leO : Option Int → Option Int → Prop
  | _, none => True
  | none, some _ => False
  | some a, some b => a ≤ b
theorem leO_refl : ∀ x, leO x x
  | none => trivial
  | some a => Int.le_refl a
theorem leO_trans : ∀ {x y z}, leO x y → leO y z → leO x z
  | _, _, none, _, _ => by cases ‹Option Int› <;> trivial
  | some a, some b, some c, h, k => Int.le_trans h k
  | none, some b, some c, h, _ => h.elim
  | _, none, some c, _, k => k.elim
theorem narO_le1 : ∀ x y, leO (narO x y) x
  | none, _ => by cases ‹Option Int› <;> trivial
  | some a, none => Int.le_refl a
  | some a, some b => by show (if b < a then b else a) ≤ a; split <;> omega
theorem narO_le2 : ∀ x y, leO (narO x y) y
  | none, y => leO_refl y
  | some a, none => trivial
  | some a, some b => by show (if b < a then b else a) ≤ b; split <;> omega
theorem le_narO : ∀ {x y z}, leO z x → leO z y → leO z (narO x y)
  | none, _, _, _, k => k
  | some a, none, _, h, _ => h
  | some a, some b, none, h, _ => h.elim
  | some a, some b, some c, h, k => by show c ≤ (if b < a then b else a); split <;> assumption
theorem leO_anti : ∀ {x y}, leO x y → leO y x → x = y
  | none, none, _, _ => rfl
  | some a, none, _, k => k.elim
  | none, some b, h, _ => h.elim
  | some a, some b, h, k => by rw [Int.le_antisymm h k]
theorem narO_of_le {x y : Option Int} (h : leO x y) : narO x y = x := leO_anti (narO_le1 x y) (le_narO (leO_refl x) h)
theorem addO_none (x : Option Int) : addO x none = none := by cases x <;> rfl
theorem none_addO (x : Option Int) : addO none x = none := rfl
theorem addO_comm : ∀ x y, addO x y = addO y x
  | none, y => by rw [addO_none]; rfl
  | some a, none => rfl
  | some a, some b => by show some _ = some _; rw [Int.add_comm (a / 2)]; congr 2; simp only [and_comm]
theorem addO_mono : ∀ {x x' y y'}, leO x x' → leO y y' → leO (addO x y) (addO x' y')
  | x, none, y, y', _, _ => by rw [none_addO]; cases addO x y <;> trivial
  | x, some b, y, none, _, _ => by cases addO x y <;> trivial
  | none, some b, _, some d, h, _ => h.elim
  | some a, some b, none, some d, _, k => k.elim
  | some a, some b, some c, some d, h, k => by
    have h : a ≤ b := h
    have k : c ≤ d := k
    show 2 * (a / 2 + c / 2) + (if a % 2 = 1 ∧ c % 2 = 1 then 1 else 0) ≤ 2 * (b / 2 + d / 2) + (if b % 2 = 1 ∧ d % 2 = 1 then 1 else 0)
    split <;> split <;> omega
theorem addO_assoc : ∀ x y z, addO (addO x y) z = addO x (addO y z)
  | none, y, z => rfl
  | some a, none, z => rfl
  | some a, some b, none => by rw [addO_none, addO_none]; rfl
  | some a, some b, some c => by
    show some _ = some _
    congr 1
    generalize hx : (2 * (a / 2 + b / 2) + if a % 2 = 1 ∧ b % 2 = 1 then 1 else 0) = x
    generalize hy : (2 * (b / 2 + c / 2) + if b % 2 = 1 ∧ c % 2 = 1 then 1 else 0) = y
    have x1 : x / 2 = a / 2 + b / 2 := by rw [← hx]; split <;> omega
    have x2 : x % 2 = 1 ↔ (a % 2 = 1 ∧ b % 2 = 1) := by rw [← hx]; split <;> (constructor <;> intro h) <;> omega
    have y1 : y / 2 = b / 2 + c / 2 := by rw [← hy]; split <;> omega
    have y2 : y % 2 = 1 ↔ (b % 2 = 1 ∧ c % 2 = 1) := by rw [← hy]; split <;> (constructor <;> intro h) <;> omega
    simp only [x2, y2, x1, y1, and_assoc]
    omega
theorem addO_one (x : Option Int) : addO x (some 1) = x := by
  cases x with
  | none => rfl
  | some a =>
    show some _ = some _
    congr 1
    split <;> omega
theorem one_addO (x : Option Int) : addO (some 1) x = x := by rw [addO_comm, addO_one]
/-- the diagonal's place is not below at most 0 -/
def Pos (M : Mx) (k : Nat) : Prop := leO (some 1) (M k k)
theorem pos_add {M : Mx} {k : Nat} (h : Pos M k) (x : Option Int) : leO x (addO x (M k k)) := by
  have := addO_mono (leO_refl x) h
  rwa [addO_one] at this
theorem pos_add' {M : Mx} {k : Nat} (h : Pos M k) (x : Option Int) : leO x (addO (M k k) x) := by rw [addO_comm]; exact pos_add h x
def fw (k : Nat) (M : Mx) : Mx := fun a b => narO (M a b) (addO (M a k) (M k b))
theorem fw_col {M : Mx} {k : Nat} (h : Pos M k) (a : Nat) : fw k M a k = M a k := narO_of_le (pos_add h _)
theorem fw_row {M : Mx} {k : Nat} (h : Pos M k) (b : Nat) : fw k M k b = M k b := narO_of_le (pos_add' h _)
theorem inner_eq {M : Mx} {n k m : Nat} (h : Pos M k) {M' : Mx} (e : ∀ a b, M' a b = if a < m ∧ b < n then fw k M a b else M a b) : ∀ l, l ≤ n → ∀ a b, iter (cell1 k m) l M' a b = if a = m ∧ b < l then fw k M m b else M' a b
  | 0, _, a, b => by rw [if_neg (by omega)]; rfl
  | l + 1, hl, a, b => by
    have ih := inner_eq h e l (by omega)
    have hk : ∀ b, M' k b = M k b := fun b => by
      rw [e]; split
      · exact fw_row h b
      · rfl
    have ik : M' m k = M m k := by rw [e, if_neg (by omega)]
    have c1 : iter (cell1 k m) l M' m l = M m l := by rw [ih, if_neg (by omega), e, if_neg (by omega)]
    have c2 : iter (cell1 k m) l M' m k = M m k := by
      rw [ih]; split
      · exact fw_col h m
      · exact ik
    have c3 : iter (cell1 k m) l M' k l = M k l := by
      rw [ih]; split
      · omega
      · exact hk l
    show up2 (iter (cell1 k m) l M') m l (narO (iter (cell1 k m) l M' m l) (addO (iter (cell1 k m) l M' m k) (iter (cell1 k m) l M' k l))) a b = _
    rw [c1, c2, c3]
    unfold up2
    by_cases c : a = m ∧ b = l
    · obtain ⟨rfl, rfl⟩ := c
      rw [if_pos ⟨rfl, rfl⟩, if_pos ⟨rfl, by omega⟩]; rfl
    · rw [if_neg c, ih]
      by_cases d : a = m ∧ b < l
      · rw [if_pos d, if_pos ⟨d.1, by omega⟩]
      · rw [if_neg d, if_neg (by omega)]
theorem rows_eq {M : Mx} {n k : Nat} (h : Pos M k) : ∀ m, ∀ a b, iter (rowst n k) m M a b = if a < m ∧ b < n then fw k M a b else M a b
  | 0, a, b => by rw [if_neg (by omega)]; rfl
  | m + 1, a, b => by
    have ih := rows_eq (n := n) h m
    have ik : iter (rowst n k) m M m k = M m k := by rw [ih, if_neg (by omega)]
    show (if iter (rowst n k) m M m k = none then iter (rowst n k) m M else iter (cell1 k m) n (iter (rowst n k) m M)) a b = _
    rw [ik]
    split
    · rename_i hz
      rw [ih]
      by_cases c : a = m
      · subst c
        rw [if_neg (by omega)]
        split
        · unfold fw; rw [hz, none_addO]; cases M a b <;> rfl
        · rfl
      · by_cases d : a < m ∧ b < n
        · rw [if_pos d, if_pos ⟨by omega, d.2⟩]
        · rw [if_neg d, if_neg (by omega)]
    · rw [inner_eq h ih n (Nat.le_refl _), ih]
      by_cases c : a = m ∧ b < n
      · obtain ⟨rfl, hb⟩ := c
        rw [if_pos ⟨rfl, hb⟩, if_pos ⟨by omega, hb⟩]
      · rw [if_neg c]
        by_cases d : a < m ∧ b < n
        · rw [if_pos d, if_pos ⟨by omega, d.2⟩]
        · rw [if_neg d, if_neg (by omega)]
theorem thr_eq {M : Mx} {n k : Nat} (h : Pos M k) {a b : Nat} (ha : a < n) (hb : b < n) : thr n k M a b = fw k M a b := by
  unfold thr; rw [rows_eq h n, if_pos ⟨ha, hb⟩]
/-- each place's bound only becomes narrower -/
def LeM (N M : Mx) : Prop := ∀ a b, leO (N a b) (M a b)
theorem LeM.refl (M : Mx) : LeM M M := fun _ _ => leO_refl _
theorem LeM.trans {A B C : Mx} (h : LeM A B) (k : LeM B C) : LeM A C := fun a b => leO_trans (h a b) (k a b)
theorem up2_le (M : Mx) (i j : Nat) (x : Option Int) : LeM (up2 M i j (narO (M i j) x)) M := fun a b => by
  unfold up2
  split
  · rename_i h; obtain ⟨rfl, rfl⟩ := h; exact narO_le1 _ _
  · exact leO_refl _
theorem iter_le {f : Nat → Mx → Mx} (hf : ∀ i M, LeM (f i M) M) (M : Mx) : ∀ m, LeM (iter f m M) M
  | 0 => .refl M
  | m + 1 => (hf m _).trans (iter_le hf M m)
theorem rowst_le (n k i : Nat) (M : Mx) : LeM (rowst n k i M) M := by
  unfold rowst
  split
  · exact .refl M
  · exact iter_le (fun j M => up2_le M i j _) M n
theorem thr_le (n k : Nat) (M : Mx) : LeM (thr n k M) M := iter_le (rowst_le n k) M n
theorem diag1_le (i : Nat) (M : Mx) : LeM (diag1 i M) M := (up2_le _ _ _ _).trans (up2_le _ _ _ _)
theorem nrw_le0 (n : Nat) (M : Mx) : LeM (nrw n M) (iter diag1 n M) := iter_le (thr_le n) _ n
theorem nrw_le (n : Nat) (M : Mx) : LeM (nrw n M) M := (nrw_le0 n M).trans (iter_le diag1_le M n)
theorem iter_le2 {f : Nat → Mx → Mx} (hf : ∀ i M, LeM (f i M) M) (M : Mx) {m : Nat} : ∀ d, LeM (iter f (m + d) M) (iter f m M)
  | 0 => .refl _
  | d + 1 => (hf _ _).trans (iter_le2 hf M d)
/-- through the first K places each bound is as narrow as the way makes it -/
def Tri (n K : Nat) (M : Mx) : Prop := ∀ k, k < K → ∀ i j, i < n → j < n → leO (M i j) (addO (M i k) (M k j))
theorem tri_step {n K : Nat} {M : Mx} (hK : K < n) (t : Tri n K M) (h : Pos M K) : Tri n (K + 1) (thr n K M) := by
  intro k hk i j hi hj
  have hkn : k < n := by omega
  rw [thr_eq h hi hj, thr_eq h hi hkn, thr_eq h hkn hj]
  by_cases c : k = K
  · subst c
    rw [fw_col h, fw_row h]
    exact narO_le2 _ _
  have t := t k (by omega)
  have key : ∀ x y, (leO (M i k) x ∨ leO (addO (M i K) (M K k)) x) → (leO (M k j) y ∨ leO (addO (M k K) (M K j)) y) → leO (fw K M i j) (addO x y) := by
    intro x y hx hy
    rcases hx with hx | hx <;> rcases hy with hy | hy
    · exact leO_trans (narO_le1 _ _) (leO_trans (t i j hi hj) (addO_mono hx hy))
    · refine leO_trans (narO_le2 _ _) (leO_trans ?_ (addO_mono hx hy))
      rw [← addO_assoc]
      exact addO_mono (t i K hi hK) (leO_refl _)
    · refine leO_trans (narO_le2 _ _) (leO_trans ?_ (addO_mono hx hy))
      rw [addO_assoc]
      exact addO_mono (leO_refl _) (t K j hK hj)
    · refine leO_trans (narO_le2 _ _) (leO_trans ?_ (addO_mono hx hy))
      rw [addO_assoc, ← addO_assoc (M K k)]
      have g : leO (some 1) (addO (M K k) (M k K)) := leO_trans h (t K K hK hK)
      have := addO_mono (leO_refl (M i K)) (addO_mono g (leO_refl (M K j)))
      rwa [one_addO] at this
  have nar_or : ∀ x y, leO x (narO x y) ∨ leO y (narO x y) := by
    intro x y
    cases x with
    | none => exact .inr (leO_refl _)
    | some a =>
      cases y with
      | none => exact .inl (leO_refl _)
      | some b =>
        show a ≤ (if b < a then b else a) ∨ b ≤ (if b < a then b else a)
        split
        · exact .inr (Int.le_refl _)
        · exact .inl (Int.le_refl _)
  exact key _ _ (nar_or _ _) (nar_or _ _)
theorem nrw_tri {n : Nat} {M : Mx} (h : ∀ i, i < n → Pos (nrw n M) i) : Tri n n (nrw n M) := by
  have key : ∀ K, K ≤ n → Tri n K (iter (thr n) K (iter diag1 n M)) := by
    intro K
    induction K with
    | zero => intro _ k hk; omega
    | succ K ih =>
      intro hK
      refine tri_step (by omega) (ih (by omega)) ?_
      have l : LeM (nrw n M) (iter (thr n) K (iter diag1 n M)) := by
        have := iter_le2 (thr_le n) (iter diag1 n M) (m := K) (n - K)
        rw [show K + (n - K) = n by omega] at this
        exact this
      exact leO_trans (h K (by omega)) (l K K)
  exact key n (Nat.le_refl _)
/-- a way's bound -/
def pathO (M : Mx) : Nat → List Nat → Option Int
  | _, [] => some 1
  | a, b :: l => addO (M a b) (pathO M b l)
def lastOf : Nat → List Nat → Nat
  | a, [] => a
  | _, b :: l => lastOf b l
theorem path_le {n : Nat} {N : Mx} (t : Tri n n N) : ∀ (l : List Nat) (a c : Nat), a < n → c < n → (∀ x ∈ l, x < n) → leO (N c (lastOf a l)) (addO (N c a) (pathO N a l))
  | [], a, c, ha, hc, _ => by show leO (N c a) (addO (N c a) (some 1)); rw [addO_one]; exact leO_refl _
  | b :: l, a, c, ha, hc, h => by
    have hb : b < n := h b (List.mem_cons_self ..)
    have ih := path_le t l b c hb hc fun x hx => h x (List.mem_cons_of_mem _ hx)
    show leO (N c (lastOf b l)) (addO (N c a) (addO (N a b) (pathO N b l)))
    rw [← addO_assoc]
    exact leO_trans ih (addO_mono (t a ha c b hc hb) (leO_refl _))
theorem path_mono {N M : Mx} (h : LeM N M) : ∀ (l : List Nat) (a : Nat), leO (pathO N a l) (pathO M a l)
  | [], _ => leO_refl _
  | b :: l, a => addO_mono (h a b) (path_mono h l b)
/-- a ring that comes to below at most 0 leaves no zone -/
theorem ring_empty {n a : Nat} {M : Mx} {l : List Nat} (ha : a < n) (hl : ∀ x ∈ l, x < n) {s : Int} (hs : addO (M (lastOf a l) a) (pathO M a l) = some s) (h1 : s < 1) : ¬ ∀ i, i < n → Pos (nrw n M) i := by
  intro h
  have t := nrw_tri h
  have hz : lastOf a l < n := by
    have : ∀ (l : List Nat) (a : Nat), a < n → (∀ x ∈ l, x < n) → lastOf a l < n := by
      intro l
      induction l with
      | nil => intro a ha _; exact ha
      | cons b l ih => intro a _ h; exact ih b (h b (List.mem_cons_self ..)) fun x hx => h x (List.mem_cons_of_mem _ hx)
    exact this l a ha hl
  have p := path_le t l a (lastOf a l) ha hz hl
  have q := addO_mono (nrw_le n M (lastOf a l) a) (path_mono (nrw_le n M) l a)
  rw [hs] at q
  have r := leO_trans (h _ hz) (leO_trans p q)
  have r : (1 : Int) ≤ s := r
  omega
theorem diags_row0 {M : Mx} : ∀ m i, i < m → leO (iter diag1 m M 0 i) (some 1)
  | m + 1, i, h => by
    by_cases c : i = m
    · subst c
      show leO (up2 _ 0 i (narO _ (some 1)) 0 i) (some 1)
      unfold up2
      rw [if_pos ⟨rfl, rfl⟩]
      exact narO_le2 _ _
    · exact leO_trans (diag1_le m _ 0 i) (diags_row0 m i (by omega))
/-- a watch below 0 leaves no zone -/
theorem below_empty {n i : Nat} {M : Mx} (hi : i < n) {s : Int} (hs : M i 0 = some s) (h1 : s < 1) : ¬ ∀ i, i < n → Pos (nrw n M) i := by
  intro h
  have t := nrw_tri h 0 (by omega) i i hi hi
  have a : leO (nrw n M i 0) (some s) := by have := nrw_le n M i 0; rwa [hs] at this
  have b : leO (nrw n M 0 i) (some 1) := leO_trans (nrw_le0 n M 0 i) (diags_row0 n i hi)
  have c := addO_mono a b
  rw [addO_one] at c
  have r := leO_trans (h _ hi) (leO_trans t c)
  have r : (1 : Int) ≤ s := r
  omega
theorem lastOf_snoc : ∀ (l : List Nat) (a c : Nat), lastOf a (l ++ [c]) = c
  | [], _, _ => rfl
  | b :: l, _, c => lastOf_snoc l b c
theorem path_snoc (M : Mx) : ∀ (l : List Nat) (a c : Nat), pathO M a (l ++ [c]) = addO (pathO M a l) (M (lastOf a l) c)
  | [], a, c => by show addO (M a c) (some 1) = addO (some 1) (M a c); rw [addO_one, one_addO]
  | b :: l, a, c => by
    show addO (M a b) (pathO M b (l ++ [c])) = addO (addO (M a b) (pathO M b l)) (M (lastOf b l) c)
    rw [path_snoc M l b c, addO_assoc]
theorem path_up2 {M : Mx} {y c : Nat} {v : Option Int} : ∀ (l : List Nat) (a : Nat), y ∉ (a :: l).dropLast → pathO (up2 M y c v) a l = pathO M a l
  | [], _, _ => rfl
  | b :: l, a, h => by
    have h : y ∉ a :: (b :: l).dropLast := h
    have h1 : a ≠ y := fun e => h (by rw [e]; exact List.mem_cons_self ..)
    show addO (up2 M y c v a b) (pathO (up2 M y c v) b l) = _
    rw [path_up2 l b (fun z => h (List.mem_cons_of_mem _ z))]
    unfold up2
    rw [if_neg (fun z => h1 z.1)]
    rfl
theorem lastOf_mem : ∀ (l : List Nat) (a : Nat), lastOf a l ∈ a :: l
  | [], a => List.mem_cons_self ..
  | b :: l, a => List.mem_cons_of_mem _ (lastOf_mem l b)
theorem lastOf_get : ∀ (l : List Nat) (a k x : Nat), (a :: l)[k]? = some x → lastOf a (l.take k) = x
  | l, a, 0, x, h => by rw [List.take_zero]; exact Option.some.inj h
  | [], a, k + 1, x, h => by cases h
  | b :: l, a, k + 1, x, h => lastOf_get l b k x h
theorem nodup_last {l : List Nat} {a : Nat} (nd : (a :: l).Nodup) : lastOf a l ∉ (a :: l).dropLast := by
  induction l generalizing a with
  | nil => simp [lastOf]
  | cons b l ih =>
    have nd2 := (List.nodup_cons.mp nd)
    show lastOf b l ∉ a :: (b :: l).dropLast
    intro h
    rcases List.mem_cons.mp h with e | h
    · exact nd2.1 (by rw [← e]; exact lastOf_mem l b)
    · exact ih nd2.2 h
theorem get_last : ∀ (l : List Nat) (a : Nat), (a :: l)[l.length]? = some (lastOf a l)
  | [], _ => rfl
  | b :: l, _ => get_last l b
theorem natV_last (l : List Nat) (a : Nat) : atI (natV (a :: l)) (-1) = some (.int (lastOf a l : Nat)) := by
  unfold atI
  have e : ixN (natV (a :: l)).length (-1) = some l.length := by
    rw [natV_len]
    unfold ixN
    rw [if_neg (by omega), if_pos (by rw [List.length_cons]; omega)]
    congr 1
    rw [List.length_cons]; omega
  rw [e]
  show (natV (a :: l))[l.length]? = _
  unfold natV
  rw [List.getElem?_map, get_last]; rfl
theorem not_pos {n : Nat} {M : Mx} (h : ¬ ∀ i, i < n → Pos (nrw n M) i) : ∃ i d, i < n ∧ nrw n M i i = some d ∧ d < 1 := by
  apply Classical.byContradiction
  intro c
  apply h
  intro i hi
  obtain ⟨d, e⟩ := has_nrw (M := M) hi
  show leO (some 1) (nrw n M i i)
  rw [e]
  apply Classical.byContradiction
  intro c2
  have c2 : ¬ (1 : Int) ≤ d := c2
  exact c ⟨i, d, hi, e, by omega⟩
theorem diags_diag {M : Mx} : ∀ m i, i < m → leO (iter diag1 m M i i) (some 1)
  | m + 1, i, h => by
    by_cases c : i = m
    · subst c
      have h1 : leO (up2 (iter diag1 i M) i i (narO (iter diag1 i M i i) (some 1)) i i) (some 1) := by
        unfold up2
        rw [if_pos ⟨rfl, rfl⟩]
        exact narO_le2 _ _
      exact leO_trans (up2_le _ _ _ _ i i) h1
    · exact leO_trans (diag1_le m _ i i) (diags_diag m i (by omega))
theorem nrw_diag {n i : Nat} {M : Mx} (hi : i < n) (h : Pos (nrw n M) i) : nrw n M i i = some 1 := leO_anti (leO_trans (nrw_le0 n M i i) (diags_diag n i hi)) h
theorem nrw_row0 {n i : Nat} {M : Mx} (hi : i < n) : leO (nrw n M 0 i) (some 1) := leO_trans (nrw_le0 n M 0 i) (diags_row0 n i hi)
theorem up2_id (M : Mx) (i j : Nat) : up2 M i j (M i j) = M := by
  funext a b
  unfold up2
  split
  · rename_i h; rw [h.1, h.2]
  · rfl
theorem iter_id {f : Nat → Mx → Mx} {M : Mx} : ∀ m, (∀ i, i < m → f i M = M) → iter f m M = M
  | 0, _ => rfl
  | m + 1, h => by
    show f m (iter f m M) = M
    rw [iter_id m fun i hi => h i (by omega)]
    exact h m (by omega)
/-- a narrow zone is its own narrowest form -/
theorem nrw_idem {n : Nat} {N : Mx} (h1 : ∀ i, i < n → N i i = some 1) (h0 : ∀ i, i < n → leO (N 0 i) (some 1)) (t : Tri n n N) : nrw n N = N := by
  have d : iter diag1 n N = N := iter_id n fun i hi => by
    unfold diag1
    have e : narO (N i i) (some 1) = N i i := by rw [h1 i hi]; rfl
    rw [e, up2_id, narO_of_le (h0 i hi), up2_id]
  unfold nrw
  rw [d]
  refine iter_id n fun k hk => ?_
  funext a b
  have p : Pos N k := by show leO (some 1) (N k k); rw [h1 k hk]; exact leO_refl _
  unfold thr
  rw [rows_eq p n]
  split
  · rename_i c
    exact narO_of_le (t k hk a b c.1 c.2)
  · rfl
/-! ### values: lists of fractions -/
/-- the values xs stand at p -/
def VAt (H : Hp) (p : Addr) (xs : List (Int × Int)) : Prop := ∃ qs : List Addr, H p = some (.lst (qs.map V.ref)) ∧ qs.length = xs.length ∧ ∀ (i : Nat) (q : Addr) (x : Int × Int), qs[i]? = some q → xs[i]? = some x → H q = some (.tup [.int x.1, .int x.2])
theorem VAt.keep {H H' : Hp} {p : Addr} {xs : List (Int × Int)} (v : VAt H p xs) (s : Same H H') : VAt H' p xs := by
  obtain ⟨qs, a, b, c⟩ := v
  exact ⟨qs, s _ _ a, b, fun i q x h1 h2 => s _ _ (c i q x h1 h2)⟩
theorem VAt.get {H : Hp} {p : Addr} {xs : List (Int × Int)} {K : PySem.W.Frag} {Q : VK} (v : VAt H p xs) {i : Nat} {x : Int × Int} (h : xs[i]? = some x) (q : ∀ a, H a = some (.tup [.int x.1, .int x.2]) → Q (.ref a) H) : rIxL K (.ref p) (.int i) H Q := by
  obtain ⟨qs, e1, e2, e3⟩ := v
  have hi : i < qs.length := by rw [e2]; exact (List.getElem?_eq_some_iff.mp h).1
  have hq := List.getElem?_eq_getElem hi
  exact ix_l (v := .ref qs[i]) (.of e1) (by omega) (by rw [Int.toNat_natCast, List.getElem?_map, hq]; rfl) (q _ (e3 i _ x hq h))
/-- good values: from 0 on, bottoms from 1 on, small -/
def GoodV (s : Nat) (xs : List (Int × Int)) : Prop := ∀ x ∈ xs, 0 ≤ x.1 ∧ 0 < x.2 ∧ Sz s x.1 ∧ Sz s x.2
def dif (a b : Int × Int) : Int × Int := (a.1 * b.2 - b.1 * a.2, a.2 * b.2)
/-- whether a fraction is let by hangs on what it stands for alone -/
theorem letsO_ratio {b : Option Int} {t u t' u' : Int} (hu : 0 < u) (hu' : 0 < u') (e : t * u' = t' * u) : letsO b t u = letsO b t' u' := by
  cases b with
  | none => rfl
  | some b =>
    show decide _ = decide _
    refine decide_eq_decide.mpr ?_
    have key : ∀ t u t' u' : Int, 0 < u → 0 < u' → t * u' = t' * u → (t < b / 2 * u → t' < b / 2 * u') ∧ (t = b / 2 * u → t' = b / 2 * u') := by
      intro t u t' u' hu hu' e
      refine ⟨fun h => ?_, fun h => ?_⟩
      · have h1 := Int.mul_lt_mul_of_pos_right h hu'
        rw [e, Int.mul_right_comm] at h1
        exact Int.lt_of_mul_lt_mul_right h1 (by omega)
      · rw [h] at e
        rw [Int.mul_right_comm] at e
        exact (Int.eq_of_mul_eq_mul_right (by omega) e).symm
    have k1 := key t u t' u' hu hu' e
    have k2 := key t' u' t u hu' hu e.symm
    constructor
    · rintro (h | h)
      · exact .inl (k1.1 h)
      · exact .inr ⟨k1.2 h.1, h.2⟩
    · rintro (h | h)
      · exact .inl (k2.1 h)
      · exact .inr ⟨k2.2 h.1, h.2⟩
theorem lets_iff {b t u : Int} : letsO (some b) t u = true ↔ (t < b / 2 * u ∨ (t = b / 2 * u ∧ b % 2 = 1)) := decide_eq_true_iff
/-- a narrower bound lets less by -/
theorem lets_mono {x y : Option Int} {t u : Int} (hu : 0 < u) (h : leO x y) (k : letsO x t u = true) : letsO y t u = true := by
  cases y with
  | none => rfl
  | some b =>
    cases x with
    | none => exact h.elim
    | some a =>
      have h : a ≤ b := h
      rw [lets_iff] at k ⊢
      by_cases c : a / 2 = b / 2
      · rw [← c]
        rcases k with k | k
        · exact .inl k
        · exact .inr ⟨k.1, by omega⟩
      · have l : a / 2 + 1 ≤ b / 2 := by omega
        have m := Int.mul_le_mul_of_nonneg_right l (Int.le_of_lt hu)
        rw [Int.add_mul, Int.one_mul] at m
        rcases k with k | k <;> (left; omega)
/-- sums are let by the sum -/
theorem lets_add {x y : Option Int} {t u t' u' : Int} (hu : 0 < u) (hu' : 0 < u') (h : letsO x t u = true) (k : letsO y t' u' = true) : letsO (addO x y) (t * u' + t' * u) (u * u') = true := by
  cases x with
  | none => rfl
  | some a =>
    cases y with
    | none => rfl
    | some b =>
      rw [lets_iff] at h k
      show letsO (some _) _ _ = true
      rw [lets_iff]
      obtain ⟨c, hc⟩ : ∃ c, (2 * (a / 2 + b / 2) + if a % 2 = 1 ∧ b % 2 = 1 then 1 else 0) = c := ⟨_, rfl⟩
      rw [hc]
      have c1 : c / 2 = a / 2 + b / 2 := by rw [← hc]; split <;> omega
      have c2 : a % 2 = 1 → b % 2 = 1 → c % 2 = 1 := by intro h1 h2; rw [← hc, if_pos ⟨h1, h2⟩]; omega
      rw [c1]
      have e : (a / 2 + b / 2) * (u * u') = a / 2 * u * u' + b / 2 * u' * u := by rw [Int.add_mul]; congr 1 <;> ac_rfl
      rw [e]
      rcases h with h | h <;> rcases k with k | k
      · have h1 := Int.mul_lt_mul_of_pos_right h hu'
        have k1 := Int.mul_lt_mul_of_pos_right k hu
        left; omega
      · have h1 := Int.mul_lt_mul_of_pos_right h hu'
        rw [k.1]
        left; omega
      · have k1 := Int.mul_lt_mul_of_pos_right k hu
        rw [h.1]
        left; omega
      · right
        exact ⟨by rw [h.1, k.1], c2 h.2 k.2⟩
/-- the values v (a fraction for each place) lie in M -/
def Lies (n : Nat) (M : Mx) (v : Nat → Int × Int) : Prop := ∀ i j, i < n → j < n → letsO (M i j) (dif (v i) (v j)).1 (dif (v i) (v j)).2 = true
structure Vals0 (n : Nat) (v : Nat → Int × Int) : Prop where
  zero : v 0 = (0, 1)
  pos : ∀ i, i < n → 0 < (v i).2
  nn : ∀ i, i < n → 0 ≤ (v i).1
theorem dif_pos {a b : Int × Int} (ha : 0 < a.2) (hb : 0 < b.2) : 0 < (dif a b).2 := Int.mul_pos ha hb
theorem lies_cell {n k i j : Nat} {M : Mx} {v : Nat → Int × Int} (h0 : Vals0 n v) (hk : k < n) (hi : i < n) (hj : j < n) (h : Lies n M v) : Lies n (cell1 k i j M) v := by
  intro a b ha hb
  unfold cell1 up2
  split
  · rename_i c
    obtain ⟨rfl, rfl⟩ := c
    have p1 := h0.pos a ha
    have p2 := h0.pos b hb
    have p3 := h0.pos k hk
    have s : letsO (addO (M a k) (M k b)) (dif (v a) (v b)).1 (dif (v a) (v b)).2 = true := by
      have := lets_add (dif_pos p1 p3) (dif_pos p3 p2) (h a k ha hk) (h k b hk hb)
      rw [letsO_ratio (dif_pos p1 p2) (Int.mul_pos (dif_pos p1 p3) (dif_pos p3 p2)) (t' := (dif (v a) (v k)).1 * (dif (v k) (v b)).2 + (dif (v k) (v b)).1 * (dif (v a) (v k)).2)]
      · exact this
      · generalize v a = x at *
        generalize v b = y at *
        generalize v k = z at *
        obtain ⟨x1, x2⟩ := x
        obtain ⟨y1, y2⟩ := y
        obtain ⟨z1, z2⟩ := z
        simp only [dif]
        grind
    have h1 := h a b ha hb
    cases hM : M a b with
    | none => exact s
    | some d =>
      cases hA : addO (M a k) (M k b) with
      | none => rw [hM] at h1; exact h1
      | some e =>
        rw [hM] at h1
        rw [hA] at s
        show letsO (some (if e < d then e else d)) _ _ = true
        split
        · exact s
        · exact h1
  · exact h a b ha hb
theorem lies_iter {n : Nat} {v : Nat → Int × Int} {f : Nat → Mx → Mx} {M : Mx} : ∀ m, (∀ i M, i < m → Lies n M v → Lies n (f i M) v) → Lies n M v → Lies n (iter f m M) v
  | 0, _, h => h
  | m + 1, hf, h => hf m _ (by omega) (lies_iter m (fun i M hi => hf i M (by omega)) h)
theorem lies_thr {n k : Nat} {M : Mx} {v : Nat → Int × Int} (h0 : Vals0 n v) (hk : k < n) (h : Lies n M v) : Lies n (thr n k M) v :=
  lies_iter n (fun i M hi h => by
    unfold rowst
    split
    · exact h
    · exact lies_iter n (fun j M hj h => lies_cell h0 hk hi hj h) h) h
theorem lies_up {n i j : Nat} {M : Mx} {v : Nat → Int × Int} (h : Lies n M v) (h1 : i < n → j < n → letsO (some 1) (dif (v i) (v j)).1 (dif (v i) (v j)).2 = true) : Lies n (up2 M i j (narO (M i j) (some 1))) v := by
  intro a b ha hb
  unfold up2
  split
  · rename_i c
    obtain ⟨rfl, rfl⟩ := c
    have h2 := h a b ha hb
    cases hM : M a b with
    | none => exact h1 ha hb
    | some d =>
      rw [hM] at h2
      show letsO (some (if 1 < d then 1 else d)) _ _ = true
      split
      · exact h1 ha hb
      · exact h2
  · exact h a b ha hb
theorem lies_diag {n i : Nat} {M : Mx} {v : Nat → Int × Int} (h0 : Vals0 n v) (hi : i < n) (h : Lies n M v) : Lies n (diag1 i M) v := by
  refine lies_up (lies_up h fun _ _ => ?_) fun hz _ => ?_
  · rw [lets_iff]
    right
    simp only [dif]
    exact ⟨by rw [show (1 : Int) / 2 = 0 from rfl]; omega, by decide⟩
  · rw [lets_iff]
    simp only [dif, h0.zero]
    have p := h0.nn i hi
    have : (1 : Int) / 2 = 0 := rfl
    rw [this]
    omega
theorem lies_nrw {n : Nat} {M : Mx} {v : Nat → Int × Int} (h0 : Vals0 n v) (h : Lies n M v) : Lies n (nrw n M) v :=
  lies_iter n (fun k M hk h => lies_thr h0 hk h) (lies_iter n (fun i M hi h => lies_diag h0 hi h) h)
theorem lies_of_le {n : Nat} {N M : Mx} {v : Nat → Int × Int} (h0 : Vals0 n v) (l : LeM N M) (h : Lies n N v) : Lies n M v := fun i j hi hj => lets_mono (dif_pos (h0.pos i hi) (h0.pos j hj)) (l i j) (h i j hi hj)
theorem nrw_lies {n : Nat} {M : Mx} {v : Nat → Int × Int} (h0 : Vals0 n v) : Lies n (nrw n M) v ↔ Lies n M v := ⟨lies_of_le h0 (nrw_le n M), lies_nrw h0⟩
/-- where values lie, the diagonal isn't below at most 0 -/
theorem lies_pos {n i : Nat} {M : Mx} {v : Nat → Int × Int} (h0 : Vals0 n v) (hi : i < n) (h : Lies n M v) : Pos M i := by
  have h1 := h i i hi hi
  cases hM : M i i with
  | none => show leO (some 1) (M i i); rw [hM]; trivial
  | some d =>
    show leO (some 1) (M i i)
    rw [hM] at h1 ⊢
    rw [lets_iff] at h1
    show 1 ≤ d
    have e : (dif (v i) (v i)).1 = 0 := by simp only [dif]; omega
    have p := dif_pos (h0.pos i hi) (h0.pos i hi)
    rw [e] at h1
    generalize (dif (v i) (v i)).2 = D at *
    rcases Int.lt_or_le (d / 2) 0 with c | c
    · have := Int.mul_neg_of_neg_of_pos c p
      rcases h1 with h1 | h1 <;> omega
    · rcases Int.lt_or_le 0 (d / 2) with c2 | c2
      · omega
      · have z : d / 2 = 0 := by omega
        rw [z, Int.zero_mul] at h1
        rcases h1 with h1 | h1 <;> omega
/-- the places: nought, then the values -/
def plc (xs : List (Int × Int)) : Nat → Int × Int := fun i => ((0, 1) :: xs).getD i (0, 1)
theorem plc_get {xs : List (Int × Int)} {i : Nat} (h : i < xs.length + 1) : ((0, 1) :: xs)[i]? = some (plc xs i) := by
  have h2 : i < ((0, 1) :: xs).length := h
  show _ = some (((0, 1) :: xs).getD i (0, 1))
  rw [List.getD_eq_getElem?_getD, List.getElem?_eq_getElem h2]; rfl
theorem plc_good {s : Nat} {xs : List (Int × Int)} (g : GoodV s xs) (hs : 1 ≤ s) (i : Nat) : 0 ≤ (plc xs i).1 ∧ 0 < (plc xs i).2 ∧ Sz s (plc xs i).1 ∧ Sz s (plc xs i).2 := by
  have one : Sz s 1 := by
    have : (2 : Nat) ^ 1 ≤ 2 ^ s := Nat.pow_le_pow_right (by decide) hs
    unfold Sz; omega
  have base : (0 : Int) ≤ ((0, 1) : Int × Int).1 ∧ 0 < ((0, 1) : Int × Int).2 ∧ Sz s ((0, 1) : Int × Int).1 ∧ Sz s ((0, 1) : Int × Int).2 := ⟨by decide, by decide, by unfold Sz; exact Nat.pow_pos (by decide), one⟩
  unfold plc
  cases h : ((0, 1) :: xs)[i]? with
  | none => rw [List.getD_eq_getElem?_getD, h]; exact base
  | some x =>
    rw [List.getD_eq_getElem?_getD, h]
    rcases List.mem_cons.mp (List.mem_of_getElem? h) with e | m
    · rw [e]; exact base
    · exact g x m
theorem plc_vals {s : Nat} {xs : List (Int × Int)} (g : GoodV s xs) (hs : 1 ≤ s) (n : Nat) : Vals0 n (plc xs) := ⟨rfl, fun i _ => (plc_good g hs i).2.1, fun i _ => (plc_good g hs i).1⟩
/-- at most the number from above, and more -/
theorem ceil_ok {t u k : Int} (hu : 0 < u) (hk : 0 ≤ k) : letsO (some (2 * (0 - (0 - t).fdiv u + k) + 1)) t u = true := by
  rw [lets_iff]
  rw [Int.fdiv_eq_ediv_of_nonneg _ (by omega)]
  have e : (2 * (0 - (0 - t) / u + k) + 1) / 2 = 0 - (0 - t) / u + k := by omega
  have e2 : (2 * (0 - (0 - t) / u + k) + 1) % 2 = 1 := by omega
  rw [e, e2]
  have h1 := Int.ediv_mul_le (0 - t) (b := u) (by omega)
  have h2 : 0 ≤ k * u := Int.mul_nonneg hk (by omega)
  rw [Int.add_mul, Int.sub_mul, Int.zero_mul]
  generalize (0 - t) / u * u = A at *
  omega
/-- below the number above, and more -/
theorem floor_ok {t u k : Int} (hu : 0 < u) (hk : 0 ≤ k) : letsO (some (2 * (t.fdiv u + 1 + k))) t u = true := by
  rw [lets_iff]
  rw [Int.fdiv_eq_ediv_of_nonneg _ (by omega)]
  have e : (2 * (t / u + 1 + k)) / 2 = t / u + 1 + k := by omega
  rw [e]
  have h1 := Int.lt_ediv_add_one_mul_self t hu
  have h2 : 0 ≤ k * u := Int.mul_nonneg hk (by omega)
  rw [Int.add_mul]
  generalize (t / u + 1) * u = A at *
  omega
theorem fdiv_sz {s : Nat} {t u : Int} (hu : 0 < u) (h : Sz s t) : Sz (s + 1) (t.fdiv u) := by
  rw [Int.fdiv_eq_ediv_of_nonneg _ (by omega)]
  have p : (2 : Nat) ^ (s + 1) = 2 ^ s * 2 := Nat.pow_succ ..
  unfold Sz at *
  rw [p]
  rcases Int.lt_or_le t 0 with c | c
  · have h1 : t ≤ t / u := by
      have := Int.ediv_le_ediv (c := u) (by omega) (Int.le_refl t)
      rcases Int.lt_or_le (t / u) t with z | z
      · have z1 : t / u + 1 ≤ t := by omega
        have z2 := Int.mul_le_mul_of_nonneg_right z1 (Int.le_of_lt hu)
        have z3 := Int.lt_ediv_add_one_mul_self t hu
        have z4 : t * u ≤ t * 1 := Int.mul_le_mul_of_nonpos_left (by omega) (by omega)
        omega
      · exact z
    have h2 : t / u < 0 := Int.ediv_neg_of_neg_of_pos c hu
    omega
  · have h1 := Int.ediv_nonneg c (Int.le_of_lt hu)
    have h2 := Int.ediv_le_self (a := t) u c
    omega
theorem half1 {b : Int} (h : Sz 9000 b) : Sz 10000 (b / 2) := Sz.le (j := b) (by omega) (h.mono (by omega))
theorem VAt.upd_ne {H : Hp} {o l : Addr} {xs : List (Int × Int)} {items items' : List V} (v : VAt H o xs) (hl : H l = some (.lst items)) (n : o ≠ l) : VAt (upd H l (.lst items')) o xs := by
  obtain ⟨qs, a, b, c⟩ := v
  refine ⟨qs, by rw [L2.upd_ne n]; exact a, b, fun i q x h1 h2 => ?_⟩
  have h3 := c i q x h1 h2
  rw [L2.upd_ne (ne_of h3 hl (by intro z; cases z))]
  exact h3
theorem VAt.set {H : Hp} {o q : Addr} {xs : List (Int × Int)} {i : Nat} {x : Int × Int} (v : VAt H o xs) (hq : H q = some (.tup [.int x.1, .int x.2])) : ∃ items, H o = some (.lst items) ∧ items.length = xs.length ∧ VAt (upd H o (.lst (items.set i (.ref q)))) o (xs.set i x) := by
  obtain ⟨qs, a, b, c⟩ := v
  refine ⟨_, a, by rw [List.length_map]; exact b, qs.set i q, by rw [upd_same, List.map_set], by simp [b], fun k q' x' h1 h2 => ?_⟩
  have nq : ∀ r y, H r = some (.tup y) → (upd H o (.lst ((qs.map V.ref).set i (.ref q)))) r = some (.tup y) := fun r y h => by
    rw [L2.upd_ne (ne_of h a (by intro z; cases z))]; exact h
  rw [List.getElem?_set] at h1 h2
  by_cases e : i = k
  · rw [if_pos e] at h1 h2
    split at h1
    · split at h2
      · cases h1; cases h2; exact nq _ _ hq
      · cases h2
    · cases h1
  · rw [if_neg e] at h1 h2
    exact nq _ _ (c k q' x' h1 h2)
theorem GoodV.set {s : Nat} {xs : List (Int × Int)} {i : Nat} {x : Int × Int} (g : GoodV s xs) (h : 0 ≤ x.1 ∧ 0 < x.2 ∧ Sz s x.1 ∧ Sz s x.2) : GoodV s (xs.set i x) := fun y hy => by
  rcases List.mem_or_eq_of_mem_set hy with h1 | h1
  · exact g y h1
  · rw [h1]; exact h
/-- all are in lowest terms -/
def RedV (xs : List (Int × Int)) : Prop := ∀ x ∈ xs, Int.gcd x.1 x.2 = 1
theorem RedV.set {xs : List (Int × Int)} {i : Nat} {x : Int × Int} (g : RedV xs) (h : Int.gcd x.1 x.2 = 1) : RedV (xs.set i x) := fun y hy => by
  rcases List.mem_or_eq_of_mem_set hy with h1 | h1
  · exact g y h1
  · rw [h1]; exact h
theorem GoodV.mono {s t : Nat} {xs : List (Int × Int)} (g : GoodV s xs) (h : s ≤ t) : GoodV t xs := fun x hx => ⟨(g x hx).1, (g x hx).2.1, (g x hx).2.2.1.mono h, (g x hx).2.2.2.mono h⟩
/-- list(values) -/
theorem list_vals {K : PySem.W.Frag} {H : Hp} {o : Addr} {xs : List (Int × Int)} {Q : VK} (v : VAt H o xs) (q : ∀ l H2, Same H H2 → H l = none → VAt H2 l xs → Q (.ref l) H2) : rListN K [.ref o] H Q := by
  obtain ⟨qs, a, b, c⟩ := v
  exact ⟨o, _, rfl, .inl (.of a), fun l H2 s f e => q l H2 s f ⟨qs, e, b, fun i q x h1 h2 => s _ _ (c i q x h1 h2)⟩⟩
/-! ### rows made anew -/
theorem zrow_rep (k : Nat) (x : Option Int) : (List.replicate k [oV x]).flatten = zrow k (fun _ => x) := by
  rw [List.flatten_replicate_singleton]
  unfold zrow
  rw [List.map_const', List.length_range]
theorem zrow_app (a b : Nat) (f : Nat → Option Int) : zrow a f ++ zrow b (fun j => f (a + j)) = zrow (a + b) f := by
  unfold zrow
  rw [List.range_add, List.map_append, List.map_map]
  rfl
theorem Grow.to {H0 H : Hp} {l : Addr} {as : List Addr} {i n : Nat} {M N : Mx} (g : Grow H0 H l as i n M) (h : ∀ a b, a < i → b < n → M a b = N a b) : Grow H0 H l as i n N :=
  ⟨g.top, g.len, g.nd, g.fr, fun j a hj => by
    have hl := (List.getElem?_eq_some_iff.mp hj).1
    have := g.len
    rw [g.row j a hj, zrow_congr fun b hb => h j b (by omega) hb]⟩
/-- [row for k in range(n)]: fresh rows -/
theorem lc_rowsR {H : Hp} {n c : Nat} {σ : L2.St} {M : Mx} {ta : TA} {te : TE} {Q : VK} (hn : n ≤ 60) (hc : c < σ.length)
    (ha : ∀ Q1 : List V → Hp → Prop, Q1 [.int n] H → ta σ H Q1)
    (ht : ∀ i H1 (Q1 : VK), i < n → (∀ r H2, Same H1 H2 → H1 r = none → H2 r = some (.lst (zrow n (M i))) → Q1 (.ref r) H2) → te ((σ.set c none).set c (some (.int (0 + (i : Int))))) H1 Q1)
    (q : ∀ D as' H', Same H H' → ZAt H' D as' n M → H D = none → (∀ a ∈ as', H a = none) → Q (.ref D) H') :
    tLc (iRng1 ta) (gName c) tYes te [c] σ H Q := by
  refine ha _ ⟨(n : Int), rfl, (rg_ok (by omega)).1, (rg_ok (by omega)).2, fun D hD => ?_⟩
  refine lc_range (lo := 0) (n := n) (fun i H' => ∃ as' : List Addr, Same H H' ∧ H' D = some (.lst (as'.map V.ref)) ∧ as'.length = i ∧ as'.Nodup ∧ (∀ a ∈ as', H a = none ∧ a ≠ D) ∧ ∀ (j : Nat) (a : Addr), as'[j]? = some a → H' a = some (.lst (zrow n (M j))))
    ⟨[], upd_keep hD, upd_same, rfl, List.nodup_nil, (fun a h => by cases h), (fun j a h => by cases h)⟩ ?_ ?_
  · rintro i H' hi ⟨as', sm, eD, hl, nd, hf, hr⟩
    refine ⟨?_, ?_⟩
    · show ((σ.set c none).set c (some (.int (0 + (i : Int))))).set c none = σ.set c none
      rw [List.set_set, List.set_set]
    refine ht i H' _ hi fun l H2 s2 fl e2 => ?_
    have nD : l ≠ D := fun e => by rw [e, eD] at fl; cases fl
    have nl : l ∉ as' := fun hm => by
      obtain ⟨j, hj, e⟩ := List.mem_iff_getElem.mp hm
      have := hr j l (by rw [List.getElem?_eq_getElem hj, e])
      rw [fl] at this; cases this
    refine ⟨as'.map V.ref, s2 _ _ eD, by rw [List.length_map, hl]; exact small1000 (by omega), as' ++ [l], same_updN hD (sm.trans s2), ?_, by simp [hl], ?_, ?_, ?_⟩
    · rw [upd_same, List.map_append]; rfl
    · rw [List.nodup_append]
      refine ⟨nd, by simp, fun a ha b hb e => ?_⟩
      have : b = l := by simpa using hb
      exact nl (by rw [← this, ← e]; exact ha)
    · intro a ha
      rcases List.mem_append.mp ha with h | h
      · exact hf a h
      · have : a = l := by simpa using h
        subst this
        exact ⟨sm.free fl, nD⟩
    · intro j a hj
      by_cases c1 : j < as'.length
      · rw [List.getElem?_append_left c1] at hj
        rw [upd_ne (hf a (List.mem_of_getElem? hj)).2]
        exact s2 _ _ (hr j a hj)
      · have hlt := (List.getElem?_eq_some_iff.mp hj).1
        rw [List.length_append, List.length_singleton] at hlt
        obtain rfl : j = as'.length := by omega
        rw [List.getElem?_append_right (Nat.le_refl _), Nat.sub_self] at hj
        have : l = a := by simpa using hj
        subst this
        rw [upd_ne nD, hl]
        exact e2
  · rintro H' ⟨as', sm, eD, hl, nd, hf, hr⟩
    exact q D as' H' sm ⟨eD, hl, hr, nd⟩ hD fun a ha => (hf a ha).1
/-- a for over a range from a place on -/
def ForR2 (lo : Int) (n : Nat) (g : TG) (tb : TS) (D : Ends) (σ : L2.St) (H : Hp) : Prop := ∃ W : Nat → Nat → L2.St → Hp → Prop, (∃ m, W 0 m σ H) ∧ ∀ i m σ H, W i m σ H →
  ((Itr lo n).stop i H ∧ D.nx σ H) ∨ ((Itr lo n).go i H ∧ ∃ N : L2.St → Hp → Prop, (∀ σ' H', N σ' H' → ∃ m', m' < m ∧ W (i + 1) m' σ' H') ∧ ∀ x H', (Itr lo n).yld i H x H' → g x σ H' fun σ2 H2 => tb { D with nx := N, ct := N, bk := D.nx } σ2 H2)
theorem for_rg2 {ta : TA} {g : TG} {tb : TS} {D : Ends} {σ : L2.St} {H : Hp} (h : ta σ H fun vs H1 => ∃ i j : Int, vs = [.int i, .int j] ∧ (-(2 ^ 62) ≤ i ∧ i < 2 ^ 62 ∧ -(2 ^ 62) ≤ j ∧ j < 2 ^ 62) ∧ ForR2 i (j - i).toNat g tb D σ H1) : tFor (iRng2 ta) g tb D σ H := h
theorem forR2_by {lo : Int} {n : Nat} {g : TG} {tb : TS} {D : Ends} {σ : L2.St} {H : Hp} (Pv : Nat → L2.St → Hp → Prop) (h0 : Pv 0 σ H)
    (hs : ∀ i σ H, i < n → Pv i σ H → g (.int (lo + i)) σ H fun σ2 H2 => tb { D with nx := Pv (i + 1), ct := Pv (i + 1), bk := D.nx } σ2 H2) (hd : ∀ σ H, Pv n σ H → D.nx σ H) : ForR2 lo n g tb D σ H := for_range (lo := lo) (n := n) Pv h0 hs hd
/-- the zone of all stands -/
def evM : Mx := fun i j => if i = 0 ∨ i = j then some 1 else none
def oneM : Mx := fun _ _ => some 1
/-! ### values as data, and the zones of all and of the noughts alone -/
def vdata (xs : List (Int × Int)) : PyData := .list (xs.map fun x => .tuple [.int x.1, .int x.2])
theorem VAt.dp {K : PySem.W.Frag} {H : Hp} {p : Addr} {xs : List (Int × Int)} (v : VAt H p xs) : Dp K H (.ref p) (vdata xs) := by
  obtain ⟨qs, a, b, c⟩ := v
  refine .lst (.of a) (dpall_of (by simp [b]) fun k v d h1 h2 => ?_)
  rw [List.getElem?_map] at h1 h2
  obtain ⟨q, hq, rfl⟩ := Option.map_eq_some_iff.mp h1
  obtain ⟨x, hx, rfl⟩ := Option.map_eq_some_iff.mp h2
  exact .tup (.of (c k q x hq hx)) (.cons (.int _) (.cons (.int _) .nil))
theorem lay_vals (xs : List (Int × Int)) : (vdata xs).canLay0 = true ∧ (vdata xs).depth ≤ 2 := lay_list fun d h => by
  obtain ⟨x, _, rfl⟩ := List.mem_map.mp h
  exact ⟨rfl, Nat.le_refl _⟩
theorem shaped_vals (xs : List (Int × Int)) : SeqAt.shaped (vdata xs) = true := Bool.and_eq_true_iff.mpr ⟨(lay_vals xs).1, decide_eq_true (by have := (lay_vals xs).2; omega)⟩
theorem eqv_vals {xs ys : List (Int × Int)} (h : xs.length = ys.length) : PyData.eqv (vdata xs) (vdata ys) = decide (xs = ys) := by
  have key : ∀ xs ys : List (Int × Int), xs.length = ys.length → PyData.eqvAll (xs.map fun x => .tuple [.int x.1, .int x.2]) (ys.map fun x => .tuple [.int x.1, .int x.2]) = decide (xs = ys) := by
    intro xs
    induction xs with
    | nil =>
      intro ys h
      cases ys with
      | nil => rfl
      | cons y ys => cases h
    | cons x xs ih =>
      intro ys h
      cases ys with
      | nil => cases h
      | cons y ys =>
        obtain ⟨a, b⟩ := x
        obtain ⟨c, d⟩ := y
        have := ih ys (by simpa using h)
        simp only [List.map_cons]
        rw [PyData.eqvAll, this]
        simp [PyData.eqv, PyData.eqvAll, and_assoc]
        rw [Bool.eq_iff_iff]
        simp [and_assoc]
  rw [show PyData.eqv (vdata xs) (vdata ys) = PyData.eqvAll (xs.map fun x => .tuple [.int x.1, .int x.2]) (ys.map fun x => .tuple [.int x.1, .int x.2]) by unfold vdata; rw [PyData.eqv]]
  exact key xs ys h
theorem lies_ev {n : Nat} {v : Nat → Int × Int} (h0 : Vals0 n v) : Lies n evM v := fun i j hi hj => by
  unfold evM
  split
  · rename_i c
    rw [lets_iff]
    rcases c with rfl | rfl
    · simp only [dif, h0.zero]
      have p := h0.nn j hj
      have : (1 : Int) / 2 = 0 := rfl
      rw [this]
      omega
    · right
      simp only [dif]
      exact ⟨by rw [show (1 : Int) / 2 = 0 from rfl]; omega, by decide⟩
  · rfl
theorem lies_one {n : Nat} {v : Nat → Int × Int} (h0 : Vals0 n v) : Lies n oneM v ↔ ∀ i, i < n → (v i).1 = 0 := by
  constructor
  · intro h i hi
    have h1 := h i 0 hi (by omega)
    have h1 : letsO (some 1) _ _ = true := h1
    rw [lets_iff] at h1
    simp only [dif, h0.zero] at h1
    have p := h0.nn i hi
    have : (1 : Int) / 2 = 0 := rfl
    rw [this] at h1
    omega
  · intro h i j hi hj
    show letsO (some 1) _ _ = true
    rw [lets_iff]
    right
    simp only [dif, h i hi, h j hj]
    exact ⟨by rw [show (1 : Int) / 2 = 0 from rfl]; omega, by decide⟩
theorem noughts {s : Nat} {xs : List (Int × Int)} (g : GoodV s xs) (r : RedV xs) : (∀ i, i < xs.length + 1 → (plc xs i).1 = 0) ↔ xs = List.replicate xs.length (0, 1) := by
  constructor
  · intro h
    rw [List.eq_replicate_iff]
    refine ⟨rfl, fun b hb => ?_⟩
    obtain ⟨i, hi, e⟩ := List.mem_iff_getElem.mp hb
    have h1 := h (i + 1) (by omega)
    have h2 := plc_get (xs := xs) (i := i + 1) (by omega)
    rw [List.getElem?_cons_succ, List.getElem?_eq_getElem hi, e] at h2
    have h2 := Option.some.inj h2
    rw [← h2] at h1
    have h3 := r b hb
    have h4 := (g b hb).2.1
    obtain ⟨t, u⟩ := b
    have h1 : t = 0 := h1
    subst h1
    have h3 : Int.gcd 0 u = 1 := h3
    rw [Int.gcd_zero_left] at h3
    have h4 : 0 < u := h4
    rw [show u = 1 by omega]
  · intro h i hi
    have h2 := List.mem_of_getElem? (plc_get (xs := xs) hi)
    rcases List.mem_cons.mp h2 with e | e
    · rw [e]
    · rw [List.eq_of_mem_replicate (h.subst (motive := fun l => plc xs i ∈ l) e)]
theorem lies_noughts {s n : Nat} {xs : List (Int × Int)} (g : GoodV s xs) (hs : 1 ≤ s) (r : RedV xs) (hn : xs.length + 1 = n) : Lies n oneM (plc xs) ↔ xs = List.replicate xs.length (0, 1) := by
  subst hn
  exact (lies_one (plc_vals g hs _)).trans (noughts g r)
/-- a zone and values, in one list -/
def pdata (n : Nat) (M : Mx) (xs : List (Int × Int)) : PyData := .list [zdata n M, vdata xs]
theorem dp_pair {K : PySem.W.Frag} {H : Hp} {p a b : Addr} {n : Nat} {M : Mx} {xs : List (Int × Int)} {as : List Addr} (h : H p = some (.lst [.ref a, .ref b])) (z : ZAt H a as n M) (v : VAt H b xs) : Dp K H (.ref p) (pdata n M xs) := .lst (.of h) (.cons z.dp (.cons v.dp .nil))
theorem lay_pair (n : Nat) (M : Mx) (xs : List (Int × Int)) : (pdata n M xs).canLay0 = true ∧ (pdata n M xs).depth ≤ 3 := lay_list fun d h => by
  rcases List.mem_cons.mp h with h | h
  · rw [h]; exact lay_zone _ _
  · rw [List.mem_singleton.mp h]; exact lay_vals _
theorem shaped_pair (n : Nat) (M : Mx) (xs : List (Int × Int)) : SeqAt.shaped (pdata n M xs) = true := Bool.and_eq_true_iff.mpr ⟨(lay_pair n M xs).1, decide_eq_true (by have := (lay_pair n M xs).2; omega)⟩
/-! ### dicts of values -/
section
variable {X : Cx} {pins : List (Addr × Obj)} {σ : L2.St} {H : Hp} {s : Shared} {a b : Addr} {kvs more : List (Key × V)} {A : Around} {E : Value → Shared → Prop}
theorem d_update {Q : Value → Shared → Prop} (I : Inv X pins σ H s) (e : H a = some (.dK kvs)) (e2 : H b = some (.dK more)) (hab : a ≠ b) (hl : kvs.length + more.length ≤ sizeLine) (h : ∀ s', Inv X pins σ (upd H a (.dK (mergeK kvs more))) s' → Q .none s') :
    wpAny (model X.prog X.w) A (call (.builtin "dict.update") [.ref a, .ref b]) Q E s := by
  obtain ⟨z, hd, vs, rel, dd⟩ := dk_of I.hok e
  obtain ⟨z2, hd2, vs2, rel2, dd2⟩ := dk_of I.hok e2
  refine call_meetsIn PySem.F.slot_dict_update dd.typeIs PySem.F.entry_dict_update (PySem.F.args_dict_update_2 _ _) (meets_dict_update (mixKind X.prog X.w) a b hab hd2) ⟨vs, vs2, dd, dd2, by rw [← rel.length, ← rel2.length]; exact hl, fun h' dd' _ hs => h _ ?_⟩
  have he : ∃ q, h'.get? a = some q := let ⟨q, _, _, hq, _⟩ := dd'; ⟨q, hq⟩
  exact d_write (t' := s.toks) I (by rw [e]; exact True.intro) hs he (dk_new (Nat.le_trans (length_mergeK more kvs) hl) hd (rel2.merge rel) dd')
end
def tDUpd (td ty : TE) : TE := fun σ H Q => td σ H fun x H1 => ∃ a, x = .ref a ∧ IsD H1 a ∧ ty σ H1 fun y H2 => ∃ b kvs more, y = .ref b ∧ a ≠ b ∧ H2 a = some (.dK kvs) ∧ H2 b = some (.dK more) ∧ kvs.length + more.length ≤ sizeLine ∧ Q .non (upd H2 a (.dK (mergeK kvs more)))
theorem pe_dupd {X : Cx} {o e : Expr} {apos cpos : PySem.Pos} {td ty : TE} (ho : PE X o td) (he : PE X e ty) (m : M1 X o "update" apos e cpos) : PE X (.Call (.Attribute o "update" apos) [e] [] cpos) (tDUpd td ty) := by
  refine ⟨fun pins s σ H Q I h => ?_⟩
  refine wpAny_Call_method m.base m.few m.line PySem.F.plainAttrs_dict PySem.F.slot_dict_update PySem.F.type_dict_update (thn (ho.run pins s σ H _ I h) fun u s1 ⟨x, H1, I1, rx, a, ex, d, q1⟩ => ?_)
  subst ex
  obtain rfl : u = Value.ref a := rx
  obtain ⟨t1, t2, _⟩ := isD_at I1 d
  refine ⟨t1, t2, ?_⟩
  rw [m.trees]
  refine Calls.callWith_builtin rfl (Calls.evalArgs_plain (Calls.spliced_cons (thn (he.run pins s1 σ H1 _ I1 q1) fun iv s2 ⟨y, H2, I2, ry, b, kvs, more, ey, hab, ea, eb, hl, q2⟩ => Calls.spliced_nil ?_)))
  subst ey
  obtain rfl : iv = Value.ref b := ry
  exact d_update I2 ea eb hab hl fun s3 I3 => ⟨.non, _, I3, rfl, q2⟩
/-- a for over the pairs of a dict, behind its iterable's reading -/
def ForD (d : Addr) (od : Obj) (kvs : List (Key × V)) (g : TG) (tb : TS) (D : Ends) (σ : L2.St) (H : Hp) : Prop := ∃ W : Nat → Nat → L2.St → Hp → Prop, (∃ m, W 0 m σ H) ∧ ∀ i m σ H, W i m σ H →
  ((Iti d od kvs).stop i H ∧ D.nx σ H) ∨ ((Iti d od kvs).go i H ∧ ∃ N : L2.St → Hp → Prop, (∀ σ' H', N σ' H' → ∃ m', m' < m ∧ W (i + 1) m' σ' H') ∧ ∀ v H', (Iti d od kvs).yld i H v H' → g v σ H' fun σ2 H2 => tb { D with nx := N, ct := N, bk := D.nx } σ2 H2)
theorem forD_by {d : Addr} {od : Obj} {kvs : List (Key × V)} {g : TG} {tb : TS} {D : Ends} {σ : L2.St} {H : Hp} (Pv : Nat → L2.St → Hp → Prop) (h0 : Pv 0 σ H) (hq : ∀ i σ H, Pv i σ H → H d = some (.frz od (.dK kvs)))
    (hs : ∀ (i : Nat) (k : Key) (v : V) (T : Addr) (σ : L2.St) (H : Hp) (H2 : Hp), kvs[i]? = some (k, v) → Pv i σ H → Same H H2 → H2 T = some (.tup [kV k, v]) → g (.ref T) σ H2 fun σ2 H2 => tb { D with nx := Pv (i + 1), ct := Pv (i + 1), bk := D.nx } σ2 H2) (hd : ∀ σ H, Pv kvs.length σ H → D.nx σ H) : ForD d od kvs g tb D σ H := by
  refine ⟨fun i m σ H => m = kvs.length - i ∧ i ≤ kvs.length ∧ Pv i σ H, ⟨kvs.length, rfl, Nat.zero_le _, h0⟩, ?_⟩
  rintro i m σ H ⟨rfl, hi, p⟩
  have q := hq i σ H p
  by_cases hlt : i < kvs.length
  · refine .inr ⟨⟨q, hlt⟩, Pv (i + 1), fun σ' H' p' => ⟨kvs.length - (i + 1), by omega, rfl, hlt, p'⟩, fun v H' y => ?_⟩
    obtain ⟨T, k, v', ek, rfl, hT, rfl⟩ := y
    exact hs i k v' T σ H _ ek p (upd_keep hT) upd_same
  · have e : i = kvs.length := by omega
    subst e
    exact .inl ⟨⟨q, Nat.le_refl _⟩, hd σ H p⟩
/-- for k, v in d.items(), d a variable that holds a dict; the loop only makes new things -/
theorem for_items {i : Nat} {d : Addr} {kvs : List (Key × V)} {g : TG} {tb : TS} {D : Ends} {σ : L2.St} {H : Hp} (hv : σ[i]? = some (some (.ref d))) (hd : H d = some (.dK kvs))
    (h : ∀ od, ForD d od kvs g tb ⟨fun σ' H' => H' d = some (.frz od (.dK kvs)) ∧ D.nx σ' (upd H' d (.dK kvs)), fun v H' => H' d = some (.frz od (.dK kvs)) ∧ D.rt v (upd H' d (.dK kvs)), fun σ' H' => H' d = some (.frz od (.dK kvs)) ∧ D.bk σ' (upd H' d (.dK kvs)), fun σ' H' => H' d = some (.frz od (.dK kvs)) ∧ D.ct σ' (upd H' d (.dK kvs))⟩ σ (upd H d (.frz od (.dK kvs)))) :
    tLock (tFor (iItems (tVar i)) g tb) D σ H :=
  ⟨d, _, hd, True.intro, fun od => ⟨.ref d, hv, d, od, kvs, rfl, upd_same, h od⟩⟩
theorem unlock_same {H H' : Hp} {d : Addr} {od : Obj} {u : HO} (hd : H d = some u) (s : Same (upd H d (.frz od u)) H') : Same H (upd H' d u) := fun b o e => by
  by_cases c : b = d
  · subst c
    rw [hd] at e
    rw [upd_same]; exact e
  · rw [upd_ne c]
    exact s b o (by rw [upd_ne c]; exact e)
/-- values of some places, in a dict -/
structure DAt (H : Hp) (d : Addr) (n : Nat) (F : Nat → Option (Int × Int)) (kvs : List (Key × V)) : Prop where
  here : H d = some (.dK kvs)
  mem : ∀ k v, (k, v) ∈ kvs → ∃ (j : Nat) (x : Int × Int) (q : Addr), j < n ∧ k = .inl (j : Int) ∧ v = .ref q ∧ F j = some x ∧ H q = some (.tup [.int x.1, .int x.2])
  cov : ∀ (j : Nat) x, F j = some x → ∃ v, ((.inl (j : Int) : Key), v) ∈ kvs
theorem valV_mem {kvs : List (Key × V)} {k : Key} {v : V} (h : valV kvs k = some v) : (k, v) ∈ kvs := by
  unfold valV at h
  obtain ⟨p, hp, rfl⟩ := Option.map_eq_some_iff.mp h
  have h1 := List.mem_of_find?_eq_some hp
  have h2 := List.find?_some hp
  have h2 : p.1 = k := of_decide_eq_true h2
  rw [← h2]; exact h1
theorem valV_ex {kvs : List (Key × V)} {k : Key} {v : V} (h : (k, v) ∈ kvs) : ∃ w, valV kvs k = some w := by
  unfold valV
  cases hf : kvs.find? fun kv => decide (kv.1 = k) with
  | none =>
    have := List.find?_eq_none.mp hf (k, v) h
    simp at this
  | some p => exact ⟨p.2, rfl⟩
theorem DAt.val {H : Hp} {d : Addr} {n : Nat} {F : Nat → Option (Int × Int)} {kvs : List (Key × V)} (D : DAt H d n F kvs) {j : Nat} {x : Int × Int} (h : F j = some x) : ∃ q, valV kvs (.inl (j : Int)) = some (.ref q) ∧ H q = some (.tup [.int x.1, .int x.2]) := by
  obtain ⟨v, hv⟩ := D.cov j x h
  obtain ⟨w, hw⟩ := valV_ex hv
  obtain ⟨j', x', q, _, ek, ev, ef, eq⟩ := D.mem _ _ (valV_mem hw)
  have ek : (j : Int) = (j' : Int) := Sum.inl.inj ek
  have ej : j = j' := by omega
  subst ej
  rw [h] at ef; cases ef
  exact ⟨q, by rw [hw, ev], eq⟩
theorem DAt.no {H : Hp} {d : Addr} {n : Nat} {F : Nat → Option (Int × Int)} {kvs : List (Key × V)} (D : DAt H d n F kvs) {j : Nat} (h : F j = none) : valV kvs (.inl (j : Int)) = none := by
  cases hw : valV kvs (.inl (j : Int)) with
  | none => rfl
  | some w =>
    obtain ⟨j', x', q, _, ek, ev, ef, eq⟩ := D.mem _ _ (valV_mem hw)
    have ek : (j : Int) = (j' : Int) := Sum.inl.inj ek
    have ej : j = j' := by omega
    subst ej
    rw [h] at ef; cases ef
theorem DAt.keep {H H' : Hp} {d : Addr} {n : Nat} {F : Nat → Option (Int × Int)} {kvs : List (Key × V)} (D : DAt H d n F kvs) (s : Same H H') : DAt H' d n F kvs :=
  ⟨s _ _ D.here, fun k v h => by
    obtain ⟨j, x, q, a, b, c, e, f⟩ := D.mem k v h
    exact ⟨j, x, q, a, b, c, e, s _ _ f⟩, D.cov⟩
def setF (F : Nat → Option (Int × Int)) (k : Nat) (x : Int × Int) : Nat → Option (Int × Int) := fun j => if j = k then some x else F j
theorem DAt.put {H : Hp} {d q : Addr} {n k : Nat} {F : Nat → Option (Int × Int)} {kvs : List (Key × V)} {x : Int × Int} (D : DAt H d n F kvs) (hk : k < n) (hF : F k = none) (hq : H q = some (.tup [.int x.1, .int x.2])) :
    DAt (upd H d (.dK (putK kvs (.inl (k : Int)) (.ref q)))) d n (setF F k x) (putK kvs (.inl (k : Int)) (.ref q)) := by
  have e := putK_new (.ref q) (D.no hF)
  have nq : ∀ r y, H r = some (.tup y) → (upd H d (.dK (putK kvs (.inl (k : Int)) (.ref q)))) r = some (.tup y) := fun r y h => by
    rw [L2.upd_ne (ne_of h D.here (by intro z; cases z))]; exact h
  refine ⟨upd_same, fun k' v h => ?_, fun j y h => ?_⟩
  · rw [e] at h
    rcases List.mem_append.mp h with h | h
    · obtain ⟨j, y, r, a, b, c, f, g⟩ := D.mem k' v h
      refine ⟨j, y, r, a, b, c, ?_, nq _ _ g⟩
      unfold setF
      have : j ≠ k := fun z => by rw [z, hF] at f; cases f
      rw [if_neg this]; exact f
    · have h := List.mem_singleton.mp h
      cases h
      exact ⟨k, x, q, hk, rfl, rfl, if_pos rfl, nq _ _ hq⟩
  · rw [e]
    unfold setF at h
    by_cases c : j = k
    · subst c
      exact ⟨.ref q, List.mem_append.mpr (.inr (List.mem_singleton.mpr rfl))⟩
    · rw [if_neg c] at h
      obtain ⟨v, hv⟩ := D.cov j y h
      exact ⟨v, List.mem_append.mpr (.inl hv)⟩
theorem mem_putK {kvs : List (Key × V)} {k k' : Key} {v v' : V} (h : (k', v') ∈ putK kvs k v) : (k' = k ∧ v' = v) ∨ ((k', v') ∈ kvs ∧ k' ≠ k) := by
  unfold putK at h
  split at h
  · obtain ⟨p, hp, e⟩ := List.mem_map.mp h
    split at e
    · rename_i c
      cases e
      exact .inl ⟨c, rfl⟩
    · rename_i c
      cases e
      exact .inr ⟨hp, c⟩
  · rename_i ha
    rcases List.mem_append.mp h with h | h
    · refine .inr ⟨h, fun z => ha (List.any_eq_true.mpr ⟨_, h, decide_eq_true z⟩)⟩
    · cases List.mem_singleton.mp h
      exact .inl ⟨rfl, rfl⟩
theorem key_putK {kvs : List (Key × V)} {k j : Key} {v : V} (h : (∃ w, (j, w) ∈ kvs) ∨ j = k) : ∃ w, (j, w) ∈ putK kvs k v := by
  have key : ∃ w, valV (putK kvs k v) j = some w := by
    rw [valV_put]
    split
    · exact ⟨_, rfl⟩
    · rename_i c
      rcases h with ⟨w, h⟩ | h
      · exact valV_ex h
      · exact absurd h c
  obtain ⟨w, hw⟩ := key
  exact ⟨w, valV_mem hw⟩
theorem mem_mergeK : ∀ {more kvs : List (Key × V)} {k' : Key} {v' : V}, (k', v') ∈ mergeK kvs more → (k', v') ∈ more ∨ ((k', v') ∈ kvs ∧ ∀ v, (k', v) ∉ more)
  | [], kvs, k', v', h => .inr ⟨h, fun v z => by cases z⟩
  | p :: more, kvs, k', v', h => by
    obtain ⟨k, v⟩ := p
    have h : (k', v') ∈ mergeK (putK kvs k v) more := h
    rcases mem_mergeK h with h1 | ⟨h1, h2⟩
    · exact .inl (List.mem_cons_of_mem _ h1)
    · rcases mem_putK h1 with ⟨rfl, rfl⟩ | ⟨h3, h4⟩
      · exact .inl (List.mem_cons_self ..)
      · refine .inr ⟨h3, fun w z => ?_⟩
        rcases List.mem_cons.mp z with z | z
        · cases z; exact h4 rfl
        · exact h2 w z
theorem key_mergeK : ∀ {more kvs : List (Key × V)} {j : Key}, ((∃ w, (j, w) ∈ kvs) ∨ ∃ w, (j, w) ∈ more) → ∃ w, (j, w) ∈ mergeK kvs more
  | [], kvs, j, h => by
    rcases h with h | ⟨w, h⟩
    · exact h
    · cases h
  | p :: more, kvs, j, h => by
    obtain ⟨k, v⟩ := p
    refine key_mergeK (more := more) (kvs := putK kvs k v) ?_
    rcases h with h | ⟨w, h⟩
    · exact .inl (key_putK (.inl h))
    · rcases List.mem_cons.mp h with h | h
      · cases h; exact .inl (key_putK (.inr rfl))
      · exact .inr ⟨w, h⟩
/-- [value for j in range(lo, hi)] -/
theorem lc_vals2 {H : Hp} {n c : Nat} {lo : Int} {σ : L2.St} {f : Nat → V} {ta : TA} {te : TE} {Q : VK} (hn : n ≤ 60) (hlo : 0 ≤ lo) (hlo2 : lo ≤ 100) (hc : c < σ.length)
    (ha : ∀ Q1 : List V → Hp → Prop, Q1 [.int lo, .int (lo + n)] H → ta σ H Q1)
    (ht : ∀ j H1 (Q1 : VK), j < n → Same H H1 → Q1 (f j) H1 → te ((σ.set c none).set c (some (.int (lo + (j : Int))))) H1 Q1)
    (q : ∀ D H', Same H H' → H' D = some (.lst ((List.range n).map f)) → H D = none → Q (.ref D) H') :
    tLc (iRng2 ta) (gName c) tYes te [c] σ H Q := by
  refine ha _ ⟨lo, lo + (n : Int), rfl, ⟨by omega, by omega, by omega, by omega⟩, fun D hD => ?_⟩
  rw [show (lo + (n : Int) - lo).toNat = n by omega]
  refine lc_range (lo := lo) (n := n) (fun i H' => Same H H' ∧ H' D = some (.lst ((List.range i).map f))) ⟨upd_keep hD, upd_same⟩ ?_ ?_
  · rintro i H' hi ⟨sm, eD⟩
    refine ⟨?_, ?_⟩
    · show ((σ.set c none).set c (some (.int (lo + (i : Int))))).set c none = σ.set c none
      rw [List.set_set, List.set_set]
    refine ht i H' _ hi sm ?_
    refine ⟨(List.range i).map f, eD, by rw [List.length_map, List.length_range]; exact small1000 (by omega), same_updN hD sm, ?_⟩
    rw [upd_same, List.range_succ, List.map_append]
    rfl
  · rintro H' ⟨sm, eD⟩
    exact q D H' sm eD hD
def adr : V → Addr
  | .ref q => q
  | _ => 0
/-! ### zip of two lists -/
theorem pi_zipK {X : Cx} {K : PySem.W.Frag} {e e2 : Expr} {ta : TA} {p pos tpos : PySem.Pos} {elts : List Expr} {kk : Nat} (h : X.K = K) (hg : Gl X "zip") (hm : X.mg "zip" = none) (ha : PA X [e, e2] ta)
    (hs : starEach [e, e2] X.env = (false, eval e X.env) :: starEach [e2] X.env := by rfl) (hpl : (backTo pos (starEach [e2] X.env)).any (·.1) = false := by rfl) :
    PI X (.Tuple elts kk tpos) (.Call (.Name "zip" p) [e, e2] [] pos) (iZip K ta) := by subst h; exact pi_zip hg hm ha hs hpl
def ForZ (K : PySem.W.Frag) (a b : Addr) (g : TG) (tb : TS) (D : Ends) (σ : L2.St) (H : Hp) : Prop := ∃ W : Nat → Nat → L2.St → Hp → Prop, (∃ m, W 0 m σ H) ∧ ∀ i m σ H, W i m σ H →
  ((Itz K a b).stop i H ∧ D.nx σ H) ∨ ((Itz K a b).go i H ∧ ∃ N : L2.St → Hp → Prop, (∀ σ' H', N σ' H' → ∃ m', m' < m ∧ W (i + 1) m' σ' H') ∧ ∀ v H', (Itz K a b).yld i H v H' → g v σ H' fun σ2 H2 => tb { D with nx := N, ct := N, bk := D.nx } σ2 H2)
theorem for_zp {K : PySem.W.Frag} {ta : TA} {g : TG} {tb : TS} {D : Ends} {σ : L2.St} {H : Hp} (h : ta σ H fun vs H1 => ∃ a b, vs = [.ref a, .ref b] ∧ ∃ xs, SqL K H1 a xs ∧ ∃ ys, SqL K H1 b ys ∧ ForZ K a b g tb D σ H1) : tFor (iZip K (tWk ta)) g tb D σ H :=
  ⟨_, h, fun _ _ ⟨a, b, e, xs, h1, ys, h2, h3⟩ => ⟨a, b, xs, ys, e, h1, h2, h3⟩⟩
theorem forZ_by {K : PySem.W.Frag} {a b : Addr} {xs ys : List V} {g : TG} {tb : TS} {D : Ends} {σ : L2.St} {H : Hp} (h1 : SqL K H a xs) (h2 : SqL K H b ys) (hl : xs.length = ys.length) (Pv : Nat → L2.St → Hp → Prop) (h0 : Pv 0 σ H) (hq : ∀ i σ H, Pv i σ H → SqL K H a xs ∧ SqL K H b ys)
    (hs : ∀ (i : Nat) (x y : V) (T : Addr) (σ : L2.St) (H : Hp) (H2 : Hp), xs[i]? = some x → ys[i]? = some y → Pv i σ H → Same H H2 → H2 T = some (.tup [x, y]) → g (.ref T) σ H2 fun σ2 H2 => tb { D with nx := Pv (i + 1), ct := Pv (i + 1), bk := D.nx } σ2 H2) (hd : ∀ σ H, Pv xs.length σ H → D.nx σ H) : ∃ xs, SqL K H a xs ∧ ∃ ys, SqL K H b ys ∧ ForZ K a b g tb D σ H :=
  ⟨xs, h1, ys, h2, RZ.for_zipL hl Pv h0 hq (fun i x y T σ H hx hy p hT => hs i x y T σ H _ hx hy p (upd_keep hT) upd_same) hd⟩
/-! ### comprehensions over a zip of two lists -/
def LcZ (K : PySem.W.Frag) (a b : Addr) (g : TG) (tt : TT) (te : TE) (vs : List Nat) (σ : L2.St) (H1 : Hp) (Q : VK) : Prop := ∀ D, H1 D = none → ∃ W : Nat → Nat → Hp → Prop, (∃ m, W 0 m (upd H1 D (.lst []))) ∧ ∀ i m H, W i m H →
  ((Itz K a b).stop i H ∧ Q (.ref D) H) ∨ ((Itz K a b).go i H ∧ ∃ Nx : Hp → Prop, (∀ H', Nx H' → ∃ m', m' < m ∧ W (i + 1) m' H') ∧ ∀ x H', (Itz K a b).yld i H x H' → g x (wipe σ vs) H' fun σ2 H2 => wipe σ2 vs = wipe σ vs ∧ tt σ2 H2 fun b H3 =>
    if b = true then te σ2 H3 fun y H4 => ∃ acc, H4 D = some (.lst acc) ∧ acc.length < sizeLine ∧ Nx (upd H4 D (.lst (acc ++ [y]))) else Nx H3)
theorem lcz_src {K : PySem.W.Frag} {ta : TA} {g : TG} {tt : TT} {te : TE} {vs : List Nat} {σ : L2.St} {H : Hp} {Q : VK} (h : ta σ H fun us H1 => ∃ a b, us = [.ref a, .ref b] ∧ ∃ xs, SqL K H1 a xs ∧ ∃ ys, SqL K H1 b ys ∧ LcZ K a b g tt te vs σ H1 Q) : tLc (iZip K (tWk ta)) g tt te vs σ H Q :=
  ⟨_, h, fun _ _ ⟨a, b, e, xs, h1, ys, h2, h3⟩ => ⟨a, b, xs, ys, e, h1, h2, h3⟩⟩
theorem lcZ_vals {K : PySem.W.Frag} {a b : Addr} {xs ys : List V} {F : Nat → V} {g : TG} {te : TE} {vs : List Nat} {σ : L2.St} {H : Hp} {Q : VK} (hx : H a = some (.lst xs)) (hy : H b = some (.lst ys)) (hl : xs.length = ys.length) (hn : xs.length ≤ 900)
    (ht : ∀ (i : Nat) (x y : V) (T : Addr) (H2 : Hp) (Yes : VK), xs[i]? = some x → ys[i]? = some y → Same H H2 → H2 T = some (.tup [x, y]) → (∀ H3, Same H2 H3 → Yes (F i) H3) → g (.ref T) (wipe σ vs) H2 fun σ2 H3 => wipe σ2 vs = wipe σ vs ∧ te σ2 H3 Yes)
    (q : ∀ D H', Same H H' → H D = none → H' D = some (.lst ((List.range xs.length).map F)) → Q (.ref D) H') : LcZ K a b g tYes te vs σ H Q := fun D hD => by
  refine ⟨fun i m H' => m = xs.length - i ∧ i ≤ xs.length ∧ Same H H' ∧ H' D = some (.lst ((List.range i).map F)), ⟨xs.length, rfl, Nat.zero_le _, upd_keep hD, upd_same⟩, ?_⟩
  rintro i m H' ⟨rfl, hi, sm, eD⟩
  by_cases c : i < xs.length
  · have h1 := List.getElem?_eq_getElem c
    have h2 := List.getElem?_eq_getElem (l := ys) (i := i) (by omega)
    refine .inr ⟨⟨xs, ys, _, _, .of (sm _ _ hx), .of (sm _ _ hy), h1, h2⟩, fun H2 => i + 1 ≤ xs.length ∧ Same H H2 ∧ H2 D = some (.lst ((List.range (i + 1)).map F)), fun H2 ⟨p1, p2, p3⟩ => ⟨_, by omega, rfl, p1, p2, p3⟩, ?_⟩
    rintro v H2 ⟨T, x, y, rfl, fT, rfl, hx', hy'⟩
    have ex := hx' xs (.of (sm _ _ hx))
    have ey := hy' ys (.of (sm _ _ hy))
    have s2 : Same H' (upd H' T (.tup [x, y])) := upd_keep fT
    have := ht i x y T (upd H' T (.tup [x, y])) (fun v H5 => ∃ acc, H5 D = some (.lst acc) ∧ acc.length < sizeLine ∧ (i + 1 ≤ xs.length ∧ Same H (upd H5 D (.lst (acc ++ [v]))) ∧ upd H5 D (.lst (acc ++ [v])) D = some (.lst ((List.range (i + 1)).map F)))) ex ey (sm.trans s2) upd_same (fun H3 s3 => by
      refine ⟨_, s3 _ _ (s2 _ _ eD), by rw [List.length_map, List.length_range]; exact small1000 (by omega), by omega, same_updN hD (sm.trans (s2.trans s3)), ?_⟩
      rw [upd_same, List.range_succ, List.map_append]; rfl)
    simpa only [tYes, if_true] using this
  · have e : i = xs.length := by omega
    subst e
    exact .inl ⟨⟨xs, ys, .of (sm _ _ hx), .of (sm _ _ hy), .inl (Nat.le_refl _)⟩, q D H' sm hD eD⟩
/-! ### comprehensions over a list -/
/-- what stands behind the source of a comprehension -/
def LcL (K : PySem.W.Frag) (a : Addr) (c : Nat) (te : TE) (σ : L2.St) (H1 : Hp) (Q : VK) : Prop := ∀ D, H1 D = none → ∃ W : Nat → Nat → Hp → Prop, (∃ m, W 0 m (upd H1 D (.lst []))) ∧ ∀ i m H, W i m H →
  ((Itl K a).stop i H ∧ Q (.ref D) H) ∨ ((Itl K a).go i H ∧ ∃ Nx : Hp → Prop, (∀ H', Nx H' → ∃ m', m' < m ∧ W (i + 1) m' H') ∧ ∀ x H', (Itl K a).yld i H x H' → gName c x (wipe σ [c]) H' fun σ2 H2 => wipe σ2 [c] = wipe σ [c] ∧ tYes σ2 H2 fun b H3 =>
    if b = true then te σ2 H3 fun y H4 => ∃ acc, H4 D = some (.lst acc) ∧ acc.length < sizeLine ∧ Nx (upd H4 D (.lst (acc ++ [y]))) else Nx H3)
theorem lc_src {K : PySem.W.Frag} {ts te : TE} {c : Nat} {σ : L2.St} {H : Hp} {Q : VK} (h : ts σ H fun x H1 => ∃ a, x = .ref a ∧ (∃ xs, SqL K H1 a xs) ∧ LcL K a c te σ H1 Q) : tLc (iList K ts) (gName c) tYes te [c] σ H Q := h
/-- each value turned into a value -/
theorem lcL_vals {K : PySem.W.Frag} {a : Addr} {c : Nat} {te : TE} {σ : L2.St} {H : Hp} {Q : VK} {xs : List V} {f : Nat → V} (hx : H a = some (.lst xs)) (hn : xs.length ≤ 900) (hc : c < σ.length)
    (ht : ∀ i x H2 (Q1 : VK), xs[i]? = some x → Same H H2 → (∀ H3, Same H2 H3 → Q1 (f i) H3) → te ((σ.set c none).set c (some x)) H2 Q1)
    (q : ∀ D H', Same H H' → H D = none → H' D = some (.lst ((List.range xs.length).map f)) → Q (.ref D) H') : LcL K a c te σ H Q := fun D hD => by
  refine lc_list (K := K) (a := a) (xs := xs) (fun i H' => Same H H' ∧ H' D = some (.lst ((List.range i).map f))) ⟨upd_keep hD, upd_same⟩ (fun i H' _ ⟨s, _⟩ => .of (s _ _ hx)) ?_ ?_
  · rintro i x H' hi ⟨sm, eD⟩
    have hin := (List.getElem?_eq_some_iff.mp hi).1
    refine ⟨?_, ?_⟩
    · show ((σ.set c none).set c (some x)).set c none = σ.set c none
      rw [List.set_set, List.set_set]
    refine ht i x H' _ hi sm fun H3 s3 => ?_
    refine ⟨(List.range i).map f, s3 _ _ eD, by rw [List.length_map, List.length_range]; exact small1000 (by omega), same_updN hD (sm.trans s3), ?_⟩
    rw [upd_same, List.range_succ, List.map_append]
    rfl
  · rintro H' ⟨sm, eD⟩
    exact q D H' sm hD eD
/-- each value turned into a new object -/
theorem lcL_objs {K : PySem.W.Frag} {a : Addr} {c : Nat} {te : TE} {σ : L2.St} {H : Hp} {Q : VK} {xs : List V} {Pr : Nat → HO → Prop} (hx : H a = some (.lst xs)) (hn : xs.length ≤ 900) (hc : c < σ.length)
    (ht : ∀ i x H2 (Q1 : VK), xs[i]? = some x → Same H H2 → (∀ r o H3, Same H2 H3 → H2 r = none → H3 r = some o → Pr i o → Q1 (.ref r) H3) → te ((σ.set c none).set c (some x)) H2 Q1)
    (q : ∀ D (as : List Addr) H', Same H H' → H D = none → H' D = some (.lst (as.map V.ref)) → as.length = xs.length → as.Nodup → (∀ a ∈ as, H a = none) → (∀ (i : Nat) (a : Addr), as[i]? = some a → ∃ o, H' a = some o ∧ Pr i o) → Q (.ref D) H') : LcL K a c te σ H Q := fun D hD => by
  refine lc_list (K := K) (a := a) (xs := xs) (fun i H' => ∃ as' : List Addr, Same H H' ∧ H' D = some (.lst (as'.map V.ref)) ∧ as'.length = i ∧ as'.Nodup ∧ (∀ a ∈ as', H a = none ∧ a ≠ D) ∧ ∀ (j : Nat) (a : Addr), as'[j]? = some a → ∃ o, H' a = some o ∧ Pr j o)
    ⟨[], upd_keep hD, upd_same, rfl, List.nodup_nil, (fun a h => by cases h), (fun j a h => by cases h)⟩ (fun i H' _ ⟨_, s, _⟩ => .of (s _ _ hx)) ?_ ?_
  · rintro i x H' hi ⟨as', sm, eD, hl, nd, hf, hr⟩
    have hin := (List.getElem?_eq_some_iff.mp hi).1
    refine ⟨?_, ?_⟩
    · show ((σ.set c none).set c (some x)).set c none = σ.set c none
      rw [List.set_set, List.set_set]
    refine ht i x H' _ hi sm fun l o H2 s2 fl e2 po => ?_
    have nD : l ≠ D := fun e => by rw [e, eD] at fl; cases fl
    have nl : l ∉ as' := fun hm => by
      obtain ⟨j, hj, e⟩ := List.mem_iff_getElem.mp hm
      obtain ⟨o', h', _⟩ := hr j l (by rw [List.getElem?_eq_getElem hj, e])
      rw [fl] at h'; cases h'
    refine ⟨as'.map V.ref, s2 _ _ eD, by rw [List.length_map, hl]; exact small1000 (by omega), as' ++ [l], same_updN hD (sm.trans s2), ?_, by simp [hl], ?_, ?_, ?_⟩
    · rw [upd_same, List.map_append]; rfl
    · rw [List.nodup_append]
      refine ⟨nd, by simp, fun a ha b hb e => ?_⟩
      have : b = l := by simpa using hb
      exact nl (by rw [← this, ← e]; exact ha)
    · intro a ha
      rcases List.mem_append.mp ha with h | h
      · exact hf a h
      · have : a = l := by simpa using h
        subst this
        exact ⟨sm.free fl, nD⟩
    · intro j a hj
      by_cases c1 : j < as'.length
      · rw [List.getElem?_append_left c1] at hj
        rw [upd_ne (hf a (List.mem_of_getElem? hj)).2]
        obtain ⟨o', h', p'⟩ := hr j a hj
        exact ⟨o', s2 _ _ h', p'⟩
      · have hlt := (List.getElem?_eq_some_iff.mp hj).1
        rw [List.length_append, List.length_singleton] at hlt
        obtain rfl : j = as'.length := by omega
        rw [List.getElem?_append_right (Nat.le_refl _), Nat.sub_self] at hj
        have : l = a := by simpa using hj
        subst this
        rw [upd_ne nD, hl]
        exact ⟨o, e2, po⟩
  · rintro H' ⟨as', sm, eD, hl, nd, hf, hr⟩
    exact q D as' H' sm hD eD hl nd (fun a ha => (hf a ha).1) hr
/-- each value turned into a tuple -/
theorem lcL_tups {K : PySem.W.Frag} {a : Addr} {c : Nat} {te : TE} {σ : L2.St} {H : Hp} {Q : VK} {xs : List V} {Pr : Nat → List V → Prop} (hx : H a = some (.lst xs)) (hn : xs.length ≤ 900) (hc : c < σ.length)
    (ht : ∀ i x H2 (Q1 : VK), xs[i]? = some x → Same H H2 → (∀ r o H3, Same H2 H3 → H3 r = some (.tup o) → Pr i o → Q1 (.ref r) H3) → te ((σ.set c none).set c (some x)) H2 Q1)
    (q : ∀ D (as : List Addr) H', Same H H' → H D = none → H' D = some (.lst (as.map V.ref)) → as.length = xs.length → (∀ (i : Nat) (a : Addr), as[i]? = some a → ∃ o, H' a = some (.tup o) ∧ Pr i o) → Q (.ref D) H') : LcL K a c te σ H Q := fun D hD => by
  refine lc_list (K := K) (a := a) (xs := xs) (fun i H' => ∃ as' : List Addr, Same H H' ∧ H' D = some (.lst (as'.map V.ref)) ∧ as'.length = i ∧ ∀ (j : Nat) (a : Addr), as'[j]? = some a → ∃ o, H' a = some (.tup o) ∧ Pr j o)
    ⟨[], upd_keep hD, upd_same, rfl, (fun j a h => by cases h)⟩ (fun i H' _ ⟨_, s, _⟩ => .of (s _ _ hx)) ?_ ?_
  · rintro i x H' hi ⟨as', sm, eD, hl, hr⟩
    have hin := (List.getElem?_eq_some_iff.mp hi).1
    refine ⟨?_, ?_⟩
    · show ((σ.set c none).set c (some x)).set c none = σ.set c none
      rw [List.set_set, List.set_set]
    refine ht i x H' _ hi sm fun l o H2 s2 e2 po => ?_
    have eD2 := s2 _ _ eD
    refine ⟨as'.map V.ref, eD2, by rw [List.length_map, hl]; exact small1000 (by omega), as' ++ [l], same_updN hD (sm.trans s2), ?_, by simp [hl], ?_⟩
    · rw [upd_same, List.map_append]; rfl
    · intro j a hj
      by_cases c1 : j < as'.length
      · rw [List.getElem?_append_left c1] at hj
        obtain ⟨o', h', p'⟩ := hr j a hj
        refine ⟨o', ?_, p'⟩
        have h2 := s2 _ _ h'
        rw [upd_ne (ne_of h2 eD2 (by intro z; cases z))]; exact h2
      · have hlt := (List.getElem?_eq_some_iff.mp hj).1
        rw [List.length_append, List.length_singleton] at hlt
        obtain rfl : j = as'.length := by omega
        rw [List.getElem?_append_right (Nat.le_refl _), Nat.sub_self] at hj
        have : l = a := by simpa using hj
        subst this
        rw [upd_ne (ne_of e2 eD2 (by intro z; cases z)), hl]
        exact ⟨o, e2, po⟩
  · rintro H' ⟨as', sm, eD, hl, hr⟩
    exact q D as' H' sm hD eD hl hr
/-! ### looks -/
inductive Wd where
  | lt | le | gt | ge | eq
def Wd.s : Wd → Str
  | .lt => "<"
  | .le => "<="
  | .gt => ">"
  | .ge => ">="
  | .eq => "="
/-- a look: the place behind the first, the word, the number -/
abbrev Look := Nat × Wd × Int
/-- the looks ls stand at p -/
def LkAt (H : Hp) (p : Addr) (ls : List Look) : Prop := ∃ qs : List Addr, H p = some (.lst (qs.map V.ref)) ∧ qs.length = ls.length ∧ ∀ (i : Nat) (q : Addr) (l : Look), qs[i]? = some q → ls[i]? = some l → H q = some (.tup [.int ((l.1 + 1 : Nat) : Int), .str l.2.1.s, .int l.2.2])
theorem LkAt.keep {H H' : Hp} {p : Addr} {ls : List Look} (v : LkAt H p ls) (s : Same H H') : LkAt H' p ls := by
  obtain ⟨qs, a, b, c⟩ := v
  exact ⟨qs, s _ _ a, b, fun i q x h1 h2 => s _ _ (c i q x h1 h2)⟩
def ldata (ls : List Look) : PyData := .list (ls.map fun l => .tuple [.int ((l.1 + 1 : Nat) : Int), .str l.2.1.s, .int l.2.2])
theorem LkAt.dp {K : PySem.W.Frag} {H : Hp} {p : Addr} {ls : List Look} (v : LkAt H p ls) : Dp K H (.ref p) (ldata ls) := by
  obtain ⟨qs, a, b, c⟩ := v
  refine .lst (.of a) (dpall_of (by simp [b]) fun k v d h1 h2 => ?_)
  rw [List.getElem?_map] at h1 h2
  obtain ⟨q, hq, rfl⟩ := Option.map_eq_some_iff.mp h1
  obtain ⟨x, hx, rfl⟩ := Option.map_eq_some_iff.mp h2
  exact .tup (.of (c k q x hq hx)) (.cons (.int _) (.cons (.str _) (.cons (.int _) .nil)))
theorem lay_looks (ls : List Look) : (ldata ls).canLay0 = true ∧ (ldata ls).depth ≤ 2 := lay_list fun d h => by
  obtain ⟨⟨p, w, k⟩, _, rfl⟩ := List.mem_map.mp h
  have h : PyData.canLay0 (.str w.s) = true := by cases w <;> decide +kernel
  exact ⟨by show (true && (PyData.canLay0 (.str w.s) && (true && true))) = true; rw [h]; rfl, Nat.le_refl _⟩
/-- whether a value meets a look -/
def meetsL (l : Look) (x : Int × Int) : Bool := match l.2.1 with
  | .lt => decide (x.1 < l.2.2 * x.2)
  | .le => decide (x.1 ≤ l.2.2 * x.2)
  | .gt => decide (l.2.2 * x.2 < x.1)
  | .ge => decide (l.2.2 * x.2 ≤ x.1)
  | .eq => decide (x.1 = l.2.2 * x.2)
def lookStep (M : Mx) (l : Look) : Mx := match l.2.1 with
  | .lt => up2 M (l.1 + 1) 0 (narO (M (l.1 + 1) 0) (some (2 * l.2.2)))
  | .le => up2 M (l.1 + 1) 0 (narO (M (l.1 + 1) 0) (some (2 * l.2.2 + 1)))
  | .gt => up2 M 0 (l.1 + 1) (narO (M 0 (l.1 + 1)) (some (2 * (0 - l.2.2))))
  | .ge => up2 M 0 (l.1 + 1) (narO (M 0 (l.1 + 1)) (some (2 * (0 - l.2.2) + 1)))
  | .eq => up2 (up2 M (l.1 + 1) 0 (narO (M (l.1 + 1) 0) (some (2 * l.2.2 + 1)))) 0 (l.1 + 1) (narO (up2 M (l.1 + 1) 0 (narO (M (l.1 + 1) 0) (some (2 * l.2.2 + 1))) 0 (l.1 + 1)) (some (2 * (0 - l.2.2) + 1)))
def lookM (M : Mx) (ls : List Look) : Mx := ls.foldl lookStep M
theorem lookM_snoc (M : Mx) {ls : List Look} {i : Nat} {l : Look} (h : ls[i]? = some l) : lookM M (ls.take (i + 1)) = lookStep (lookM M (ls.take i)) l := by
  unfold lookM
  rw [List.take_add_one, h]
  simp [List.foldl_append]
/-! ### zones made wider beyond the greatest numbers asked -/
theorem cell1_mono {k i j : Nat} {M T : Mx} (h : LeM M T) : LeM (cell1 k i j M) (cell1 k i j T) := fun a b => by
  unfold cell1 up2
  split
  · exact le_narO (leO_trans (narO_le1 _ _) (h i j)) (leO_trans (narO_le2 _ _) (addO_mono (h i k) (h k j)))
  · exact h a b
theorem iter_mono {f : Nat → Mx → Mx} (hf : ∀ i M T, LeM M T → LeM (f i M) (f i T)) {M T : Mx} (h : LeM M T) : ∀ m, LeM (iter f m M) (iter f m T)
  | 0 => h
  | m + 1 => hf m _ _ (iter_mono hf h m)
theorem rowst_mono {n k i : Nat} {M T : Mx} (h : LeM M T) : LeM (rowst n k i M) (rowst n k i T) := by
  by_cases c : T i k = none
  · rw [show rowst n k i T = T by unfold rowst; rw [if_pos c]]
    exact (rowst_le n k i M).trans h
  · have c2 : M i k ≠ none := fun e => by
      have := h i k
      rw [e] at this
      cases hT : T i k with
      | none => exact c hT
      | some v => rw [hT] at this; exact this.elim
    unfold rowst
    rw [if_neg c, if_neg c2]
    exact iter_mono (f := cell1 k i) (fun _ _ _ h => cell1_mono h) h n
theorem diag1_mono {i : Nat} {M T : Mx} (h : LeM M T) : LeM (diag1 i M) (diag1 i T) := by
  have one : ∀ (x y : Nat) {M T : Mx}, LeM M T → LeM (up2 M x y (narO (M x y) (some 1))) (up2 T x y (narO (T x y) (some 1))) := fun x y M T h a b => by
    unfold up2
    split
    · exact le_narO (leO_trans (narO_le1 _ _) (h x y)) (narO_le2 _ _)
    · exact h a b
  exact one 0 i (one i i h)
theorem nrw_mono {n : Nat} {M T : Mx} (h : LeM M T) : LeM (nrw n M) (nrw n T) :=
  iter_mono (f := thr n) (fun k _ _ h => iter_mono (f := rowst n k) (fun _ _ _ h => rowst_mono h) h n) (iter_mono (f := diag1) (fun _ _ _ h => diag1_mono h) h n) n
/-! ### values as rational numbers -/
def rq (x : Int × Int) : Rat := (x.1 : Rat) / (x.2 : Rat)
/-- whether a number is let by a bound -/
def letsR : Option Int → Rat → Prop
  | none, _ => True
  | some b, q => q < ((b / 2 : Int) : Rat) ∨ (q = ((b / 2 : Int) : Rat) ∧ b % 2 = 1)
theorem castpos {u : Int} (h : 0 < u) : (0 : Rat) < (u : Rat) := Rat.intCast_pos.mpr h
theorem rq_lt {t u : Int} (m : Int) (h : 0 < u) : rq (t, u) < (m : Rat) ↔ t < m * u := by
  unfold rq
  rw [Rat.div_lt_iff (castpos h), ← Rat.intCast_mul, Rat.intCast_lt_intCast]
theorem rq_eq {t u : Int} (m : Int) (h : 0 < u) : rq (t, u) = (m : Rat) ↔ t = m * u := by
  unfold rq
  have h := castpos h
  rw [← Rat.intCast_inj (a := t), Rat.intCast_mul]
  show (t : Rat) / (u : Rat) = _ ↔ _
  generalize (t : Rat) = x at *
  generalize (u : Rat) = y at *
  constructor <;> intro k <;> grind
theorem lets_rat {b : Option Int} {t u : Int} (h : 0 < u) : letsO b t u = true ↔ letsR b (rq (t, u)) := by
  cases b with
  | none => exact ⟨fun _ => trivial, fun _ => rfl⟩
  | some b =>
    show decide _ = true ↔ _
    rw [decide_eq_true_iff]
    show _ ↔ (rq (t, u) < _ ∨ (rq (t, u) = _ ∧ _))
    rw [rq_lt _ h, rq_eq _ h]
theorem rq_dif {x y : Int × Int} (hx : 0 < x.2) (hy : 0 < y.2) : rq (dif x y) = rq x - rq y := by
  unfold rq dif
  have h1 := castpos hx
  have h2 := castpos hy
  simp only [Rat.intCast_sub, Rat.intCast_mul]
  generalize (x.1 : Rat) = a at *
  generalize (x.2 : Rat) = b at *
  generalize (y.1 : Rat) = c at *
  generalize (y.2 : Rat) = d at *
  grind
theorem rq_sum {x y : Int × Int} (hx : 0 < x.2) (hy : 0 < y.2) : rq (x.1 * y.2 + y.1 * x.2, x.2 * y.2) = rq x + rq y := by
  unfold rq
  have h1 := castpos hx
  have h2 := castpos hy
  simp only [Rat.intCast_add, Rat.intCast_mul]
  generalize (x.1 : Rat) = a at *
  generalize (x.2 : Rat) = b at *
  generalize (y.1 : Rat) = c at *
  generalize (y.2 : Rat) = d at *
  grind
theorem rq_half {a b : Int} (hb : 0 < b) : rq (a, 2 * b) = rq (a, b) / 2 := by
  unfold rq
  have h1 := castpos hb
  simp only [Rat.intCast_mul]
  rw [show ((2 : Int) : Rat) = 2 from rfl]
  generalize (a : Rat) = a at *
  generalize (b : Rat) = b at *
  grind
theorem rq_red {a b t u : Int} (hb : 0 < b) (h : Red a b t u) : rq (t, u) = rq (a, b) := by
  unfold rq
  have h1 := castpos hb
  have h2 := castpos h.pos
  have e : (t : Rat) * (b : Rat) = (a : Rat) * (u : Rat) := by rw [← Rat.intCast_mul, ← Rat.intCast_mul, h.eq]
  show (t : Rat) / (u : Rat) = (a : Rat) / (b : Rat)
  generalize (t : Rat) = t at *
  generalize (u : Rat) = u at *
  generalize (a : Rat) = a at *
  generalize (b : Rat) = b at *
  grind
theorem rq_cross {x y : Int × Int} (hx : 0 < x.2) (hy : 0 < y.2) : rq x < rq y ↔ x.1 * y.2 < y.1 * x.2 := by
  unfold rq
  have h1 := castpos hx
  have h2 := castpos hy
  rw [← Rat.intCast_lt_intCast, Rat.intCast_mul, Rat.intCast_mul, Rat.div_lt_iff h1, show (y.1 : Rat) / (y.2 : Rat) * (x.2 : Rat) = (y.1 : Rat) * (x.2 : Rat) / (y.2 : Rat) by grind, Rat.lt_div_iff h2]
theorem rq_nn {x : Int × Int} (hx : 0 < x.2) : 0 ≤ rq x ↔ 0 ≤ x.1 := by
  have h := rq_lt (t := x.1) (u := x.2) 0 hx
  rw [Int.zero_mul] at h
  have h : rq x < 0 ↔ x.1 < 0 := h
  constructor
  · intro k
    rcases Int.lt_or_le x.1 0 with c | c
    · have := h.mpr c; grind
    · exact c
  · intro k
    refine Classical.byContradiction fun c => ?_
    have := h.mp (by grind)
    omega
theorem letsR_mono {x y : Option Int} {q : Rat} (h : leO x y) (k : letsR x q) : letsR y q := by
  cases y with
  | none => trivial
  | some b =>
    cases x with
    | none => exact h.elim
    | some a =>
      have h : a ≤ b := h
      by_cases c : a / 2 = b / 2
      · rcases k with k | ⟨k, o⟩
        · exact .inl (c ▸ k)
        · exact .inr ⟨c ▸ k, by omega⟩
      · have l : ((a / 2 : Int) : Rat) < ((b / 2 : Int) : Rat) := Rat.intCast_lt_intCast.mpr (by omega)
        rcases k with k | ⟨k, o⟩
        · exact .inl (by grind)
        · exact .inl (by grind)
/-- a sum let by a sum of bounds -/
theorem letsR_add {a b : Int} {q : Rat} (k : letsR (addO (some a) (some b)) q) : q < ((a / 2 : Int) : Rat) + ((b / 2 : Int) : Rat) ∨ (q = ((a / 2 : Int) : Rat) + ((b / 2 : Int) : Rat) ∧ a % 2 = 1 ∧ b % 2 = 1) := by
  have k : letsR (some (2 * (a / 2 + b / 2) + (if a % 2 = 1 ∧ b % 2 = 1 then 1 else 0))) q := k
  rw [← Rat.intCast_add]
  by_cases c : a % 2 = 1 ∧ b % 2 = 1
  · rw [if_pos c] at k
    rcases k with k | ⟨k, _⟩
    · rw [show (2 * (a / 2 + b / 2) + 1) / 2 = a / 2 + b / 2 by omega] at k
      exact .inl k
    · rw [show (2 * (a / 2 + b / 2) + 1) / 2 = a / 2 + b / 2 by omega] at k
      exact .inr ⟨k, c⟩
  · rw [if_neg c] at k
    rcases k with k | ⟨_, o⟩
    · rw [show (2 * (a / 2 + b / 2) + 0) / 2 = a / 2 + b / 2 by omega] at k
      exact .inl k
    · omega
/-- values of some places, that keep all bounds between these -/
def Part (n : Nat) (N : Mx) (f : Nat → Option Rat) : Prop := ∀ i j x y, i < n → j < n → f i = some x → f j = some y → letsR (N i j) (x - y)
structure Nar (n : Nat) (N : Mx) : Prop where
  tri : Tri n n N
  one : ∀ i, i < n → N i i = some 1
  row : ∀ i, i < n → leO (N 0 i) (some 1)
/-- the lowest that place k may be -/
structure IsLow (n : Nat) (N : Mx) (f : Nat → Option Rat) (k : Nat) (low : Rat) : Prop where
  nn : 0 ≤ low
  all : ∀ j x b, j < n → f j = some x → N j k = some b → x - ((b / 2 : Int) : Rat) ≤ low
  one : low = 0 ∨ ∃ j x b, j < n ∧ f j = some x ∧ N j k = some b ∧ low = x - ((b / 2 : Int) : Rat)
def IsHigh (n : Nat) (N : Mx) (f : Nat → Option Rat) (k : Nat) : Option Rat → Prop
  | none => ∀ j x, j < n → f j = some x → N k j = none
  | some high => (∀ j x b, j < n → f j = some x → N k j = some b → high ≤ x + ((b / 2 : Int) : Rat)) ∧ ∃ j x b, j < n ∧ f j = some x ∧ N k j = some b ∧ high = x + ((b / 2 : Int) : Rat)
def midR (low : Rat) : Option Rat → Rat
  | none => low + 1
  | some high => (low + high) / 2
def setR (f : Nat → Option Rat) (k : Nat) (z : Rat) : Nat → Option Rat := fun j => if j = k then some z else f j
section
variable {n k : Nat} {N : Mx} {f : Nat → Option Rat}
theorem pair_lo_hi (R : Nar n N) (hk : k < n) (p : Part n N f) {j l : Nat} {x y : Rat} {b c : Int} (hj : j < n) (hl : l < n) (fx : f j = some x) (fy : f l = some y) (hb : N j k = some b) (hc : N k l = some c) :
    x - ((b / 2 : Int) : Rat) < y + ((c / 2 : Int) : Rat) ∨ (x - ((b / 2 : Int) : Rat) = y + ((c / 2 : Int) : Rat) ∧ b % 2 = 1 ∧ c % 2 = 1) := by
  have t := R.tri k hk j l hj hl
  rw [hb, hc] at t
  rcases letsR_add (letsR_mono t (p j l x y hj hl fx fy)) with h | ⟨h, o⟩
  · left; grind
  · right; exact ⟨by grind, o⟩
theorem low_att (R : Nar n N) (hk : k < n) (f0 : f 0 = some 0) {low : Rat} (L : IsLow n N f k low) : ∃ j x b, j < n ∧ f j = some x ∧ N j k = some b ∧ low = x - ((b / 2 : Int) : Rat) := by
  rcases L.one with h | h
  · have r := R.row k hk
    cases hN : N 0 k with
    | none => rw [hN] at r; exact r.elim
    | some b =>
      rw [hN] at r
      have r : b ≤ 1 := r
      have h1 := L.all 0 0 b (by omega) f0 hN
      have h2 : ((b / 2 : Int) : Rat) ≤ ((0 : Int) : Rat) := Rat.intCast_le_intCast.mpr (by omega)
      have h2 : ((b / 2 : Int) : Rat) ≤ 0 := h2
      exact ⟨0, 0, b, by omega, f0, hN, by grind⟩
  · exact h
theorem fill_step (R : Nar n N) (hk : k < n) (f0 : f 0 = some 0) (p : Part n N f) {low : Rat} {high : Option Rat} (L : IsLow n N f k low) (G : IsHigh n N f k high) :
    0 ≤ midR low high ∧ ∀ j x, j < n → f j = some x → letsR (N j k) (x - midR low high) ∧ letsR (N k j) (midR low high - x) := by
  have l0 := L.nn
  obtain ⟨j0, x0, b0, hj0, fx0, e0, el⟩ := low_att R hk f0 L
  cases high with
  | none =>
    refine ⟨by show 0 ≤ low + 1; grind, fun j x hj fx => ⟨?_, by rw [G j x hj fx]; trivial⟩⟩
    cases hN : N j k with
    | none => trivial
    | some b =>
      have := L.all j x b hj fx hN
      left
      show x - (low + 1) < _
      grind
  | some high =>
    obtain ⟨ga, j1, x1, b1, hj1, fx1, e1, eh⟩ := G
    have key := pair_lo_hi R hk p hj0 hj1 fx0 fx1 e0 e1
    rw [← el, ← eh] at key
    have le : low ≤ high := by rcases key with h | h <;> grind
    refine ⟨by show 0 ≤ (low + high) / 2; grind, fun j x hj fx => ⟨?_, ?_⟩⟩
    · cases hN : N j k with
      | none => trivial
      | some b =>
        have h1 := L.all j x b hj fx hN
        have h2 := pair_lo_hi R hk p hj hj1 fx fx1 hN e1
        rw [← eh] at h2
        show x - (low + high) / 2 < _ ∨ (x - (low + high) / 2 = _ ∧ _)
        rcases h2 with h2 | ⟨h2, o, _⟩
        · left; grind
        · right; exact ⟨by grind, o⟩
    · cases hN : N k j with
      | none => trivial
      | some b =>
        have h1 := ga j x b hj fx hN
        have h2 := pair_lo_hi R hk p hj0 hj fx0 fx e0 hN
        rw [← el] at h2
        show (low + high) / 2 - x < _ ∨ ((low + high) / 2 - x = _ ∧ _)
        rcases h2 with h2 | ⟨h2, _, o⟩
        · left; grind
        · right; exact ⟨by grind, o⟩
theorem part_set (R : Nar n N) (hk : k < n) (p : Part n N f) {z : Rat} (h : ∀ j x, j < n → f j = some x → letsR (N j k) (x - z) ∧ letsR (N k j) (z - x)) : Part n N (setR f k z) := by
  intro i j x y hi hj hx hy
  unfold setR at hx hy
  by_cases ci : i = k
  · rw [if_pos ci] at hx
    cases hx
    by_cases cj : j = k
    · rw [if_pos cj] at hy
      cases hy
      rw [ci, cj, R.one k hk]
      right
      exact ⟨by show z - z = ((0 : Int) : Rat); grind, rfl⟩
    · rw [if_neg cj] at hy
      rw [ci]
      exact (h j y hj hy).2
  · rw [if_neg ci] at hx
    by_cases cj : j = k
    · rw [if_pos cj] at hy
      cases hy
      rw [cj]
      exact (h i x hi hx).1
    · rw [if_neg cj] at hy
      exact p i j x y hi hj hx hy
end
theorem rq0 : rq (0, 1) = 0 := by
  unfold rq
  show ((0 : Int) : Rat) / ((1 : Int) : Rat) = 0
  rw [Rat.intCast_zero, Rat.intCast_one]
  grind
theorem rq1 : rq (1, 1) = 1 := by
  unfold rq
  show ((1 : Int) : Rat) / ((1 : Int) : Rat) = 1
  rw [Rat.intCast_one]
  grind
theorem rqn (n : Int) : rq (n, 1) = (n : Rat) := by
  unfold rq
  show (n : Rat) / ((1 : Int) : Rat) = n
  rw [Rat.intCast_one]
  grind
/-! ### narrow zones made narrower in one place, and scaled -/
theorem Nar.of_nrw {n : Nat} {M : Mx} (h : ∀ i, i < n → Pos (nrw n M) i) : Nar n (nrw n M) := ⟨nrw_tri h, fun i hi => nrw_diag hi (h i hi), fun i hi => nrw_row0 hi⟩
theorem Nar.idem {n : Nat} {N : Mx} (R : Nar n N) : nrw n N = N := nrw_idem R.one R.row R.tri
theorem ZAt.to {H : Hp} {p : Addr} {as : List Addr} {n : Nat} {M N : Mx} (z : ZAt H p as n M) (h : ∀ a b, a < n → b < n → M a b = N a b) : ZAt H p as n N :=
  ⟨z.top, z.len, fun i a e => by
    have hi := (List.getElem?_eq_some_iff.mp e).1
    rw [z.len] at hi
    rw [z.row i a e, zrow_congr fun b hb => h i b hi hb], z.nd⟩
/-- the bounds of the first n places alone -/
def cutM (n : Nat) (N : Mx) : Mx := fun i j => if i < n ∧ j < n then N i j else none
theorem cut_at {n i j : Nat} {N : Mx} (hi : i < n) (hj : j < n) : cutM n N i j = N i j := if_pos ⟨hi, hj⟩
theorem Nar.cut {n : Nat} {N : Mx} (R : Nar n N) : Nar n (cutM n N) :=
  ⟨fun k hk i j hi hj => by rw [cut_at hi hj, cut_at hi hk, cut_at hk hj]; exact R.tri k hk i j hi hj, fun i hi => by rw [cut_at hi hi]; exact R.one i hi, fun i hi => by rw [cut_at (by omega) hi]; exact R.row i hi⟩
theorem ZAt.cut {H : Hp} {p : Addr} {as : List Addr} {n : Nat} {N : Mx} (z : ZAt H p as n N) : ZAt H p as n (cutM n N) := z.to fun _ _ ha hb => (cut_at ha hb).symm
theorem lies_cut {n : Nat} {N : Mx} {v : Nat → Int × Int} : Lies n (cutM n N) v ↔ Lies n N v :=
  ⟨fun h i j hi hj => by have := h i j hi hj; rwa [cut_at hi hj] at this, fun h i j hi hj => by rw [cut_at hi hj]; exact h i j hi hj⟩
theorem cut_cut (n : Nat) (N : Mx) : cutM n (cutM n N) = cutM n N := by
  funext i j
  unfold cutM
  split <;> rfl
/-- the bounds grow by little -/
theorem nrw_sz2 {n s : Nat} {M : Mx} (h : ∀ i, i < n → Pos (nrw n M) i) (hs : 1 ≤ s) (sM : SzM s M) : SzM (s + 2 * n) (cutM n (nrw n M)) := by
  have key : ∀ K, K ≤ n → ∀ a b v, a < n → b < n → iter (thr n) K (iter diag1 n M) a b = some v → Sz (s + 2 * K) v := by
    intro K
    induction K with
    | zero => intro _ a b v _ _ e; exact diags_sz hs sM n a b v e
    | succ K ih =>
      intro hK a b v ha hb e
      have l : LeM (nrw n M) (iter (thr n) K (iter diag1 n M)) := by
        have := iter_le2 (thr_le n) (iter diag1 n M) (m := K) (n - K)
        rw [show K + (n - K) = n by omega] at this
        exact this
      have p : Pos (iter (thr n) K (iter diag1 n M)) K := leO_trans (h K (by omega)) (l K K)
      have ih := ih (by omega)
      have e : thr n K (iter (thr n) K (iter diag1 n M)) a b = some v := e
      rw [thr_eq p ha hb] at e
      refine narO_sz (s := s + 2 * (K + 1)) (fun w ew => (ih a b w ha hb ew).mono (by omega)) (fun w ew => ?_) e
      exact addO_sz (s := s + 2 * K) (fun x ex => ih a K x ha (by omega) ex) (fun x ex => ih K b x (by omega) hb ex) ew
  intro i j v e
  unfold cutM at e
  split at e
  · rename_i c
    exact key n (Nat.le_refl _) i j v c.1 c.2 e
  · cases e
/-- the closure of a narrow zone with a bound made narrower -/
def tightM (N : Mx) (j i : Nat) (c : Int) : Mx := fun a b => narO (N a b) (addO (addO (N a j) (some c)) (N i b))
theorem nar_le {x y z : Option Int} (h : leO x z ∨ leO y z) : leO (narO x y) z := by
  rcases h with h | h
  · exact leO_trans (narO_le1 x y) h
  · exact leO_trans (narO_le2 x y) h
theorem narO_cases (x y : Option Int) : narO x y = x ∨ narO x y = y := by
  cases x with
  | none => exact .inr rfl
  | some a =>
    cases y with
    | none => exact .inl rfl
    | some b =>
      show some (if b < a then b else a) = _ ∨ some (if b < a then b else a) = _
      split
      · exact .inr rfl
      · exact .inl rfl
section
variable {n i j : Nat} {N : Mx} {c : Int}
theorem tight_nar (R : Nar n N) (hi : i < n) (hj : j < n) (h : leO (some 1) (addO (N i j) (some c))) : Nar n (tightM N j i c) := by
  refine ⟨fun k hk a b ha hb => ?_, fun a ha => ?_, fun b hb => leO_trans (narO_le1 _ _) (R.row b hb)⟩
  · show leO (narO (N a b) (addO (addO (N a j) (some c)) (N i b))) (addO (narO (N a k) (addO (addO (N a j) (some c)) (N i k))) (narO (N k b) (addO (addO (N k j) (some c)) (N i b))))
    rcases narO_cases (N a k) (addO (addO (N a j) (some c)) (N i k)) with e1 | e1 <;> rcases narO_cases (N k b) (addO (addO (N k j) (some c)) (N i b)) with e2 | e2 <;> rw [e1, e2] <;> refine nar_le ?_
    · exact .inl (R.tri k hk a b ha hb)
    · right
      have h1 := addO_mono (addO_mono (R.tri k hk a j ha hj) (leO_refl (some c))) (leO_refl (N i b))
      simp only [addO_assoc] at h1 ⊢
      exact h1
    · right
      have h1 := addO_mono (leO_refl (addO (N a j) (some c))) (R.tri k hk i b hi hb)
      simp only [addO_assoc] at h1 ⊢
      exact h1
    · right
      have h1 := leO_trans h (addO_mono (R.tri k hk i j hi hj) (leO_refl (some c)))
      have h2 := addO_mono (leO_refl (addO (N a j) (some c))) (addO_mono h1 (leO_refl (N i b)))
      rw [one_addO] at h2
      simp only [addO_assoc] at h2 ⊢
      exact h2
  · show narO (N a a) _ = some 1
    rw [R.one a ha]
    refine narO_of_le ?_
    have h1 := leO_trans h (addO_mono (R.tri a ha i j hi hj) (leO_refl (some c)))
    rw [addO_comm (addO (N a j) (some c)), ← addO_assoc]
    exact h1
theorem tight_le (R : Nar n N) (hi : i < n) (hj : j < n) : LeM (tightM N j i c) (up2 N j i (narO (N j i) (some c))) := fun a b => by
  unfold up2
  split
  · rename_i e
    obtain ⟨rfl, rfl⟩ := e
    show leO (narO (N a b) (addO (addO (N a a) (some c)) (N b b))) _
    rw [R.one a hj, R.one b hi, one_addO, addO_one]
    exact leO_refl _
  · exact narO_le1 _ _
theorem tight_pos (R : Nar n N) (hi : i < n) (hj : j < n) (h : leO (some 1) (addO (N i j) (some c))) : ∀ k, k < n → Pos (nrw n (up2 N j i (narO (N j i) (some c)))) k := fun k hk => by
  have T := tight_nar R hi hj h
  have l := nrw_mono (n := n) (tight_le (c := c) R hi hj) k k
  rw [T.idem, T.one k hk] at l
  exact l
end
/-- a bound of so many times a number -/
def scB (t b : Int) : Int := 2 * (t * (b / 2)) + b % 2
def scO (t : Int) : Option Int → Option Int
  | none => none
  | some b => some (scB t b)
theorem scO_add (t : Int) : ∀ x y, addO (scO t x) (scO t y) = scO t (addO x y)
  | none, _ => rfl
  | some a, none => rfl
  | some a, some b => by
    show some _ = some _
    congr 1
    have d : ∀ x : Int, scB t x / 2 = t * (x / 2) := fun x => by unfold scB; omega
    have m : ∀ x : Int, scB t x % 2 = x % 2 := fun x => by unfold scB; omega
    rw [d, d, m, m]
    generalize hz : (if a % 2 = 1 ∧ b % 2 = 1 then (1 : Int) else 0) = z
    have hz2 : z = 0 ∨ z = 1 := by rw [← hz]; split <;> simp
    unfold scB
    rw [show (2 * (a / 2 + b / 2) + z) / 2 = a / 2 + b / 2 by omega, show (2 * (a / 2 + b / 2) + z) % 2 = z by omega, Int.mul_add t, Int.mul_add 2]
theorem scO_mono {t : Int} (ht : 1 ≤ t) : ∀ {x y}, leO x y → leO (scO t x) (scO t y)
  | x, none, _ => by cases x <;> trivial
  | none, some _, h => h.elim
  | some a, some b, h => by
    have h : a ≤ b := h
    show scB t a ≤ scB t b
    unfold scB
    by_cases c : a / 2 = b / 2
    · rw [c]; omega
    · have l : a / 2 + 1 ≤ b / 2 := by omega
      have m := Int.mul_le_mul_of_nonneg_left l (show 0 ≤ t by omega)
      rw [Int.mul_add, Int.mul_one] at m
      omega
theorem scO_one (t : Int) : scO t (some 1) = some 1 := by
  show some (scB t 1) = some 1
  unfold scB
  simp
def scM (t : Int) (N : Mx) : Mx := fun i j => scO t (N i j)
theorem sc_nar {n : Nat} {N : Mx} {t : Int} (ht : 1 ≤ t) (R : Nar n N) : Nar n (scM t N) :=
  ⟨fun k hk i j hi hj => by
    show leO (scO t (N i j)) (addO (scO t (N i k)) (scO t (N k j)))
    rw [scO_add]; exact scO_mono ht (R.tri k hk i j hi hj), fun i hi => by show scO t (N i i) = _; rw [R.one i hi, scO_one], fun i hi => by
    have := scO_mono ht (R.row i hi)
    rw [scO_one] at this; exact this⟩
theorem scR {t : Int} (ht : 1 ≤ t) {b : Option Int} {q : Rat} (h : letsR (scO t b) q) : letsR b (q / (t : Rat)) := by
  cases b with
  | none => trivial
  | some b =>
    have d : scB t b / 2 = t * (b / 2) := by unfold scB; omega
    have m : scB t b % 2 = b % 2 := by unfold scB; omega
    have h : q < ((scB t b / 2 : Int) : Rat) ∨ (q = ((scB t b / 2 : Int) : Rat) ∧ scB t b % 2 = 1) := h
    rw [d, m, Rat.intCast_mul] at h
    show q / (t : Rat) < ((b / 2 : Int) : Rat) ∨ (q / (t : Rat) = ((b / 2 : Int) : Rat) ∧ b % 2 = 1)
    have tp := castpos (u := t) (by omega)
    generalize ((b / 2 : Int) : Rat) = y at *
    generalize (t : Rat) = t at *
    rcases h with h | ⟨h, o⟩
    · left
      rw [Rat.div_lt_iff tp]
      grind
    · right
      exact ⟨by grind, o⟩
theorem sc_sz {s : Nat} {N : Mx} {t : Int} {w : Nat} (h : SzM s N) (ht : Sz w t) (hs : 2 ≤ s + w) : SzM (s + w + 2) (scM t N) := fun i j v e => by
  have e : scO t (N i j) = some v := e
  cases hN : N i j with
  | none => rw [hN] at e; cases e
  | some b =>
    rw [hN] at e
    cases Option.some.inj e
    have h1 : Sz s (b / 2) := Sz.le (j := b) (by omega) (h i j b hN)
    have h2 := ht.mul h1 (c := s + w) (by omega)
    have p : (2 : Nat) ^ (s + w + 2) = 2 ^ (s + w) * 4 := by rw [Nat.pow_add]
    have p0 : 0 < (2 : Nat) ^ (s + w) := Nat.pow_pos (by decide)
    unfold scB Sz at *
    rw [p]
    omega
theorem lets_nar {x y : Option Int} {t u : Int} (hu : 0 < u) : letsO (narO x y) t u = true ↔ letsO x t u = true ∧ letsO y t u = true := by
  constructor
  · intro h
    exact ⟨lets_mono hu (narO_le1 x y) h, lets_mono hu (narO_le2 x y) h⟩
  · rintro ⟨h, k⟩
    rcases narO_cases x y with e | e <;> rw [e] <;> assumption
theorem lies_up2 {n x y : Nat} {M : Mx} {v : Nat → Int × Int} {c : Int} (v0 : Vals0 n v) (hx : x < n) (hy : y < n) : Lies n (up2 M x y (narO (M x y) (some c))) v ↔ Lies n M v ∧ letsO (some c) (dif (v x) (v y)).1 (dif (v x) (v y)).2 = true := by
  have p := dif_pos (v0.pos x hx) (v0.pos y hy)
  constructor
  · intro h
    have h1 := h x y hx hy
    unfold up2 at h1
    rw [if_pos ⟨rfl, rfl⟩] at h1
    refine ⟨lies_of_le v0 (up2_le M x y _) h, ((lets_nar p).mp h1).2⟩
  · rintro ⟨h, k⟩ a b ha hb
    unfold up2
    split
    · rename_i e
      obtain ⟨rfl, rfl⟩ := e
      exact (lets_nar p).mpr ⟨h a b ha hb, k⟩
    · exact h a b ha hb
theorem look_lt {n : Int} {x : Int × Int} : letsO (some (2 * n)) (dif x (0, 1)).1 (dif x (0, 1)).2 = decide (x.1 < n * x.2) := by
  rw [Bool.eq_iff_iff, lets_iff, decide_eq_true_iff]
  simp only [dif, Int.mul_one, Int.zero_mul, Int.sub_zero]
  rw [show 2 * n / 2 = n by omega]
  omega
theorem look_le {n : Int} {x : Int × Int} : letsO (some (2 * n + 1)) (dif x (0, 1)).1 (dif x (0, 1)).2 = decide (x.1 ≤ n * x.2) := by
  rw [Bool.eq_iff_iff, lets_iff, decide_eq_true_iff]
  simp only [dif, Int.mul_one, Int.zero_mul, Int.sub_zero]
  rw [show (2 * n + 1) / 2 = n by omega]
  omega
theorem look_gt {n : Int} {x : Int × Int} : letsO (some (2 * (0 - n))) (dif (0, 1) x).1 (dif (0, 1) x).2 = decide (n * x.2 < x.1) := by
  rw [Bool.eq_iff_iff, lets_iff, decide_eq_true_iff]
  simp only [dif, Int.mul_one, Int.zero_mul, Int.one_mul]
  rw [show 2 * (0 - n) / 2 = 0 - n by omega, Int.sub_mul, Int.zero_mul]
  omega
theorem look_ge {n : Int} {x : Int × Int} : letsO (some (2 * (0 - n) + 1)) (dif (0, 1) x).1 (dif (0, 1) x).2 = decide (n * x.2 ≤ x.1) := by
  rw [Bool.eq_iff_iff, lets_iff, decide_eq_true_iff]
  simp only [dif, Int.mul_one, Int.zero_mul, Int.one_mul]
  rw [show (2 * (0 - n) + 1) / 2 = 0 - n by omega, Int.sub_mul, Int.zero_mul]
  omega
theorem lies_step {n : Nat} {M : Mx} {v : Nat → Int × Int} {l : Look} (v0 : Vals0 n v) (hl : l.1 + 1 < n) : Lies n (lookStep M l) v ↔ Lies n M v ∧ meetsL l (v (l.1 + 1)) = true := by
  obtain ⟨p, w, k⟩ := l
  have h0 : 0 < n := by omega
  cases w with
  | lt => exact (lies_up2 v0 hl h0).trans (by rw [v0.zero, look_lt]; exact Iff.rfl)
  | le => exact (lies_up2 v0 hl h0).trans (by rw [v0.zero, look_le]; exact Iff.rfl)
  | gt => exact (lies_up2 v0 h0 hl).trans (by rw [v0.zero, look_gt]; exact Iff.rfl)
  | ge => exact (lies_up2 v0 h0 hl).trans (by rw [v0.zero, look_ge]; exact Iff.rfl)
  | eq =>
    refine (lies_up2 v0 h0 hl).trans ?_
    rw [lies_up2 v0 hl h0, v0.zero, look_le, look_ge]
    show _ ↔ _ ∧ decide ((v (p + 1)).1 = k * (v (p + 1)).2) = true
    simp only [decide_eq_true_iff]
    constructor
    · rintro ⟨⟨a, b⟩, c⟩
      exact ⟨a, by omega⟩
    · rintro ⟨a, b⟩
      exact ⟨⟨a, by omega⟩, by omega⟩
theorem lies_look {n : Nat} {v : Nat → Int × Int} (v0 : Vals0 n v) : ∀ (ls : List Look) (M : Mx), (∀ l ∈ ls, l.1 + 1 < n) → (Lies n (lookM M ls) v ↔ Lies n M v ∧ ∀ l ∈ ls, meetsL l (v (l.1 + 1)) = true)
  | [], M, _ => by
    show Lies n M v ↔ _
    simp
  | l :: ls, M, h => by
    show Lies n (lookM (lookStep M l) ls) v ↔ _
    rw [lies_look v0 ls _ (fun x hx => h x (List.mem_cons_of_mem _ hx)), lies_step v0 (h l (List.mem_cons_self ..)), and_assoc]
    simp
theorem up2_sz1 {s : Nat} {M : Mx} {x y : Nat} {c : Int} (h : SzM s M) (hc : Sz s c) : SzM s (up2 M x y (narO (M x y) (some c))) := up2_sz h fun v e => narO_sz (fun v e => h x y v e) (fun v e => by cases e; exact hc) e
theorem step_sz {s z : Nat} {M : Mx} {l : Look} (h : SzM s M) (hl : Sz z l.2.2) (hs : z + 10 ≤ s) : SzM s (lookStep M l) := by
  obtain ⟨p, w, k⟩ := l
  have hk : Sz z k := hl
  have pw : 2 ^ (z + 2) = 2 ^ z * 2 * 2 := by rw [Nat.pow_succ, Nat.pow_succ]
  have p0 : 1 ≤ 2 ^ z := Nat.one_le_two_pow
  have big : ∀ c : Int, c.natAbs < 2 ^ z * 2 * 2 → Sz s c := fun c h => Sz.mono (a := z + 2) (by unfold Sz; rw [pw]; exact h) (by omega)
  unfold Sz at hk
  generalize 2 ^ z = P at *
  have a : Sz s (2 * k) := big _ (by omega)
  have b : Sz s (2 * k + 1) := big _ (by omega)
  have c : Sz s (2 * (0 - k)) := big _ (by omega)
  have d : Sz s (2 * (0 - k) + 1) := big _ (by omega)
  cases w with
  | lt => exact up2_sz1 h a
  | le => exact up2_sz1 h b
  | gt => exact up2_sz1 h c
  | ge => exact up2_sz1 h d
  | eq => exact up2_sz1 (up2_sz1 h b) d
theorem look_sz {s z : Nat} : ∀ (ls : List Look) (M : Mx), SzM s M → z + 10 ≤ s → (∀ l ∈ ls, Sz z l.2.2) → SzM s (lookM M ls)
  | [], M, h, _, _ => h
  | l :: ls, M, h, hs, hl => look_sz ls (lookStep M l) (step_sz h (hl l (List.mem_cons_self ..)) hs) hs (fun x hx => hl x (List.mem_cons_of_mem _ hx))
/-! ### waiting, putting back, freeing -/
theorem leO_none (x : Option Int) : leO x none := by cases x <;> trivial
def waitM (N : Mx) : Mx := fun a b => if 1 ≤ a ∧ b = 0 then none else N a b
def sg (p : Nat) (a : Nat) : Nat := if a = p then 0 else a
def putM (p : Nat) (N : Mx) : Mx := fun a b => N (sg p a) (sg p b)
def freeM (p : Nat) (N : Mx) : Mx := fun a b => if a = p ∧ b ≠ p then none else N a b
theorem sg_lt {p a n : Nat} (h : a < n) : sg p a < n := by unfold sg; split <;> omega
section
variable {n p : Nat} {N : Mx}
theorem wait_nar (R : Nar n N) : Nar n (waitM N) := by
  refine ⟨fun k hk a b ha hb => ?_, fun a ha => ?_, fun b hb => ?_⟩
  · have le : ∀ x y, leO (N x y) (waitM N x y) := fun x y => by unfold waitM; split; exact leO_none _; exact leO_refl _
    by_cases c : 1 ≤ a ∧ b = 0
    · have : waitM N a k = none ∨ waitM N k b = none := by
        by_cases d : k = 0
        · left; unfold waitM; rw [if_pos (by omega)]
        · right; unfold waitM; rw [if_pos (by omega)]
      rcases this with h | h <;> rw [h]
      · rw [none_addO]; exact leO_none _
      · rw [addO_none]; exact leO_none _
    · rw [show waitM N a b = N a b by unfold waitM; rw [if_neg c]]
      exact leO_trans (R.tri k hk a b ha hb) (addO_mono (le a k) (le k b))
  · unfold waitM; rw [if_neg (by omega)]; exact R.one a ha
  · unfold waitM; rw [if_neg (by omega)]; exact R.row b hb
theorem put_nar (R : Nar n N) (hn : 0 < n) : Nar n (putM p N) :=
  ⟨fun k hk a b ha hb => R.tri _ (sg_lt hk) _ _ (sg_lt ha) (sg_lt hb), fun a ha => R.one _ (sg_lt ha), fun b hb => by
    show leO (N (sg p 0) (sg p b)) _
    rw [show sg p 0 = 0 by unfold sg; split <;> omega]
    exact R.row _ (sg_lt hb)⟩
theorem free_nar (R : Nar n N) (hp : p ≠ 0) : Nar n (freeM p N) := by
  refine ⟨fun k hk a b ha hb => ?_, fun a ha => ?_, fun b hb => ?_⟩
  · have le : ∀ x y, leO (N x y) (freeM p N x y) := fun x y => by unfold freeM; split; exact leO_none _; exact leO_refl _
    by_cases c : a = p ∧ b ≠ p
    · have : freeM p N a k = none ∨ freeM p N k b = none := by
        by_cases d : k = p
        · right; unfold freeM; rw [if_pos (by omega)]
        · left; unfold freeM; rw [if_pos (by omega)]
      rcases this with h | h <;> rw [h]
      · rw [none_addO]; exact leO_none _
      · rw [addO_none]; exact leO_none _
    · rw [show freeM p N a b = N a b by unfold freeM; rw [if_neg c]]
      exact leO_trans (R.tri k hk a b ha hb) (addO_mono (le a k) (le k b))
  · unfold freeM; rw [if_neg (by omega)]; exact R.one a ha
  · unfold freeM; rw [if_neg (by omega)]; exact R.row b hb
end
theorem letsR_down {b : Option Int} {x y : Rat} (h : letsR b x) (l : y ≤ x) : letsR b y := by
  cases b with
  | none => trivial
  | some b =>
    by_cases c : y = x
    · rw [c]; exact h
    · left
      have : y < x := by grind
      rcases h with h | ⟨h, _⟩ <;> grind
/-- values as rational numbers that lie in a zone -/
def LiesR (n : Nat) (M : Mx) (v : Nat → Rat) : Prop := ∀ i j, i < n → j < n → letsR (M i j) (v i - v j)
theorem wait_lies {n : Nat} {N : Mx} {v u : Nat → Rat} {t : Rat} (h : LiesR n N v) (ht : 0 ≤ t) (v0 : v 0 = 0) (u0 : u 0 = 0) (hu : ∀ i, i < n → i ≠ 0 → u i = v i + t) : LiesR n (waitM N) u := fun i j hi hj => by
  unfold waitM
  split
  · trivial
  · rename_i c
    have hij := h i j hi hj
    by_cases ci : i = 0
    · by_cases cj : j = 0
      · subst ci; subst cj
        rw [u0]; rw [v0] at hij; exact hij
      · refine letsR_down hij ?_
        rw [ci, u0, v0, hu j hj cj]; grind
    · have cj : j ≠ 0 := by omega
      refine letsR_down hij ?_
      rw [hu i hi ci, hu j hj cj]; grind
theorem put_lies {n p : Nat} {N : Mx} {v u : Nat → Rat} (h : LiesR n N v) (hu : ∀ i, i < n → u i = v (sg p i)) : LiesR n (putM p N) u := fun i j hi hj => by
  rw [hu i hi, hu j hj]
  exact h _ _ (sg_lt hi) (sg_lt hj)
theorem free_lies {n p : Nat} {N : Mx} {v u : Nat → Rat} {t : Rat} (h : LiesR n N v) (ht : 0 ≤ t) (hp : u p = v p + t) (hu : ∀ i, i < n → i ≠ p → u i = v i) : LiesR n (freeM p N) u := fun i j hi hj => by
  unfold freeM
  split
  · trivial
  · rename_i c
    have hij := h i j hi hj
    refine letsR_down hij ?_
    by_cases ci : i = p
    · have cj : j = p := by omega
      rw [ci, cj]; grind
    · by_cases cj : j = p
      · rw [cj, hu i hi ci, hp]; grind
      · rw [hu i hi ci, hu j hj cj]; grind
/-- a low and a high with their sharpness meet -/
def meetR (x : Rat) (s : Bool) (y : Rat) (o : Bool) : Prop := x < y ∨ (x = y ∧ s = false ∧ o = false)
theorem meet_pair {a b : Int} {x y : Rat} (h : x - ((a / 2 : Int) : Rat) < y + ((b / 2 : Int) : Rat) ∨ (x - ((a / 2 : Int) : Rat) = y + ((b / 2 : Int) : Rat) ∧ a % 2 = 1 ∧ b % 2 = 1)) :
    meetR (x - ((a / 2 : Int) : Rat)) (decide (a % 2 = 0)) (y + ((b / 2 : Int) : Rat)) (decide (b % 2 = 0)) := by
  rcases h with h | ⟨h, p, q⟩
  · exact .inl h
  · exact .inr ⟨h, decide_eq_false (by omega), decide_eq_false (by omega)⟩
theorem wait_sz {s : Nat} {N : Mx} (h : SzM s N) : SzM s (waitM N) := fun i j v e => by
  unfold waitM at e
  split at e
  · cases e
  · exact h i j v e
theorem put_sz {s p : Nat} {N : Mx} (h : SzM s N) : SzM s (putM p N) := fun i j v e => h _ _ v e
theorem free_sz {s p : Nat} {N : Mx} (h : SzM s N) : SzM s (freeM p N) := fun i j v e => by
  unfold freeM at e
  split at e
  · cases e
  · exact h i j v e
theorem sg_sg {p o a : Nat} : sg p (sg o (sg p a)) = sg p (sg o a) := by
  unfold sg
  by_cases c : a = p
  · rw [if_pos c]
    by_cases d : p = o
    · subst d; simp [c]
    · have : ¬ a = o := fun z => d (by rw [← c, z])
      rw [if_neg this, if_pos c]
      by_cases e : (0 : Nat) = o
      · rw [if_pos e]; split <;> rfl
      · rw [if_neg e]; split <;> rfl
  · rw [if_neg c]
def MsOk (ms : List (Option Int)) : Prop := ∀ q, some q ∈ ms → 0 ≤ q ∧ Sz 250 q
/-! ### looks, guards, rooms, doors, machines on the heap -/
theorem tFor_str {te : TE} {g : TG} {tb : TS} {D : Ends} {σ : L2.St} {H : Hp} (h : te σ H fun x H1 => ∃ z : Str, x = .str z ∧ ∃ Pv : Nat → L2.St → Hp → Prop, Pv 0 σ H1 ∧
    (∀ i σ H c, z.cps.toList[i]? = some c → Pv i σ H → g (.str ⟨#[c]⟩) σ H fun σ2 H2 => tb { D with nx := Pv (i + 1), ct := Pv (i + 1), bk := D.nx } σ2 H2) ∧ ∀ σ H, Pv z.cps.toList.length σ H → D.nx σ H) (mono : ∀ (Q R : VK), (∀ v H, Q v H → R v H) → te σ H Q → te σ H R) : tFor (iStr te) g tb D σ H := by
  refine mono _ _ (fun v H1 ⟨z, hz, Pv, h0, hs, hd⟩ => ⟨z, hz, fun i m σ H => m = z.cps.toList.length - i ∧ i ≤ z.cps.toList.length ∧ Pv i σ H, ⟨_, rfl, Nat.zero_le _, h0⟩, ?_⟩) h
  rintro i m σ H ⟨rfl, hi, p⟩
  rw [Array.length_toList] at hi
  by_cases c : i < z.cps.size
  · refine .inr ⟨c, Pv (i + 1), fun σ' H' p' => ⟨z.cps.toList.length - (i + 1), by rw [Array.length_toList]; omega, rfl, by rw [Array.length_toList]; omega, p'⟩, ?_⟩
    rintro x H' ⟨rfl, c, hc, rfl⟩
    exact hs i σ H' c (by rw [Array.getElem?_toList]; exact hc) p
  · have e : i = z.cps.toList.length := by rw [Array.length_toList]; omega
    exact .inl ⟨by show z.cps.size ≤ i; omega, hd σ H (e ▸ p)⟩
/-- a text's look by its signs: one to most of some signs -/
def okT (x signs : Str) (most : Int) : Bool := decide (1 ≤ (x.length : Int)) && decide ((x.length : Int) ≤ most) && x.cps.toList.all fun c => decide (c ∈ signs.cps.toList)
abbrev letters : Str := "abcdefghijklmnopqrstuvwxyz"
def okName (x : Str) : Bool := okT x letters 8
def okWatch (x : Str) : Bool := decide (x = "/") || okName x
def okSign (x : Str) : Bool := decide (x = "") || (match x.cps.toList.getLast? with | some c => decide (c ∈ ("!?" : Str).cps.toList) && okName (cutS x none (some (-1))) | none => false)
/-- a look as it is told: a watch, a word, some value -/
abbrev Lq := Str × Str × V
/-- flat values with their kind -/
def kindV : V → Option String
  | .non => some "NoneType"
  | .bl _ => some "bool"
  | .int _ => some "int"
  | .str _ => some "str"
  | _ => none
def numOk : V → Bool
  | .int n => decide (0 ≤ n)
  | _ => false
def lookOk (ws watches : List Str) (l : Lq) : Bool := decide (l.1 ∈ watches) && decide (l.2.1 ∈ ws) && numOk l.2.2
def lookD : V → PyData
  | .bl b => .bool b
  | .int i => .int i
  | .str x => .str x
  | _ => .none
def LqAt (H : Hp) (q : Addr) (l : Lq) : Prop := H q = some (.tup [.str l.1, .str l.2.1, l.2.2]) ∧ (kindV l.2.2).isSome = true
/-- a list of things at new or old addresses -/
def SeqOf {α : Type} (R : Hp → Addr → α → Prop) (H : Hp) (p : Addr) (xs : List α) : Prop := ∃ qs : List Addr, H p = some (.lst (qs.map V.ref)) ∧ qs.length = xs.length ∧ ∀ (i : Nat) (q : Addr) (x : α), qs[i]? = some q → xs[i]? = some x → R H q x
theorem SeqOf.keep {α : Type} {R : Hp → Addr → α → Prop} {H H' : Hp} {p : Addr} {xs : List α} (k : ∀ q x, R H q x → R H' q x) (s : Same H H') (h : SeqOf R H p xs) : SeqOf R H' p xs := by
  obtain ⟨qs, a, b, c⟩ := h
  exact ⟨qs, s _ _ a, b, fun i q x h1 h2 => k q x (c i q x h1 h2)⟩
theorem LqAt.keep {H H' : Hp} {q : Addr} {l : Lq} (s : Same H H') (h : LqAt H q l) : LqAt H' q l := ⟨s _ _ h.1, h.2⟩
abbrev LsAt (H : Hp) (p : Addr) (ls : List Lq) : Prop := SeqOf LqAt H p ls
theorem LsAt.keep {H H' : Hp} {p : Addr} {ls : List Lq} (h : LsAt H p ls) (s : Same H H') : LsAt H' p ls := SeqOf.keep (fun _ _ => LqAt.keep s) s h
/-- a room with its stay; a mark -/
abbrev Rq := Str × List Lq
def RqAt (H : Hp) (q : Addr) (r : Rq) : Prop := ∃ g, H q = some (.tup [.str r.1, .ref g]) ∧ LsAt H g r.2
theorem RqAt.keep {H H' : Hp} {q : Addr} {r : Rq} (s : Same H H') (h : RqAt H q r) : RqAt H' q r := by
  obtain ⟨g, a, b⟩ := h
  exact ⟨g, s _ _ a, b.keep s⟩
abbrev RsAt (H : Hp) (p : Addr) (rs : List Rq) : Prop := SeqOf RqAt H p rs
theorem RsAt.keep {H H' : Hp} {p : Addr} {rs : List Rq} (h : RsAt H p rs) (s : Same H H') : RsAt H' p rs := SeqOf.keep (fun _ _ => RqAt.keep s) s h
structure DoorD where
  st : Str
  en : Str
  sg : Str
  looks : List Lq
  backs : List Str
def doorF (st en sg : Str) (g n : Addr) : List (Str × V) := putF "backs" (.ref n) (putF "looks" (.ref g) (putF "sign" (.str sg) (putF "end" (.str en) (putF "start" (.str st) []))))
def DoorAt (C : Addr) (H : Hp) (p : Addr) (d : DoorD) : Prop := ∃ dx g n, H p = some (.ins C dx (doorF d.st d.en d.sg g n)) ∧ LsAt H g d.looks ∧ H n = some (.lst (d.backs.map V.str))
theorem DoorAt.keep {C : Addr} {H H' : Hp} {p : Addr} {d : DoorD} (s : Same H H') (h : DoorAt C H p d) : DoorAt C H' p d := by
  obtain ⟨dx, g, n, a, b, c⟩ := h
  exact ⟨dx, g, n, s _ _ a, b.keep s, s _ _ c⟩
abbrev DsAt (C : Addr) (H : Hp) (p : Addr) (ds : List DoorD) : Prop := SeqOf (DoorAt C) H p ds
theorem DsAt.keep {C : Addr} {H H' : Hp} {p : Addr} {ds : List DoorD} (h : DsAt C H p ds) (s : Same H H') : DsAt C H' p ds := SeqOf.keep (fun _ _ => DoorAt.keep s) s h
local macro_rules | `(tactic| walk_at "lk") => `(tactic| repeat (first | rw [lookup_putF, if_pos rfl] | rw [lookup_putF, if_neg (by decide +kernel)]))
section
variable {st en sg : Str} {g n : Addr}
theorem door_start : (doorF st en sg g n).lookup ("start" : Str) = some (V.str st) := by unfold doorF; walk_at "lk"
theorem door_end : (doorF st en sg g n).lookup ("end" : Str) = some (V.str en) := by unfold doorF; walk_at "lk"
theorem door_sign : (doorF st en sg g n).lookup ("sign" : Str) = some (V.str sg) := by unfold doorF; walk_at "lk"
theorem door_looks : (doorF st en sg g n).lookup ("looks" : Str) = some (V.ref g) := by unfold doorF; walk_at "lk"
theorem door_backs : (doorF st en sg g n).lookup ("backs" : Str) = some (V.ref n) := by unfold doorF; walk_at "lk"
theorem door_no {m : Str} (h1 : ¬ m = "start") (h2 : ¬ m = "end") (h3 : ¬ m = "sign") (h4 : ¬ m = "looks") (h5 : ¬ m = "backs") : (doorF st en sg g n).lookup m = none := by
  unfold doorF
  rw [lookup_putF, if_neg h5, lookup_putF, if_neg h4, lookup_putF, if_neg h3, lookup_putF, if_neg h2, lookup_putF, if_neg h1]; rfl
end
structure MachD where
  watches : List Str
  rooms : List Rq
  doors : List DoorD
def machF (wn rn sl dl : Addr) : List (Str × V) := putF "door_list" (.ref dl) (putF "stay_looks" (.ref sl) (putF "room_names" (.ref rn) (putF "watch_names" (.ref wn) [])))
def MachAt (CM CD : Addr) (H : Hp) (p : Addr) (M : MachD) : Prop := ∃ dx wn rn sl dl, H p = some (.ins CM dx (machF wn rn sl dl)) ∧ H wn = some (.lst (M.watches.map V.str)) ∧ H rn = some (.lst ((M.rooms.map (·.1)).map V.str)) ∧ SeqOf LsAt H sl (M.rooms.map (·.2)) ∧ DsAt CD H dl M.doors
theorem MachAt.keep {CM CD : Addr} {H H' : Hp} {p : Addr} {M : MachD} (s : Same H H') (h : MachAt CM CD H p M) : MachAt CM CD H' p M := by
  obtain ⟨dx, wn, rn, sl, dl, a, b, c, d, e⟩ := h
  exact ⟨dx, wn, rn, sl, dl, s _ _ a, s _ _ b, s _ _ c, SeqOf.keep (fun _ _ h => LsAt.keep h s) s d, e.keep s⟩
section
variable {wn rn sl dl : Addr}
theorem mach_watch : (machF wn rn sl dl).lookup ("watch_names" : Str) = some (V.ref wn) := by unfold machF; walk_at "lk"
theorem mach_room : (machF wn rn sl dl).lookup ("room_names" : Str) = some (V.ref rn) := by unfold machF; walk_at "lk"
theorem mach_stay : (machF wn rn sl dl).lookup ("stay_looks" : Str) = some (V.ref sl) := by unfold machF; walk_at "lk"
theorem mach_door : (machF wn rn sl dl).lookup ("door_list" : Str) = some (V.ref dl) := by unfold machF; walk_at "lk"
theorem mach_no {m : Str} (h1 : ¬ m = "watch_names") (h2 : ¬ m = "room_names") (h3 : ¬ m = "stay_looks") (h4 : ¬ m = "door_list") : (machF wn rn sl dl).lookup m = none := by
  unfold machF
  rw [lookup_putF, if_neg h4, lookup_putF, if_neg h3, lookup_putF, if_neg h2, lookup_putF, if_neg h1]; rfl
end
def guardOk (ws watches : List Str) (ls : List Lq) : Bool := ls.all (lookOk ws watches)
def roomOk (watches : List Str) (r : Rq) : Bool := okT r.1 (letters ++ ("/" : Str)) 60 && guardOk ["<", "<="] watches r.2
def doorOk (watches names : List Str) (d : DoorD) : Bool :=
  okSign d.sg && decide (d.st ∈ names) && decide (d.en ∈ names) && guardOk ["<", "<=", ">", ">=", "="] watches d.looks && d.backs.all (fun b => decide (b ∈ watches)) && decide d.backs.Nodup
theorem inV_str {a : Str} {xs : List Str} : inV (.str a) (xs.map V.str) = decide (a ∈ xs) := by
  unfold inV
  rw [List.any_map, Bool.eq_iff_iff, List.any_eq_true, decide_eq_true_iff]
  constructor
  · rintro ⟨y, hy, e⟩
    have : y = a := by simpa [eqV] using e
    exact this ▸ hy
  · intro h
    exact ⟨a, h, by simp [eqV]⟩
theorem flat_of {xs : List Str} : (xs.map V.str).all flatV = true := L2.flat_strs xs
theorem ty_kind {K : PySem.W.Frag} {H : Hp} {v : V} (h : (kindV v).isSome = true) : ∃ t, t ∈ kinds ∧ TyX K H v (.type t) ∧ (t = "int" ↔ ∃ n, v = .int n) := by
  cases v with
  | non => exact ⟨_, by decide, .base .non, by simp⟩
  | bl b => exact ⟨_, by decide, .base (.bl b), by simp⟩
  | int i => exact ⟨_, by decide, .base (.int i), by simp⟩
  | str x => exact ⟨_, by decide, .base (.str x), by simp⟩
  | _ => cases h
def pick {α : Type} (ls : List α) (g : α → V) (d : V) (i : Nat) : V := match ls[i]? with | some l => g l | none => d
theorem pick_at {α : Type} {ls : List α} {g : α → V} {d : V} {i : Nat} {l : α} (h : ls[i]? = some l) : pick ls g d i = g l := by unfold pick; rw [h]
theorem range_map {α : Type} (ls : List α) (g : α → V) (d : V) : (List.range ls.length).map (pick ls g d) = ls.map g := by
  refine List.ext_getElem? fun k => ?_
  rw [List.getElem?_map, List.getElem?_map]
  by_cases h : k < ls.length
  · rw [List.getElem?_range h, List.getElem?_eq_getElem h]
    exact congrArg some (pick_at (List.getElem?_eq_getElem h))
  · rw [List.getElem?_eq_none (by rw [List.length_range]; omega), List.getElem?_eq_none (by omega)]; rfl
/-! ### looks and rooms as data -/
def ldat (l : Lq) : PyData := .tuple [.str l.1, .str l.2.1, lookD l.2.2]
def rdat (r : Rq) : PyData := .tuple [.str r.1, .list (r.2.map ldat)]
def TxOk (x : Str) : Prop := PyData.canLay0 (.str x) = true
def LqOk (l : Lq) : Prop := TxOk l.1 ∧ TxOk l.2.1 ∧ PyData.canLay0 (lookD l.2.2) = true
def RqOk (r : Rq) : Prop := TxOk r.1 ∧ ∀ l ∈ r.2, LqOk l
theorem lay_listM {ds : List PyData} {k : Nat} (h : ∀ d ∈ ds, d.canLay0 = true ∧ d.depth ≤ k) : (PyData.list ds).canLay0 = true ∧ (PyData.list ds).depth ≤ k + 1 := by
  have key : ∀ ds : List PyData, (∀ d ∈ ds, d.canLay0 = true ∧ d.depth ≤ k) → PyData.canLayAll0 ds = true ∧ PyData.depthAll ds ≤ k := by
    intro ds
    induction ds with
    | nil => intro _; exact ⟨rfl, Nat.zero_le _⟩
    | cons d ds ih =>
      intro h
      have h1 := h d (List.mem_cons_self ..)
      have h2 := ih fun x hx => h x (List.mem_cons_of_mem _ hx)
      refine ⟨by show (d.canLay0 && PyData.canLayAll0 ds) = true; rw [h1.1, h2.1]; rfl, ?_⟩
      show max d.depth (PyData.depthAll ds) ≤ k
      omega
  have z := key ds h
  exact ⟨z.1, by show PyData.depthAll ds + 1 ≤ k + 1; omega⟩
theorem lay_tup {ds : List PyData} {k : Nat} (h : ∀ d ∈ ds, d.canLay0 = true ∧ d.depth ≤ k) : (PyData.tuple ds).canLay0 = true ∧ (PyData.tuple ds).depth ≤ k + 1 := lay_listM h
theorem lay_flat {v : V} (h : PyData.canLay0 (lookD v) = true) : (lookD v).canLay0 = true ∧ (lookD v).depth ≤ 1 := ⟨h, by cases v <;> exact Nat.zero_le _⟩
theorem lay_str {x : Str} (h : TxOk x) : (PyData.str x).canLay0 = true ∧ (PyData.str x).depth ≤ 1 := ⟨h, Nat.zero_le _⟩
theorem lay_ldat {l : Lq} (h : LqOk l) : (ldat l).canLay0 = true ∧ (ldat l).depth ≤ 2 := lay_tup (k := 1) fun d hd => by
  simp only [List.mem_cons, List.not_mem_nil, or_false] at hd
  rcases hd with rfl | rfl | rfl
  · exact lay_str h.1
  · exact lay_str h.2.1
  · exact lay_flat h.2.2
theorem lay_ldats {ls : List Lq} (h : ∀ l ∈ ls, LqOk l) : (PyData.list (ls.map ldat)).canLay0 = true ∧ (PyData.list (ls.map ldat)).depth ≤ 3 := lay_listM fun d hd => by
  obtain ⟨l, hl, rfl⟩ := List.mem_map.mp hd
  exact lay_ldat (h l hl)
theorem lay_rdat {r : Rq} (h : RqOk r) : (rdat r).canLay0 = true ∧ (rdat r).depth ≤ 4 := lay_tup (k := 3) fun d hd => by
  simp only [List.mem_cons, List.not_mem_nil, or_false] at hd
  rcases hd with rfl | rfl
  · exact ⟨(lay_str h.1).1, Nat.le_trans (lay_str h.1).2 (by decide)⟩
  · exact lay_ldats h.2
theorem lay_rdats {rs : List Rq} (h : ∀ r ∈ rs, RqOk r) : (PyData.list (rs.map rdat)).canLay0 = true ∧ (PyData.list (rs.map rdat)).depth ≤ 5 := lay_listM fun d hd => by
  obtain ⟨l, hl, rfl⟩ := List.mem_map.mp hd
  exact lay_rdat (h l hl)
theorem shaped_ls {ls : List Lq} (h : ∀ l ∈ ls, LqOk l) : SeqAt.shaped (.list (ls.map ldat)) = true := Bool.and_eq_true_iff.mpr ⟨(lay_ldats h).1, decide_eq_true (by have := (lay_ldats h).2; omega)⟩
theorem shaped_rs {rs : List Rq} (h : ∀ r ∈ rs, RqOk r) : SeqAt.shaped (.list (rs.map rdat)) = true := Bool.and_eq_true_iff.mpr ⟨(lay_rdats h).1, decide_eq_true (by have := (lay_rdats h).2; omega)⟩
theorem shaped_xs {xs : List Str} (h : ∀ x ∈ xs, TxOk x) : SeqAt.shaped (.list (xs.map PyData.str)) = true := shaped_list fun d hd => by
  obtain ⟨x, hx, rfl⟩ := List.mem_map.mp hd
  exact ⟨h x hx, Nat.zero_le _⟩
section
variable {K : PySem.W.Frag} {H : Hp} {p : Addr}
theorem dp_flat {v : V} (h : (kindV v).isSome = true) : Dp K H v (lookD v) := by
  cases v with
  | non => exact .non
  | bl b => exact .bl b
  | int i => exact .int i
  | str x => exact .str x
  | _ => cases h
theorem dp_seq {α : Type} {R : Hp → Addr → α → Prop} {g : α → PyData} (k : ∀ q x, R H q x → Dp K H (.ref q) (g x)) {xs : List α} (h : SeqOf R H p xs) : Dp K H (.ref p) (.list (xs.map g)) := by
  obtain ⟨qs, a, b, c⟩ := h
  refine .lst (.of a) (dpall_of (by simp [b]) fun i v d h1 h2 => ?_)
  rw [List.getElem?_map] at h1 h2
  obtain ⟨q, hq, rfl⟩ := Option.map_eq_some_iff.mp h1
  obtain ⟨x, hx, rfl⟩ := Option.map_eq_some_iff.mp h2
  exact k q x (c i q x hq hx)
theorem dp_ls {ls : List Lq} (h : LsAt H p ls) : Dp K H (.ref p) (.list (ls.map ldat)) := dp_seq (fun q l h => .tup (.of h.1) (.cons (.str _) (.cons (.str _) (.cons (dp_flat h.2) .nil)))) h
theorem dp_rs {rs : List Rq} (h : RsAt H p rs) : Dp K H (.ref p) (.list (rs.map rdat)) := dp_seq (fun q r ⟨g, h1, h2⟩ => .tup (.of h1) (.cons (.str _) (.cons (dp_ls h2) .nil))) h
end
theorem ints_dp {K : PySem.W.Frag} {H : Hp} {p : Addr} {xs : List Int} (h : H p = some (.lst (xs.map V.int))) : Dp K H (.ref p) (.list (xs.map PyData.int)) :=
  .lst (.of h) (dpall_of (by simp) fun k v d h1 h2 => by
    rw [List.getElem?_map] at h1 h2
    obtain ⟨x, hx, rfl⟩ := Option.map_eq_some_iff.mp h1
    rw [hx] at h2; cases h2
    exact .int x)
theorem lay_ints (xs : List Int) : (PyData.list (xs.map PyData.int)).canLay0 = true ∧ (PyData.list (xs.map PyData.int)).depth ≤ 2 := lay_listM fun d hd => by
  obtain ⟨x, _, rfl⟩ := List.mem_map.mp hd
  exact ⟨rfl, Nat.zero_le _⟩
theorem shaped_ints (xs : List Int) : SeqAt.shaped (.list (xs.map PyData.int)) = true := Bool.and_eq_true_iff.mpr ⟨(lay_ints xs).1, decide_eq_true (by have := (lay_ints xs).2; omega)⟩
/-! ### comprehensions over a list: any target, a test, new objects -/
def LcG (K : PySem.W.Frag) (a : Addr) (g : TG) (tt : TT) (te : TE) (vs : List Nat) (σ : L2.St) (H1 : Hp) (Q : VK) : Prop := ∀ D, H1 D = none → ∃ W : Nat → Nat → Hp → Prop, (∃ m, W 0 m (upd H1 D (.lst []))) ∧ ∀ i m H, W i m H →
  ((Itl K a).stop i H ∧ Q (.ref D) H) ∨ ((Itl K a).go i H ∧ ∃ Nx : Hp → Prop, (∀ H', Nx H' → ∃ m', m' < m ∧ W (i + 1) m' H') ∧ ∀ x H', (Itl K a).yld i H x H' → g x (wipe σ vs) H' fun σ2 H2 => wipe σ2 vs = wipe σ vs ∧ tt σ2 H2 fun b H3 =>
    if b = true then te σ2 H3 fun y H4 => ∃ acc, H4 D = some (.lst acc) ∧ acc.length < sizeLine ∧ Nx (upd H4 D (.lst (acc ++ [y]))) else Nx H3)
theorem lcg_src {K : PySem.W.Frag} {ts te : TE} {g : TG} {tt : TT} {vs : List Nat} {σ : L2.St} {H : Hp} {Q : VK} (h : ts σ H fun x H1 => ∃ a, x = .ref a ∧ (∃ xs, SqL K H1 a xs) ∧ LcG K a g tt te vs σ H1 Q) : tLc (iList K ts) g tt te vs σ H Q := h
/-- H3 without what is new between H and H2 -/
noncomputable def cutH (H H2 H3 : Hp) : Hp := open Classical in fun b => if H b = none ∧ H2 b ≠ none then none else H3 b
theorem cut_same {H H2 H3 : Hp} (s : Same H H3) : Same H (cutH H H2 H3) := fun b o e => by
  unfold cutH; rw [if_neg (fun z => by rw [e] at z; cases z.1)]; exact s _ _ e
theorem cut_new {H H2 H3 : Hp} {r : Addr} {o : HO} (f : H2 r = none) (e : H3 r = some o) : cutH H H2 H3 r = some o := by
  unfold cutH; rw [if_neg (fun z => z.2 f)]; exact e
theorem cut_sub {H H2 H3 : Hp} : Same (cutH H H2 H3) H3 := fun b o e => by
  unfold cutH at e; split at e
  · cases e
  · exact e
open Classical in
noncomputable def delH (D : Addr) (H : Hp) : Hp := fun b => if b = D then none else H b
theorem del_at {D : Addr} {H : Hp} {b : Addr} {o : HO} (n : b ≠ D) (e : H b = some o) : delH D H b = some o := by unfold delH; rw [if_neg n]; exact e
theorem del_of {D : Addr} {H : Hp} {b : Addr} {o : HO} (e : delH D H b = some o) : b ≠ D ∧ H b = some o := by
  unfold delH at e
  by_cases h : b = D
  · rw [if_pos h] at e; cases e
  · rw [if_neg h] at e; exact ⟨h, e⟩
theorem cut_del {D : Addr} {H H2 H3 : Hp} {o : HO} (f : H D = none) (e : H2 D = some o) : Same (cutH H H2 H3) (delH D H3) := fun b o' h => by
  have hb : b ≠ D := fun z => by
    unfold cutH at h
    rw [z, if_pos ⟨f, by rw [e]; simp⟩] at h
    cases h
  exact del_at hb (cut_sub _ _ h)
def SeqV {α : Type} (R : Hp → V → α → Prop) (H : Hp) (p : Addr) (xs : List α) : Prop := ∃ ys : List V, H p = some (.lst ys) ∧ ys.length = xs.length ∧ ∀ (i : Nat) (y : V) (x : α), ys[i]? = some y → xs[i]? = some x → R H y x
/-- a list of new things that is still being made: what they are stands without it -/
def SeqD {α : Type} (R : Hp → Addr → α → Prop) (H : Hp) (p : Addr) (xs : List α) : Prop := ∃ qs : List Addr, H p = some (.lst (qs.map V.ref)) ∧ qs.length = xs.length ∧ ∀ (i : Nat) (q : Addr) (x : α), qs[i]? = some q → xs[i]? = some x → R (delH p H) q x
theorem del_same {p : Addr} {H H' : Hp} (s : Same H H') : Same (delH p H) (delH p H') := fun b o e => by
  have := del_of e
  exact del_at this.1 (s _ _ this.2)
theorem del_sub {p : Addr} {H : Hp} : Same (delH p H) H := fun b o e => (del_of e).2
theorem del_upd {p : Addr} {H : Hp} {o : HO} : Same (delH p H) (delH p (upd H p o)) := fun b o' e => by
  have := del_of e
  exact del_at this.1 (by rw [upd_ne this.1]; exact this.2)
section
variable {α : Type} {R : Hp → Addr → α → Prop} {H H' : Hp} {p : Addr} {xs : List α}
theorem SeqD.keep (k : ∀ H H' q x, Same H H' → R H q x → R H' q x) (s : Same H H') (h : SeqD R H p xs) : SeqD R H' p xs := by
  obtain ⟨qs, a, b, c⟩ := h
  exact ⟨qs, s _ _ a, b, fun i q x h1 h2 => k _ _ q x (del_same s) (c i q x h1 h2)⟩
theorem SeqD.seq (k : ∀ H H' q x, Same H H' → R H q x → R H' q x) (h : SeqD R H p xs) : SeqOf R H p xs := by
  obtain ⟨qs, a, b, c⟩ := h
  exact ⟨qs, a, b, fun i q x h1 h2 => k _ _ q x del_sub (c i q x h1 h2)⟩
theorem SeqD.nil (e : H p = some (.lst [])) : SeqD R H p [] := ⟨[], e, rfl, fun i q x h => by simp at h⟩
theorem SeqD.app (k : ∀ H H' q x, Same H H' → R H q x → R H' q x) (h : SeqD R H p xs) {q : Addr} {x : α} (hq : R (delH p H) q x) : ∃ items, H p = some (.lst items) ∧ items.length = xs.length ∧ SeqD R (upd H p (.lst (items ++ [.ref q]))) p (xs ++ [x]) := by
  obtain ⟨qs, a, b, c⟩ := h
  refine ⟨_, a, by rw [List.length_map]; exact b, qs ++ [q], by rw [upd_same, List.map_append]; rfl, by simp [b], fun i q' x' h1 h2 => ?_⟩
  refine k _ _ _ _ del_upd ?_
  by_cases c1 : i < qs.length
  · rw [List.getElem?_append_left c1] at h1
    rw [List.getElem?_append_left (by omega)] at h2
    exact c i q' x' h1 h2
  · have hlt := (List.getElem?_eq_some_iff.mp h1).1
    rw [List.length_append, List.length_singleton] at hlt
    obtain rfl : i = qs.length := by omega
    rw [List.getElem?_append_right (Nat.le_refl _), Nat.sub_self] at h1
    rw [b, List.getElem?_append_right (Nat.le_refl _), Nat.sub_self] at h2
    have a1 : q = q' := by simpa using h1
    have a2 : x = x' := by simpa using h2
    subst a1; subst a2
    exact hq
end
def SeqVD {α : Type} (R : Hp → V → α → Prop) (H : Hp) (p : Addr) (xs : List α) : Prop := ∃ ys : List V, H p = some (.lst ys) ∧ ys.length = xs.length ∧ ∀ (i : Nat) (y : V) (x : α), ys[i]? = some y → xs[i]? = some x → R (delH p H) y x
theorem seqVD_of {α : Type} {R : Hp → Addr → α → Prop} {H : Hp} {p : Addr} {xs : List α} (h : SeqVD (fun H y x => ∃ q, y = .ref q ∧ R H q x) H p xs) : SeqD R H p xs := by
  obtain ⟨ys, a, b, c⟩ := h
  have key : ∀ (ys : List V) (xs : List α), ys.length = xs.length → (∀ (i : Nat) (y : V) (x : α), ys[i]? = some y → xs[i]? = some x → ∃ q, y = .ref q ∧ R (delH p H) q x) → ∃ qs : List Addr, ys = qs.map V.ref ∧ qs.length = xs.length ∧ ∀ (i : Nat) (q : Addr) (x : α), qs[i]? = some q → xs[i]? = some x → R (delH p H) q x := by
    intro ys
    induction ys with
    | nil => intro xs hl _; exact ⟨[], rfl, hl, fun i q x h => by simp at h⟩
    | cons y ys ih =>
      intro xs hl h
      cases xs with
      | nil => simp at hl
      | cons x xs =>
        obtain ⟨q, e, r⟩ := h 0 y x rfl rfl
        obtain ⟨qs, e2, l2, r2⟩ := ih xs (by simpa using hl) fun i y x h1 h2 => h (i + 1) y x h1 h2
        refine ⟨q :: qs, by rw [e, e2]; rfl, by simp [l2], fun i q' x' h1 h2 => ?_⟩
        cases i with
        | zero => cases h1; cases h2; exact r
        | succ i => exact r2 i q' x' h1 h2
  obtain ⟨qs, e, l, r⟩ := key ys xs b c
  exact ⟨qs, e ▸ a, l, r⟩
theorem seqV_vals {α : Type} {f : α → V} {H : Hp} {p : Addr} {xs : List α} (h : SeqV (fun _ y x => y = f x) H p xs) : H p = some (.lst (xs.map f)) := by
  obtain ⟨ys, a, b, c⟩ := h
  rw [a]
  refine congrArg (fun z => some (HO.lst z)) (List.ext_getElem? fun i => ?_)
  rw [List.getElem?_map]
  by_cases hi : i < xs.length
  · have h1 := List.getElem?_eq_getElem (l := ys) (i := i) (by omega)
    have h2 := List.getElem?_eq_getElem hi
    rw [h1, h2, c i _ _ h1 h2]; rfl
  · rw [List.getElem?_eq_none (by omega), List.getElem?_eq_none (by omega)]; rfl
theorem lcG {K : PySem.W.Frag} {α β : Type} {RV : Hp → V → β → Prop} (keep : ∀ H H' y x, Same H H' → RV H y x → RV H' y x) {F : α → Option β} {a : Addr} {g : TG} {tt : TT} {te : TE} {vs : List Nat} {σ : L2.St} {H : Hp} {Q : VK} {xs : List V} {zs : List α}
    (hx : H a = some (.lst xs)) (hz : xs.length = zs.length) (hn : xs.length ≤ 900)
    (ht : ∀ (i : Nat) (x : V) (z : α) (H2 : Hp) (Yes : VK) (No : Hp → Prop), xs[i]? = some x → zs[i]? = some z → Same H H2 → (∀ y H5, Same H2 H5 → (∃ o, F z = some o ∧ ∀ D acc, H D = none → H2 D = some (.lst acc) → RV (delH D H5) y o) → Yes y H5) → (∀ H5, Same H2 H5 → F z = none → No H5) →
      g x (wipe σ vs) H2 fun σ2 H3 => wipe σ2 vs = wipe σ vs ∧ tt σ2 H3 fun b H4 => if b = true then te σ2 H4 Yes else No H4)
    (q : ∀ D H', Same H H' → H D = none → SeqVD RV H' D (zs.filterMap F) → Q (.ref D) H') : LcG K a g tt te vs σ H Q := fun D hD => by
  refine lc_list (K := K) (a := a) (xs := xs) (fun i H' => Same H H' ∧ ∃ acc : List V, H' D = some (.lst acc) ∧ acc.length = ((zs.take i).filterMap F).length ∧ ∀ (j : Nat) (y : V) (o : β), acc[j]? = some y → ((zs.take i).filterMap F)[j]? = some o → RV (delH D H') y o)
    ⟨upd_keep hD, [], upd_same, rfl, fun j y o h => by simp at h⟩ (fun i H' _ ⟨s, _⟩ => .of (s _ _ hx)) ?_ ?_
  · rintro i x H2 hi ⟨sm, acc, eD, hl, hr⟩
    have hin := (List.getElem?_eq_some_iff.mp hi).1
    have hzi := List.getElem?_eq_getElem (l := zs) (i := i) (by omega)
    have la : acc.length ≤ 900 := by
      have h1 := List.length_filterMap_le F (zs.take i)
      have h2 := List.length_take_le i zs
      have : (zs.take i).length ≤ i := by rw [List.length_take]; omega
      omega
    have tk : (zs.take (i + 1)).filterMap F = (zs.take i).filterMap F ++ (match F zs[i] with | some o => [o] | none => []) := by
      rw [List.take_add_one, hzi, List.filterMap_append]
      congr 1
      cases h : F zs[i] <;> simp [h]
    refine ht i x zs[i] H2 _ _ hi hzi sm ?yes ?no
    case yes =>
      rintro y H5 s5 ⟨o, ho, rv⟩
      refine ⟨acc, s5 _ _ eD, small1000 (by omega), same_updN hD (sm.trans s5), acc ++ [y], upd_same, ?_, ?_⟩
      · rw [tk, ho]; simp [hl]
      · intro j y' o' h1 h2
        rw [tk, ho] at h2
        by_cases c : j < acc.length
        · rw [List.getElem?_append_left c] at h1
          rw [List.getElem?_append_left (by omega)] at h2
          refine keep _ _ _ _ (fun b o e => ?_) (hr j y' o' h1 h2)
          have hb := del_of e
          exact del_at hb.1 (by rw [upd_ne hb.1]; exact s5 _ _ hb.2)
        · have hlt := (List.getElem?_eq_some_iff.mp h1).1
          rw [List.length_append, List.length_singleton] at hlt
          obtain rfl : j = acc.length := by omega
          rw [List.getElem?_append_right (Nat.le_refl _), Nat.sub_self] at h1
          rw [hl, List.getElem?_append_right (Nat.le_refl _), Nat.sub_self] at h2
          have h1 : y = y' := by simpa using h1
          have h2 : o = o' := by simpa using h2
          subst h1 h2
          refine keep _ _ _ _ (fun b o e => ?_) (rv D acc hD eD)
          have hb := del_of e
          exact del_at hb.1 (by rw [upd_ne hb.1]; exact hb.2)
    case no =>
      intro H5 s5 ho
      refine ⟨sm.trans s5, acc, s5 _ _ eD, ?_, ?_⟩
      · rw [tk, ho]; simp [hl]
      · intro j y' o' h1 h2
        rw [tk, ho, List.append_nil] at h2
        refine keep _ _ _ _ (fun b o e => ?_) (hr j y' o' h1 h2)
        have hb := del_of e
        exact del_at hb.1 (s5 _ _ hb.2)
  · rintro H' ⟨sm, acc, eD, hl, hr⟩
    rw [List.take_of_length_le (by omega)] at hl hr
    exact q D H' sm hD ⟨acc, eD, hl, hr⟩
/-- the same without a test: each turned into a new thing -/
theorem lcMD {K : PySem.W.Frag} {α β : Type} {R : Hp → Addr → β → Prop} (keep : ∀ H H' q x, Same H H' → R H q x → R H' q x) {F : α → β} {a : Addr} {g : TG} {te : TE} {vs : List Nat} {σ : L2.St} {H : Hp} {Q : VK} {xs : List V} {zs : List α}
    (hx : H a = some (.lst xs)) (hz : xs.length = zs.length) (hn : xs.length ≤ 900)
    (ht : ∀ (i : Nat) (x : V) (z : α) (H2 : Hp) (Yes : VK), xs[i]? = some x → zs[i]? = some z → Same H H2 → (∀ r H5, Same H2 H5 → (∀ D acc, H D = none → H2 D = some (.lst acc) → R (delH D H5) r (F z)) → Yes (.ref r) H5) → g x (wipe σ vs) H2 fun σ2 H3 => wipe σ2 vs = wipe σ vs ∧ te σ2 H3 Yes)
    (q : ∀ D H', Same H H' → H D = none → SeqD R H' D (zs.map F) → Q (.ref D) H') : LcG K a g tYes te vs σ H Q :=
  lcG (RV := fun H y x => ∃ q, y = .ref q ∧ R H q x) (fun _ _ _ _ s ⟨q, e, r⟩ => ⟨q, e, keep _ _ _ _ s r⟩) (F := fun z => some (F z)) hx hz hn
    (fun i x z H2 Yes No h1 h2 s hy hno => by
      have := ht i x z H2 Yes h1 h2 s fun r H5 s5 hr => hy _ _ s5 ⟨_, rfl, fun D acc f e => ⟨r, rfl, hr D acc f e⟩⟩
      simpa only [tYes, if_true] using this)
    (fun D H' s f h => q D H' s f (seqVD_of (by rw [show zs.map F = zs.filterMap (fun z => some (F z)) from (congrFun (List.filterMap_eq_map (f := F)) zs).symm]; exact h)))
theorem lcM {K : PySem.W.Frag} {α β : Type} {R : Hp → Addr → β → Prop} (keep : ∀ H H' q x, Same H H' → R H q x → R H' q x) {F : α → β} {a : Addr} {g : TG} {te : TE} {vs : List Nat} {σ : L2.St} {H : Hp} {Q : VK} {xs : List V} {zs : List α}
    (hx : H a = some (.lst xs)) (hz : xs.length = zs.length) (hn : xs.length ≤ 900)
    (ht : ∀ (i : Nat) (x : V) (z : α) (H2 : Hp) (Yes : VK), xs[i]? = some x → zs[i]? = some z → Same H H2 → (∀ r H5, Same H2 H5 → R (cutH H H2 H5) r (F z) → Yes (.ref r) H5) → g x (wipe σ vs) H2 fun σ2 H3 => wipe σ2 vs = wipe σ vs ∧ te σ2 H3 Yes)
    (q : ∀ D H', Same H H' → H D = none → SeqOf R H' D (zs.map F) → Q (.ref D) H') : LcG K a g tYes te vs σ H Q :=
  lcMD keep hx hz hn (fun i x z H2 Yes h1 h2 s hy => ht i x z H2 Yes h1 h2 s fun r H5 s5 hr => hy r H5 s5 fun D acc f e => keep _ _ _ _ (cut_del f e) hr) fun D H' s f h => q D H' s f (h.seq keep)
/-- each turned into a new thing that is drawn -/
theorem choose_refs {α β : Type} {R : Addr → β → Prop} {P : α → β → Prop} : ∀ (vs : List V) (zs : List α), vs.length = zs.length → (∀ (i : Nat) (v : V) (z : α), vs[i]? = some v → zs[i]? = some z → ∃ q y, v = .ref q ∧ P z y ∧ R q y) →
    ∃ (qs : List Addr) (ys : List β), vs = qs.map V.ref ∧ qs.length = ys.length ∧ ys.length = zs.length ∧ (∀ (i : Nat) (q : Addr) (y : β), qs[i]? = some q → ys[i]? = some y → R q y) ∧ ∀ (i : Nat) (z : α) (y : β), zs[i]? = some z → ys[i]? = some y → P z y := by
  intro vs
  induction vs with
  | nil =>
    intro zs hl _
    have : zs = [] := List.length_eq_zero_iff.mp hl.symm
    subst this
    exact ⟨[], [], rfl, rfl, rfl, (fun i q y h => by simp at h), (fun i z y h => by simp at h)⟩
  | cons v vs ih =>
    intro zs hl h
    cases zs with
    | nil => simp at hl
    | cons z zs =>
      obtain ⟨q, y, e, p, r⟩ := h 0 v z rfl rfl
      obtain ⟨qs, ys, e2, l2, l3, r2, p2⟩ := ih zs (by simpa using hl) fun i v z h1 h2 => h (i + 1) v z h1 h2
      refine ⟨q :: qs, y :: ys, by rw [e, e2]; rfl, by simp [l2], by simp [l3], fun i q' y' h1 h2 => ?_, fun i z' y' h1 h2 => ?_⟩
      · cases i with
        | zero => cases h1; cases h2; exact r
        | succ i => exact r2 i q' y' h1 h2
      · cases i with
        | zero => cases h1; cases h2; exact p
        | succ i => exact p2 i z' y' h1 h2
theorem lcMP {K : PySem.W.Frag} {α β : Type} {R : Hp → Addr → β → Prop} {P : α → β → Prop} (keep : ∀ H H' q x, Same H H' → R H q x → R H' q x) {a : Addr} {g : TG} {te : TE} {vs : List Nat} {σ : L2.St} {H : Hp} {Q : VK} {xs : List V} {zs : List α}
    (hx : H a = some (.lst xs)) (hz : xs.length = zs.length) (hn : xs.length ≤ 900)
    (ht : ∀ (i : Nat) (x : V) (z : α) (H2 : Hp) (Yes : VK), xs[i]? = some x → zs[i]? = some z → Same H H2 → (∀ r H5 y, Same H2 H5 → P z y → (∀ D acc, H D = none → H2 D = some (.lst acc) → R (delH D H5) r y) → Yes (.ref r) H5) → g x (wipe σ vs) H2 fun σ2 H3 => wipe σ2 vs = wipe σ vs ∧ te σ2 H3 Yes)
    (q : ∀ D H' ys, Same H H' → H D = none → SeqD R H' D ys → ys.length = zs.length → (∀ (i : Nat) (z : α) (y : β), zs[i]? = some z → ys[i]? = some y → P z y) → Q (.ref D) H') : LcG K a g tYes te vs σ H Q :=
  lcG (RV := fun H y z => ∃ q x, y = .ref q ∧ P z x ∧ R H q x) (fun _ _ _ _ s ⟨q, x, e, p, r⟩ => ⟨q, x, e, p, keep _ _ _ _ s r⟩) (F := fun z => some z) hx hz hn
    (fun i x z H2 Yes No h1 h2 s hy hno => by
      have := ht i x z H2 Yes h1 h2 s fun r H5 y s5 p hr => hy _ _ s5 ⟨_, rfl, fun D acc f e => ⟨r, y, rfl, p, hr D acc f e⟩⟩
      simpa only [tYes, if_true] using this)
    (fun D H' s f ⟨ys, a, b, c⟩ => by
      rw [show zs.filterMap (fun z => some z) = zs by simp] at b c
      obtain ⟨qs, ys', e, l1, l2, r, p⟩ := choose_refs (R := fun q y => R (delH D H') q y) (P := P) ys zs b (fun i v z h1 h2 => c i v z h1 h2)
      exact q D H' ys' s f ⟨qs, e ▸ a, l1, r⟩ l2 p)
/-- each turned into a value -/
theorem lcF {K : PySem.W.Frag} {α : Type} {F : α → V} {a : Addr} {g : TG} {te : TE} {vs : List Nat} {σ : L2.St} {H : Hp} {Q : VK} {xs : List V} {zs : List α}
    (hx : H a = some (.lst xs)) (hz : xs.length = zs.length) (hn : xs.length ≤ 900)
    (ht : ∀ (i : Nat) (x : V) (z : α) (H2 : Hp) (Yes : VK), xs[i]? = some x → zs[i]? = some z → Same H H2 → (∀ H5, Same H2 H5 → Yes (F z) H5) → g x (wipe σ vs) H2 fun σ2 H3 => wipe σ2 vs = wipe σ vs ∧ te σ2 H3 Yes)
    (q : ∀ D H', Same H H' → H D = none → H' D = some (.lst (zs.map F)) → Q (.ref D) H') : LcG K a g tYes te vs σ H Q :=
  lcG (RV := fun _ y x => y = F x) (fun _ _ _ _ _ e => e) (F := fun z => some z) hx hz hn
    (fun i x z H2 Yes No h1 h2 s hy hno => by
      have := ht i x z H2 Yes h1 h2 s fun H5 s5 => hy _ _ s5 ⟨_, rfl, fun _ _ _ _ => rfl⟩
      simpa only [tYes, if_true] using this)
    (fun D H' s f ⟨ys, a, b, c⟩ => q D H' s f (seqV_vals ⟨ys, a, by simpa using b, fun i y x h1 h2 => c i y x h1 (by simpa using h2)⟩))
theorem LsAt.del {H : Hp} {D r : Addr} {ls : List Lq} {acc : List V} (h : LsAt H r ls) (n : r ≠ D) (e : H D = some (.lst acc)) : LsAt (delH D H) r ls := by
  obtain ⟨qs, a, b, c⟩ := h
  exact ⟨qs, del_at n a, b, fun i q x h1 h2 => ⟨del_at (ne_of (c i q x h1 h2).1 e (by intro z; cases z)) (c i q x h1 h2).1, (c i q x h1 h2).2⟩⟩
/-! ### the same over a range: values, a test -/
def LcGR (n : Nat) (g : TG) (tt : TT) (te : TE) (vs : List Nat) (σ : L2.St) (H1 : Hp) (Q : VK) : Prop := ∀ D, H1 D = none → ∃ W : Nat → Nat → Hp → Prop, (∃ m, W 0 m (upd H1 D (.lst []))) ∧ ∀ i m H, W i m H →
  ((Itr 0 n).stop i H ∧ Q (.ref D) H) ∨ ((Itr 0 n).go i H ∧ ∃ Nx : Hp → Prop, (∀ H', Nx H' → ∃ m', m' < m ∧ W (i + 1) m' H') ∧ ∀ x H', (Itr 0 n).yld i H x H' → g x (wipe σ vs) H' fun σ2 H2 => wipe σ2 vs = wipe σ vs ∧ tt σ2 H2 fun b H3 =>
    if b = true then te σ2 H3 fun y H4 => ∃ acc, H4 D = some (.lst acc) ∧ acc.length < sizeLine ∧ Nx (upd H4 D (.lst (acc ++ [y]))) else Nx H3)
theorem lcr_src {ta : TA} {g : TG} {tt : TT} {te : TE} {vs : List Nat} {σ : L2.St} {H : Hp} {Q : VK} (h : ta σ H fun us H1 => ∃ j : Int, us = [.int j] ∧ -(2 ^ 62) ≤ j ∧ j < 2 ^ 62 ∧ LcGR j.toNat g tt te vs σ H1 Q) : tLc (iRng1 ta) g tt te vs σ H Q := h
theorem lcR {n : Nat} {F : Nat → Option V} {g : TG} {tt : TT} {te : TE} {vs : List Nat} {σ : L2.St} {H : Hp} {Q : VK} (hn : n ≤ 900)
    (ht : ∀ (j : Nat) (H2 : Hp) (Yes : VK) (No : Hp → Prop), j < n → Same H H2 → (∀ y H5, Same H2 H5 → F j = some y → Yes y H5) → (∀ H5, Same H2 H5 → F j = none → No H5) →
      g (.int (0 + (j : Int))) (wipe σ vs) H2 fun σ2 H3 => wipe σ2 vs = wipe σ vs ∧ tt σ2 H3 fun b H4 => if b = true then te σ2 H4 Yes else No H4)
    (q : ∀ D H', Same H H' → H D = none → H' D = some (.lst ((List.range n).filterMap F)) → Q (.ref D) H') : LcGR n g tt te vs σ H Q := fun D hD => by
  refine lc_range (lo := 0) (n := n) (fun i H' => Same H H' ∧ H' D = some (.lst ((List.range i).filterMap F))) ⟨upd_keep hD, upd_same⟩ ?_ ?_
  · rintro i H2 hi ⟨sm, eD⟩
    have la : ((List.range i).filterMap F).length ≤ 900 := by
      have h1 := List.length_filterMap_le F (List.range i)
      rw [List.length_range] at h1
      omega
    have tk : (List.range (i + 1)).filterMap F = (List.range i).filterMap F ++ (match F i with | some o => [o] | none => []) := by
      rw [List.range_succ, List.filterMap_append]
      congr 1
      cases h : F i <;> simp [h]
    refine ht i H2 _ _ hi sm ?yes ?no
    case yes =>
      intro y H5 s5 ho
      refine ⟨_, s5 _ _ eD, small1000 (by omega), same_updN hD (sm.trans s5), ?_⟩
      rw [upd_same, tk, ho]
    case no =>
      intro H5 s5 ho
      refine ⟨sm.trans s5, ?_⟩
      rw [s5 _ _ eD, tk, ho, List.append_nil]
  · rintro H' ⟨sm, eD⟩
    exact q D H' sm hD eD
/-- no test -/
theorem lcRM {n : Nat} {F : Nat → V} {g : TG} {te : TE} {vs : List Nat} {σ : L2.St} {H : Hp} {Q : VK} (hn : n ≤ 900)
    (ht : ∀ (j : Nat) (H2 : Hp) (Yes : VK), j < n → Same H H2 → (∀ H5, Same H2 H5 → Yes (F j) H5) → g (.int (0 + (j : Int))) (wipe σ vs) H2 fun σ2 H3 => wipe σ2 vs = wipe σ vs ∧ te σ2 H3 Yes)
    (q : ∀ D H', Same H H' → H D = none → H' D = some (.lst ((List.range n).map F)) → Q (.ref D) H') : LcGR n g tYes te vs σ H Q :=
  lcR (F := fun j => some (F j)) hn (fun j H2 Yes No hj s hy hno => by
    have := ht j H2 Yes hj s fun H5 s5 => hy _ H5 s5 rfl
    simpa only [tYes, if_true] using this) (fun D H' s f e => q D H' s f (e.trans (by rw [show (List.range n).filterMap (fun j => some (F j)) = (List.range n).map F from congrFun (List.filterMap_eq_map (f := F)) _])))
/-- over a range, each turned into a new thing that is drawn -/
theorem lcRP {n : Nat} {β : Type} {R : Hp → Addr → β → Prop} {P : Nat → β → Prop} (keep : ∀ H H' q x, Same H H' → R H q x → R H' q x) {g : TG} {te : TE} {vs : List Nat} {σ : L2.St} {H : Hp} {Q : VK} (hn : n ≤ 900)
    (ht : ∀ (j : Nat) (H2 : Hp) (Yes : VK), j < n → Same H H2 → (∀ r H5 y, Same H2 H5 → P j y → (∀ D acc, H D = none → H2 D = some (.lst acc) → R (delH D H5) r y) → Yes (.ref r) H5) → g (.int (0 + (j : Int))) (wipe σ vs) H2 fun σ2 H3 => wipe σ2 vs = wipe σ vs ∧ te σ2 H3 Yes)
    (q : ∀ D H' ys, Same H H' → H D = none → SeqD R H' D ys → ys.length = n → (∀ (i : Nat) (y : β), ys[i]? = some y → P i y) → Q (.ref D) H') : LcGR n g tYes te vs σ H Q := fun D hD => by
  refine lc_range (lo := 0) (n := n) (fun i H' => Same H H' ∧ ∃ ys : List β, SeqD R H' D ys ∧ ys.length = i ∧ ∀ (j : Nat) (y : β), ys[j]? = some y → P j y) ⟨upd_keep hD, [], SeqD.nil upd_same, rfl, fun j y h => by simp at h⟩ ?_ ?_
  · rintro i H2 hi ⟨sm, ys, sd, yl, yp⟩
    obtain ⟨qs, w1, w2, w3⟩ := id sd
    have key : ∀ r H5 y, Same H2 H5 → P i y → (∀ D acc, H D = none → H2 D = some (.lst acc) → R (delH D H5) r y) → ∃ acc, H5 D = some (.lst acc) ∧ acc.length < sizeLine ∧ (Same H (upd H5 D (.lst (acc ++ [.ref r]))) ∧ ∃ ys : List β, SeqD R (upd H5 D (.lst (acc ++ [.ref r]))) D ys ∧ ys.length = i + 1 ∧ ∀ (j : Nat) (y : β), ys[j]? = some y → P j y) := by
      intro r H5 y s5 p hr
      obtain ⟨items, it1, it2, it3⟩ := (sd.keep keep s5).app keep (hr D _ hD w1)
      refine ⟨items, it1, small1000 (by omega), same_updN hD (sm.trans s5), ys ++ [y], it3, by simp [yl], fun j y' h => ?_⟩
      by_cases c : j < ys.length
      · rw [List.getElem?_append_left c] at h; exact yp j y' h
      · have hlt := (List.getElem?_eq_some_iff.mp h).1
        rw [List.length_append, List.length_singleton] at hlt
        obtain rfl : j = ys.length := by omega
        rw [List.getElem?_append_right (Nat.le_refl _), Nat.sub_self] at h
        have : y = y' := by simpa using h
        rw [← this, yl]; exact p
    have := ht i H2 (fun v H5 => ∃ acc, H5 D = some (.lst acc) ∧ acc.length < sizeLine ∧ (Same H (upd H5 D (.lst (acc ++ [v]))) ∧ ∃ ys : List β, SeqD R (upd H5 D (.lst (acc ++ [v]))) D ys ∧ ys.length = i + 1 ∧ ∀ (j : Nat) (y : β), ys[j]? = some y → P j y)) hi sm key
    simpa only [tYes, if_true] using this
  · rintro H' ⟨sm, ys, sd, yl, yp⟩
    exact q D H' ys sm hD sd yl yp
theorem same_delN {H H' : Hp} {D : Addr} (f : H D = none) (s : Same H H') : Same H (delH D H') := fun b o e => del_at (fun y => by rw [y, f] at e; cases e) (s _ _ e)
/-! ### right machines: plain facts -/
theorem okT_len {x s : Str} {m : Int} (h : okT x s m = true) : (x.length : Int) ≤ m := by
  unfold okT at h
  rw [Bool.and_eq_true, Bool.and_eq_true] at h
  exact of_decide_eq_true h.1.2
theorem txok_of {x : Str} (h : ∀ c ∈ x.cps.toList, c < 0x110000) : TxOk x := by
  show PyData.strOk x = true
  unfold PyData.strOk
  rw [← Array.all_toList, List.all_eq_true]
  exact fun c hc => decide_eq_true (h c hc)
theorem okT_tx {x s : Str} {m : Int} (hs : ∀ c ∈ s.cps.toList, c < 0x110000) (h : okT x s m = true) : TxOk x := by
  unfold okT at h
  rw [Bool.and_eq_true, List.all_eq_true] at h
  exact txok_of fun c hc => hs c (of_decide_eq_true (h.2 c hc))
theorem letters_lt : ∀ c ∈ letters.cps.toList, c < 0x110000 := by decide +kernel
theorem letters_lt2 : ∀ c ∈ (letters ++ ("/" : Str)).cps.toList, c < 0x110000 := by decide +kernel
theorem okName_len {x : Str} (h : okName x = true) : x.length ≤ 8 := by have := okT_len (show okT x letters 8 = true from h); omega
theorem okName_tx {x : Str} (h : okName x = true) : TxOk x := okT_tx letters_lt (show okT x letters 8 = true from h)
theorem okWatch_len {x : Str} (h : okWatch x = true) : x.length ≤ 8 := by
  unfold okWatch at h
  rw [Bool.or_eq_true] at h
  rcases h with h | h
  · rw [of_decide_eq_true h]; decide +kernel
  · exact okName_len h
theorem okWatch_tx {x : Str} (h : okWatch x = true) : TxOk x := by
  unfold okWatch at h
  rw [Bool.or_eq_true] at h
  rcases h with h | h
  · rw [of_decide_eq_true h]; show PyData.strOk _ = true; decide +kernel
  · exact okName_tx h
theorem words_tx {ws : List Str} {x : Str} (h : x ∈ ws) (hw : ws.all (fun y => PyData.strOk y) = true) : TxOk x := List.all_eq_true.mp hw x h
theorem look_ok {ws watches : List Str} {l : Lq} (hw : ws.all (fun y => PyData.strOk y) = true) (ha : ∀ x ∈ watches, okWatch x = true) (h : lookOk ws watches l = true) : LqOk l := by
  unfold lookOk at h
  rw [Bool.and_eq_true, Bool.and_eq_true] at h
  refine ⟨okWatch_tx (ha _ (of_decide_eq_true h.1.1)), words_tx (of_decide_eq_true h.1.2) hw, ?_⟩
  have := h.2
  cases hv : l.2.2 <;> rw [hv] at this <;> first | rfl | cases this
theorem room_ok {watches : List Str} {r : Rq} (ha : ∀ x ∈ watches, okWatch x = true) (h : roomOk watches r = true) : r.1.length ≤ 60 ∧ RqOk r := by
  unfold roomOk at h
  rw [Bool.and_eq_true] at h
  refine ⟨by have := okT_len h.1; omega, okT_tx letters_lt2 h.1, fun l hl => look_ok (ws := ["<", "<="]) (by decide +kernel) ha (List.all_eq_true.mp h.2 l hl)⟩
theorem okSign_len {x : Str} (h : okSign x = true) : x.length ≤ 9 := by
  unfold okSign at h
  rw [Bool.or_eq_true] at h
  rcases h with h | h
  · rw [of_decide_eq_true h]; decide +kernel
  · cases e : x.cps.toList.getLast? with
    | none => rw [e] at h; cases h
    | some c =>
      rw [e] at h
      have h2 := (Bool.and_eq_true_iff.mp h).2
      have l8 := okName_len h2
      unfold cutS Str.length at l8
      simp only [List.size_toArray, List.length_take, List.length_drop] at l8
      unfold Str.length
      rw [← Array.length_toList]
      have s0 : HT.sIx x.length 0 none = 0 := rfl
      have s1 : HT.sIx x.length x.length (some (-1)) = x.length - 1 := by
        unfold HT.sIx
        simp only [show ((-1 : Int) < 0) from by decide, if_true]
        omega
      have s2 : x.length = x.cps.toList.length := by unfold Str.length; exact Array.length_toList.symm
      unfold Str.length at s0 s1 s2
      rw [s0, s1] at l8
      omega
def numOf : V → Int
  | .int n => n
  | _ => 0
structure MachOk (M : MachD) : Prop where
  w7 : M.watches.length ≤ 7
  wok : M.watches.all okWatch = true
  wnd : M.watches.Nodup
  rok : M.rooms.all (roomOk M.watches) = true
  rnd : (M.rooms.map (·.1)).Nodup
  rne : M.rooms ≠ []
  r64 : M.rooms.length ≤ 64
  dok : M.doors.all (doorOk M.watches (M.rooms.map (·.1))) = true
  d200 : M.doors.length ≤ 200
  rsz : ∀ r ∈ M.rooms, r.2.length ≤ 60
  dsz : ∀ d ∈ M.doors, d.looks.length ≤ 60
theorem nodup_len {α : Type} [DecidableEq α] : ∀ {xs ys : List α}, xs.Nodup → (∀ x ∈ xs, x ∈ ys) → xs.length ≤ ys.length := by
  intro xs
  induction xs with
  | nil => intro ys _ _; exact Nat.zero_le _
  | cons x xs ih =>
    intro ys h1 h2
    obtain ⟨n1, n2⟩ := List.nodup_cons.mp h1
    have hx := h2 x (List.mem_cons_self ..)
    have := ih (ys := ys.erase x) n2 fun y hy => (List.mem_erase_of_ne (show y ≠ x from fun e => n1 (by rw [← e]; exact hy))).mpr (h2 y (List.mem_cons_of_mem _ hy))
    rw [List.length_erase_of_mem hx] at this
    have hp := List.length_pos_of_mem hx
    simp only [List.length_cons]
    omega
section
variable {M : MachD}
theorem MachOk.watch (h : MachOk M) : ∀ x ∈ M.watches, okWatch x = true := List.all_eq_true.mp h.wok
theorem MachOk.room (h : MachOk M) {r : Rq} (hr : r ∈ M.rooms) : r.1.length ≤ 1000 ∧ r.2.length ≤ 60 ∧ RqOk r := by
  have := room_ok h.watch (List.all_eq_true.mp h.rok r hr)
  exact ⟨by omega, h.rsz r hr, this.2⟩
theorem MachOk.door (h : MachOk M) {d : DoorD} (hd : d ∈ M.doors) : okSign d.sg = true ∧ d.st ∈ M.rooms.map (·.1) ∧ d.en ∈ M.rooms.map (·.1) ∧ guardOk ["<", "<=", ">", ">=", "="] M.watches d.looks = true ∧ (∀ b ∈ d.backs, b ∈ M.watches) ∧ d.backs.Nodup ∧ d.backs.length ≤ 7 := by
  have := List.all_eq_true.mp h.dok d hd
  unfold doorOk at this
  rw [Bool.and_eq_true, Bool.and_eq_true, Bool.and_eq_true, Bool.and_eq_true, Bool.and_eq_true, List.all_eq_true] at this
  obtain ⟨⟨⟨⟨⟨a, b⟩, c⟩, d'⟩, e⟩, f⟩ := this
  have e' : ∀ b ∈ d.backs, b ∈ M.watches := fun b hb => of_decide_eq_true (e b hb)
  have n := of_decide_eq_true f
  exact ⟨a, of_decide_eq_true b, of_decide_eq_true c, d', e', n, Nat.le_trans (nodup_len n e') h.w7⟩
end
/-! ### heaps that differ at a new instance alone -/
def OffI (p : Addr) (H H' : Hp) : Prop := (∃ C dx fs, H p = some (.ins C dx fs)) ∧ ∀ b o, H b = some o → b ≠ p → H' b = some o
def OffN (p : Addr) (H H' : Hp) : Prop := (∃ C dx, H p = some (.ins C dx [])) ∧ ∀ b o, H b = some o → b ≠ p → H' b = some o
section
variable {p : Addr} {H H' : Hp}
theorem OffN.i (h : OffN p H H') : OffI p H H' := by
  obtain ⟨⟨C, dx, hp⟩, k⟩ := h
  exact ⟨⟨C, dx, _, hp⟩, k⟩
theorem OffI.lst (h : OffI p H H') {q : Addr} {xs : List V} (e : H q = some (.lst xs)) : H' q = some (.lst xs) := by
  obtain ⟨⟨C, dx, fs, hp⟩, k⟩ := h
  exact k _ _ e (ne_of e hp (by intro z; cases z))
theorem OffI.tup (h : OffI p H H') {q : Addr} {xs : List V} (e : H q = some (.tup xs)) : H' q = some (.tup xs) := by
  obtain ⟨⟨C, dx, fs, hp⟩, k⟩ := h
  exact k _ _ e (ne_of e hp (by intro z; cases z))
theorem OffI.seq {α : Type} {R : Hp → Addr → α → Prop} (h : OffI p H H') (k : ∀ q x, R H q x → R H' q x) {q : Addr} {xs : List α} (v : SeqOf R H q xs) : SeqOf R H' q xs := by
  obtain ⟨qs, a, b, c⟩ := v
  exact ⟨qs, h.lst a, b, fun i q x h1 h2 => k q x (c i q x h1 h2)⟩
theorem OffI.ls (h : OffI p H H') {q : Addr} {ls : List Lq} (v : LsAt H q ls) : LsAt H' q ls := h.seq (fun _ _ z => ⟨h.tup z.1, z.2⟩) v
theorem OffI.rs (h : OffI p H H') {q : Addr} {rs : List Rq} (v : RsAt H q rs) : RsAt H' q rs := h.seq (fun _ _ ⟨g, a, b⟩ => ⟨g, h.tup a, h.ls b⟩) v
theorem OffN.door (h : OffN p H H') {C q : Addr} {d : DoorD} (v : DoorAt C H q d) : DoorAt C H' q d := by
  obtain ⟨dx, g, n, a, b, c⟩ := v
  refine ⟨dx, g, n, h.2 _ _ a (fun z => ?_), h.i.ls b, h.i.lst c⟩
  obtain ⟨⟨C', dx', hp⟩, _⟩ := h
  rw [z, hp] at a
  have l := door_start (st := d.st) (en := d.en) (sg := d.sg) (g := g) (n := n)
  have e : ([] : List (Str × V)) = doorF d.st d.en d.sg g n := by injection a with a; injection a
  rw [← e] at l
  cases l
theorem OffN.ds (h : OffN p H H') {C q : Addr} {ds : List DoorD} (v : DsAt C H q ds) : DsAt C H' q ds := h.i.seq (fun _ _ z => h.door z) v
end
theorem refs_inj {xs ys : List Addr} (h : xs.map V.ref = ys.map V.ref) : xs = ys := (List.map_inj_right (f := V.ref) (fun a b e => by cases e; rfl)).mp h
theorem lst_inj {H : Hp} {p : Addr} {xs ys : List Addr} (h : H p = some (.lst (xs.map V.ref))) (k : H p = some (.lst (ys.map V.ref))) : xs = ys := refs_inj (by rw [h] at k; simpa using k)
theorem machF_inj {wn rn sl dl wn' rn' sl' dl' : Addr} (h : machF wn rn sl dl = machF wn' rn' sl' dl') : wn = wn' ∧ rn = rn' ∧ sl = sl' ∧ dl = dl' := by
  have a := mach_watch (wn := wn) (rn := rn) (sl := sl) (dl := dl)
  have b := mach_room (wn := wn) (rn := rn) (sl := sl) (dl := dl)
  have c := mach_stay (wn := wn) (rn := rn) (sl := sl) (dl := dl)
  have d := mach_door (wn := wn) (rn := rn) (sl := sl) (dl := dl)
  rw [h, mach_watch] at a; rw [h, mach_room] at b; rw [h, mach_stay] at c; rw [h, mach_door] at d
  simp only [Option.some.injEq, V.ref.injEq] at a b c d
  exact ⟨a.symm, b.symm, c.symm, d.symm⟩
/-! ### heaps without some lists -/
open Classical in
noncomputable def remU (U : Addr → Prop) (H : Hp) : Hp := fun b => if U b then none else H b
theorem rem_at {U : Addr → Prop} {H : Hp} {b : Addr} {o : HO} (n : ¬ U b) (e : H b = some o) : remU U H b = some o := by unfold remU; rw [if_neg n]; exact e
theorem rem_of {U : Addr → Prop} {H : Hp} {b : Addr} {o : HO} (e : remU U H b = some o) : ¬ U b ∧ H b = some o := by
  unfold remU at e
  by_cases h : U b
  · rw [if_pos h] at e; cases e
  · rw [if_neg h] at e; exact ⟨h, e⟩
theorem rem_sub {U : Addr → Prop} {H : Hp} : Same (remU U H) H := fun b o e => (rem_of e).2
theorem rem_same {U : Addr → Prop} {H H' : Hp} (s : Same H H') : Same (remU U H) (remU U H') := fun b o e => rem_at (rem_of e).1 (s _ _ (rem_of e).2)
/-- U holds lists of H alone -/
def ListsU (U : Addr → Prop) (H : Hp) : Prop := ∀ b, U b → ∃ xs, H b = some (.lst xs)
theorem ListsU.tup {U : Addr → Prop} {H H' : Hp} (u : ListsU U H) (s : ∀ b xs, H b = some (.lst xs) → H' b = some (.lst xs)) {q : Addr} {ys : List V} (e : H' q = some (.tup ys)) : ¬ U q := fun h => by
  obtain ⟨xs, hx⟩ := u q h
  have := s q xs hx
  rw [e] at this; cases this
theorem LsAt.rem {U : Addr → Prop} {H H' : Hp} (u : ListsU U H) (s : ∀ b xs, H b = some (.lst xs) → H' b = some (.lst xs)) {q : Addr} {ls : List Lq} (h : LsAt H' q ls) (n : ¬ U q) : LsAt (remU U H') q ls := by
  obtain ⟨qs, a, b, c⟩ := h
  exact ⟨qs, rem_at n a, b, fun i q x h1 h2 => ⟨rem_at (u.tup s (c i q x h1 h2).1) (c i q x h1 h2).1, (c i q x h1 h2).2⟩⟩
/-! ### drawn names -/
def lett (i : Int) : Nat := letters.cps.toList.getD i.toNat 0
def idx26 (i : Int) : Prop := 0 ≤ i ∧ i < 26
theorem letters_len : letters.cps.toList.length = 26 := by decide +kernel
theorem lett_get {i : Int} (h : 0 ≤ i ∧ i < 26) : letters.cps.toList[i.toNat]? = some (lett i) := by
  have h1 : i.toNat < letters.cps.toList.length := by rw [letters_len]; omega
  unfold lett
  rw [List.getD_eq_getElem?_getD, List.getElem?_eq_getElem h1]; rfl
theorem lett_at {i : Int} (h : 0 ≤ i ∧ i < 26) : atI letters.cps.toList i = some (lett i) := by
  have := atI_nat (lett_get h)
  rwa [Int.toNat_of_nonneg h.1] at this
theorem lett_mem {i : Int} (h : 0 ≤ i ∧ i < 26) : lett i ∈ letters.cps.toList := List.mem_of_getElem? (lett_get h)
theorem lett_inj : ∀ i j : Fin 26, lett (i.val : Int) = lett (j.val : Int) → i = j := by decide +kernel
theorem lett_inj' {i j : Int} (hi : 0 ≤ i ∧ i < 26) (hj : 0 ≤ j ∧ j < 26) (h : lett i = lett j) : i = j := by
  have := lett_inj ⟨i.toNat, by omega⟩ ⟨j.toNat, by omega⟩ (by
    show lett ((i.toNat : Nat) : Int) = lett ((j.toNat : Nat) : Int)
    rw [Int.toNat_of_nonneg hi.1, Int.toNat_of_nonneg hj.1]; exact h)
  have : i.toNat = j.toNat := by simpa using congrArg Fin.val this
  omega
def one (c : Nat) : Str := ⟨#[c]⟩
def txt (cs : List Nat) : Str := ⟨cs.toArray⟩
theorem join_one (cs : List Nat) : Txt.join ("" : Str) (cs.map one) = txt cs := by
  have key : ∀ (cs : List Nat) (acc : Array Nat), (cs.map one).foldl (fun acc p => acc ++ ("" : Str).cps ++ p.cps) acc = acc ++ cs.toArray := by
    intro cs
    induction cs with
    | nil => intro acc; simp
    | cons c cs ih =>
      intro acc
      rw [List.map_cons, List.foldl_cons, ih]
      have e : ("" : Str).cps = #[] := by decide +kernel
      rw [e]
      unfold one
      simp
  cases cs with
  | nil => decide +kernel
  | cons c cs =>
    show (⟨(((c :: cs).map one).drop 1).foldl (fun acc p => acc ++ ("" : Str).cps ++ p.cps) (((c :: cs).map one).headD Str.empty).cps⟩ : Str) = _
    rw [List.map_cons, List.drop_succ_cons, List.drop_zero, key]
    unfold txt one
    simp
theorem txt_inj {a b : List Nat} (h : txt a = txt b) : a = b := by
  unfold txt at h
  have := congrArg (fun s : Str => s.cps.toList) h
  simpa using this
/-- the letters of a drawn name -/
def nmL (size : Nat) (f : Nat → Int) : List Nat := (List.range size).map fun j => lett (f j)
theorem nm_ok {size : Nat} {cs : List Nat} (hl : cs.length = size) (h1 : 1 ≤ size) (h8 : size ≤ 8) (hc : ∀ c ∈ cs, c ∈ letters.cps.toList) : okName (txt cs) = true := by
  have e : (txt cs).length = size := by unfold txt Str.length; simpa using hl
  unfold okName okT
  rw [e, decide_eq_true (by omega), decide_eq_true (by omega)]
  simp only [Bool.true_and]
  rw [List.all_eq_true]
  intro c h
  exact decide_eq_true (hc c (by unfold txt at h; simpa using h))
/-- names drawn: what is told of them -/
def NamesOk (xs : List Str) (many : Nat) : Prop := xs.length = many ∧ (∀ x ∈ xs, okName x = true) ∧ xs.Nodup ∧ ∃ n, ∀ x ∈ xs, x.length = n
/-- the letters of the k-th name -/
def nmC (size at' : Nat) (f : Nat → Int) (g : Int) : List Nat := ((List.range size).map fun j => lett (f j)).set at' (lett g)
theorem nmC_len {size at' : Nat} {f : Nat → Int} {g : Int} : (nmC size at' f g).length = size := by unfold nmC; simp
theorem nmC_ok {size at' : Nat} {f : Nat → Int} {g : Int} (h1 : 1 ≤ size) (h8 : size ≤ 8) (hf : ∀ j, 0 ≤ f j ∧ f j < 26) (hg : 0 ≤ g ∧ g < 26) : okName (txt (nmC size at' f g)) = true := by
  refine nm_ok nmC_len h1 h8 fun c hc => ?_
  unfold nmC at hc
  rcases List.mem_or_eq_of_mem_set hc with h | h
  · obtain ⟨j, _, rfl⟩ := List.mem_map.mp h
    exact lett_mem (hf j)
  · rw [h]; exact lett_mem hg
theorem nmC_inj {size at' : Nat} {f : Nat → Int} {g g' : Int} (ha : at' < size) (hg : 0 ≤ g ∧ g < 26) (hg' : 0 ≤ g' ∧ g' < 26) (h : txt (nmC size at' f g) = txt (nmC size at' f g')) : g = g' := by
  have e := congrArg (fun l : List Nat => l[at']?) (txt_inj h)
  unfold nmC at e
  simp only [List.getElem?_set_self', List.getElem?_map] at e
  rw [List.getElem?_range ha] at e
  exact lett_inj' hg hg' (by simpa using e)
theorem names_ok {size at' : Nat} {f : Nat → Int} {c : Int} {many : Nat} (h1 : 1 ≤ size) (h8 : size ≤ 8) (ha : at' < size) (hm : many ≤ 26) (hf : ∀ j, 0 ≤ f j ∧ f j < 26) : NamesOk ((List.range many).map fun k : Nat => txt (nmC size at' f ((c + (k : Int)).fmod 26))) many := by
  have fm : ∀ k : Nat, 0 ≤ (c + (k : Int)).fmod 26 ∧ (c + (k : Int)).fmod 26 < 26 := fun k => fm_pos (by decide)
  refine ⟨by simp, fun x hx => ?_, ?_, size, fun x hx => ?_⟩
  · obtain ⟨k, _, rfl⟩ := List.mem_map.mp hx
    exact nmC_ok h1 h8 hf (fm k)
  · unfold List.Nodup
    rw [List.pairwise_map]
    refine List.Pairwise.imp_of_mem (fun {a b} ha' hb' hne he => hne ?_) List.nodup_range
    have := nmC_inj ha (fm a) (fm b) he
    rw [List.mem_range] at ha' hb'
    rw [Int.fmod_eq_emod_of_nonneg _ (by decide), Int.fmod_eq_emod_of_nonneg _ (by decide)] at this
    omega
  · obtain ⟨k, _, rfl⟩ := List.mem_map.mp hx
    unfold txt Str.length
    simp [nmC_len]
theorem sum_one (cs : List Nat) : ((cs.map one).map (·.length)).sum = cs.length := by
  induction cs with
  | nil => rfl
  | cons c cs ih =>
    rw [List.map_cons, List.map_cons, List.sum_cons, ih, List.length_cons]
    show 1 + cs.length = _
    omega
theorem nmC_vals {size at' : Nat} {f : Nat → Int} {g : Int} : ((List.range size).map fun j => V.str (one (lett (f j)))).set at' (V.str (one (lett g))) = ((nmC size at' f g).map one).map V.str := by
  unfold nmC
  rw [List.map_set, List.map_set, List.map_map, List.map_map]
  rfl
/-! ### names by sums -/
theorem txt_snoc (cs : List Nat) (c : Nat) : txt cs ++ one c = txt (cs ++ [c]) := by
  show (⟨cs.toArray ++ #[c]⟩ : Str) = ⟨(cs ++ [c]).toArray⟩
  simp

def nmI (b st : Int) (at' k : Nat) (j : Nat) : Nat := lett ((b + (j : Int) * st + (k : Int) * (if j = at' then 1 else 0)).fmod 26)
def nm2 (b st : Int) (size at' k : Nat) : List Nat := (List.range size).map (nmI b st at' k)
theorem names2_ok {b st : Int} {size at' many : Nat} (h1 : 1 ≤ size) (h8 : size ≤ 8) (ha : at' < size) (hm : many ≤ 26) : NamesOk ((List.range many).map fun k => txt (nm2 b st size at' k)) many := by
  have len : ∀ k, (nm2 b st size at' k).length = size := fun k => by unfold nm2; simp
  refine ⟨by simp, fun x hx => ?_, ?_, size, fun x hx => ?_⟩
  · obtain ⟨k, _, rfl⟩ := List.mem_map.mp hx
    refine nm_ok (len k) h1 h8 fun c hc => ?_
    unfold nm2 at hc
    obtain ⟨j, _, rfl⟩ := List.mem_map.mp hc
    exact lett_mem (fm_pos (by decide))
  · unfold List.Nodup
    rw [List.pairwise_map]
    refine List.Pairwise.imp_of_mem (fun {x y} hx hy hne he => hne ?_) List.nodup_range
    have e := congrArg (fun l : List Nat => l[at']?) (txt_inj he)
    unfold nm2 at e
    simp only [List.getElem?_map] at e
    rw [List.getElem?_range ha] at e
    have e2 : nmI b st at' x at' = nmI b st at' y at' := by simpa using e
    unfold nmI at e2
    rw [if_pos rfl] at e2
    have e3 := lett_inj' (fm_pos (by decide)) (fm_pos (by decide)) e2
    rw [Int.fmod_eq_emod_of_nonneg _ (by decide), Int.fmod_eq_emod_of_nonneg _ (by decide)] at e3
    rw [List.mem_range] at hx hy
    omega
  · obtain ⟨k, _, rfl⟩ := List.mem_map.mp hx
    unfold txt Str.length
    simp [len]
def spNames : Sp := fun vs H Q _ => ∃ (cell : Int) (many : Nat), vs = [.int cell, .int many] ∧ many ≤ 26 ∧ ∀ (p : Addr) (H' : Hp) (xs : List Str), Same H H' → H p = none → H' p = some (.lst (xs.map V.str)) → NamesOk xs many → Q (.ref p) H'
theorem cutTo {xs : List V} {k : Nat} (h : k ≤ xs.length) : cutV xs none (some (k : Int)) = xs.take k := by
  unfold cutV
  rw [HT.sIx_none, HT.sIx_nat, Nat.min_eq_left h]; rfl
theorem cutInts {cs : List Int} {a b : Nat} (h : a ≤ b) : ∃ ds : List Int, cutV (cs.map V.int) (some (a : Int)) (some (b : Int)) = ds.map V.int ∧ ds.length ≤ b - a := by
  refine ⟨(cs.drop (min a cs.length)).take (min b cs.length - min a cs.length), ?_, ?_⟩
  · unfold cutV
    rw [HT.sIx_nat, HT.sIx_nat, List.length_map, List.map_take, List.map_drop]
  · rw [List.length_take]; omega
section
variable {P : Program} {w : World} {K : PySem.W.Frag} {mg : Str → Option Value} {base : Heap}
def spOfSigns : Sp := fun vs H Q _ => ∃ (x signs : Str) (most : Int), vs = [.str x, .str signs, .int most] ∧ x.length ≤ 1000 ∧ Q (.bl (okT x signs most)) H
theorem ok_of_signs (T : Top K mg) : FnOk P w K mg base CX0 1 T.f_of_signs T.d_of_signs ["thing", "signs", "most"] spOfSigns := by
  refine T.F_of_signs.ok sc_of_signs (fun vs H Q E h => ?_) (fun cdv A outer s H vs Q E hr h => ?_)
  · obtain ⟨x, signs, most, rfl, _⟩ := h; rfl
  · obtain ⟨x, signs, most, rfl, hl, q⟩ := h
    refine ⟨_, (pss_cons (ps_if (PW.pt (pw_or (pt_not (pt_val (pe_callB (call_isiA (K := K) rfl) (by rfl) T.m_isinstance (by decide +kernel) (pa_cons (pv 0) (pa_cons (pe_bltn (v := .ty "str") (u := .type "str") (by rfl) T.m_str (by decide +kernel) rfl) pa_nil))))) (pw_or1 (pt_not (pt_chain op_le op_le pe_int (pe_callB call_len_str (by rfl) T.m_len (by decide +kernel) (pa_cons (pv 0) pa_nil)) (pv 2)))))) (pss_one (ps_ret pe_bl)) pss_nil)
      (pss_cons (ps_for PassesOwn.never rfl (pi_str (pv 0)) (pg_name (i := 3) sc_of_signs.nd rfl (.inl rfl)) (pss_one (ps_if (pt_cmpR op_notIn_sign (pv 3) (pv 1) (by rfl)) (pss_one (ps_ret pe_bl)) pss_nil)))
      (pss_one (ps_ret pe_bl)))), ?_⟩
    refine seq_step ?_
    walk_at "rd"
    refine isi (r := true) (.base (.str _)) (by decide +kernel) ?_
    walk_at "rt"
    refine ⟨small1000' hl, ?_⟩
    unfold okT at q
    refine ite_d (fun h1 => ?_) (fun h1 => ?_)
    · rw [decide_eq_true h1] at q
      by_cases h2 : (x.length : Int) ≤ most
      · rw [decide_eq_true h2] at q ⊢
        walk_at "rd"
        refine seq_step ?_
        refine tFor_str ?_ (fun Q R k h => ?_)
        · walk_at "rt"
          refine ⟨fun i σ' H' => (∃ v3, σ' = [some (.str x), some (.str signs), some (.int most), v3]) ∧ H' = H ∧ (x.cps.toList.take i).all (fun c => decide (c ∈ signs.cps.toList)) = true, ⟨⟨_, rfl⟩, rfl, rfl⟩, ?_, ?_⟩
          · rintro i σ' H' c hc ⟨⟨v3, rfl⟩, rfl, ha⟩
            walk_at "rt"
            refine ⟨c, rfl, ?_⟩
            by_cases m : c ∈ signs.cps.toList
            · refine if_f (by rw [decide_eq_true m]; rfl) ?_
              rw [List.take_add_one, hc, List.all_append, ha]
              simpa using m
            · refine if_t (by rw [decide_eq_false m]; rfl) ?_
              have : (x.cps.toList.all fun c => decide (c ∈ signs.cps.toList)) = false := by
                rw [List.all_eq_false]
                exact ⟨c, List.mem_of_getElem? hc, by simp [m]⟩
              rw [this] at q
              exact q
          · rintro σ' H' ⟨⟨v3, rfl⟩, rfl, ha⟩
            walk_at "rd"
            rw [List.take_length] at ha
            rw [ha] at q
            exact q
        · exact ⟨_, rfl, by obtain ⟨v, h1, h2⟩ := h; cases h1; exact k _ _ h2⟩
      · rw [decide_eq_false h2] at q ⊢
        walk_at "rd"
        exact q
    · rw [decide_eq_false h1] at q
      exact q
def spName : Sp := fun vs H Q _ => ∃ x : Str, vs = [.str x] ∧ x.length ≤ 1000 ∧ Q (.bl (okName x)) H
theorem ok_is_name (T : Top K mg) : FnOk P w K mg base CX0 2 T.f_is_name T.d_is_name ["thing"] spName := by
  refine T.F_is_name.ok sc_is_name (fun vs H Q E h => ?_) (fun cdv A outer s H vs Q E hr h => ?_)
  · obtain ⟨x, rfl, _⟩ := h; rfl
  · obtain ⟨x, rfl, hl, q⟩ := h
    refine ⟨_, (pss_one (ps_ret (pe_call (ok_of_signs T) (hr.mono (by decide)) rfl T.g_of_signs T.F_of_signs.kp T.b_of_signs .nil pass0 (pa_cons (pv 0) (pa_cons (pe_glob (v := .str "abcdefghijklmnopqrstuvwxyz") rfl T.g_LETTERS ⟨_, rfl⟩) (pa_cons pe_int pa_nil)))))), ?_⟩
    walk_at "rd"
    exact ⟨x, letters, 8, rfl, hl, q⟩
def spWName : Sp := fun vs H Q _ => ∃ x : Str, vs = [.str x] ∧ x.length ≤ 1000 ∧ Q (.bl (okWatch x)) H
theorem ok_is_watch_name (T : Top K mg) : FnOk P w K mg base CX0 3 T.f_is_watch_name T.d_is_watch_name ["thing"] spWName := by
  refine T.F_is_watch_name.ok sc_is_watch_name (fun vs H Q E h => ?_) (fun cdv A outer s H vs Q E hr h => ?_)
  · obtain ⟨x, rfl, _⟩ := h; rfl
  · obtain ⟨x, rfl, hl, q⟩ := h
    refine ⟨_, (pss_one (ps_ret (pe_or (pe_cmpR op_eq (pv 0) pe_str (nomark _)) (pe_one (pe_call (ok_is_name T) (hr.mono (by decide)) rfl T.g_is_name T.F_is_name.kp T.b_is_name .nil pass0 (pa_cons (pv 0) pa_nil)))))), ?_⟩
    walk_at "rt"
    unfold okWatch at q
    refine ite_d (fun h => ?_) (fun h => ?_)
    · rw [decide_eq_true (show x = ("/" : Str) from h)] at q
      exact q
    · rw [decide_eq_false (show ¬ x = ("/" : Str) from h)] at q
      exact ⟨x, rfl, hl, q⟩
theorem str_nil {x : Str} (h : x.cps.toList = []) : x = ("" : Str) := by
  cases x with
  | mk cps =>
    have : cps = #[] := Array.toList_eq_nil_iff.mp h
    rw [this]; rfl
def spSign : Sp := fun vs H Q _ => ∃ x : Str, vs = [.str x] ∧ x.length ≤ 1000 ∧ Q (.bl (okSign x)) H
theorem ok_is_sign (T : Top K mg) : FnOk P w K mg base CX0 3 T.f_is_sign T.d_is_sign ["thing"] spSign := by
  refine T.F_is_sign.ok sc_is_sign (fun vs H Q E h => ?_) (fun cdv A outer s H vs Q E hr h => ?_)
  · obtain ⟨x, rfl, _⟩ := h; rfl
  · obtain ⟨x, rfl, hl, q⟩ := h
    refine ⟨_, (pss_cons (ps_if (pt_not (pt_val (pe_callB (call_isiA (K := K) rfl) (by rfl) T.m_isinstance (by decide +kernel) (pa_cons (pv 0) (pa_cons (pe_bltn (v := .ty "str") (u := .type "str") (by rfl) T.m_str (by decide +kernel) rfl) pa_nil))))) (pss_one (ps_ret pe_bl)) pss_nil)
      (pss_one (ps_ret (pe_or (pe_cmpR op_eq (pv 0) pe_str (nomark _)) (pe_one (pe_and (pe_cmpR op_in_sign (pe_ix ix_str (pv 0) (pe_un un_neg pe_int) (fun _ _ => rfl)) pe_str (by rfl)) (pe_one (pe_call (ok_is_name T) (hr.mono (by decide)) rfl T.g_is_name T.F_is_name.kp T.b_is_name .nil pass0 (pa_cons (pe_slice sl_str (pv 0) po_none (po_some (pe_un un_neg pe_int))) pa_nil))))))))), ?_⟩
    refine seq_step ?_
    walk_at "rt"
    refine isi (r := true) (.base (.str _)) (by decide +kernel) ?_
    walk_at "rt"
    unfold okSign at q
    refine ite_d (fun h => ?_) (fun h => ?_)
    · rw [decide_eq_true (show x = ("" : Str) from h)] at q
      exact q
    · rw [decide_eq_false (show ¬ x = ("" : Str) from h)] at q
      have n0 : x.cps.toList ≠ [] := fun z => h (str_nil z)
      have hp : 0 < x.cps.toList.length := List.length_pos_iff.mpr n0
      have hlast : x.cps.toList.getLast? = some (x.cps.toList[x.cps.toList.length - 1]'(by omega)) := by
        rw [List.getLast?_eq_getElem?, List.getElem?_eq_getElem (by omega)]
      rw [hlast] at q
      refine ⟨x, -1, _, rfl, rfl, small1000' hl, (by
        unfold atI ixN
        rw [if_neg (by decide), if_pos (by omega), show ((-1 : Int) + (x.cps.toList.length : Int)).toNat = x.cps.toList.length - 1 by omega]
        exact List.getElem?_eq_getElem (by omega)), ?_⟩
      generalize x.cps.toList[x.cps.toList.length - 1] = c at *
      walk_at "rt"
      refine ⟨c, rfl, ?_⟩
      replace q : Q (.bl (false || (decide (c ∈ ("!?" : Str).cps.toList) && okName (cutS x none (some (-1)))))) H := q
      refine ite_d (fun m => ?_) (fun m => ?_)
      · rw [decide_eq_true (show c ∈ ("!?" : Str).cps.toList from m)] at q
        refine ⟨x, rfl, small1000' hl, ?_⟩
        refine ⟨_, rfl, ?_, q⟩
        unfold cutS Str.length
        simp only [List.size_toArray, List.length_take, List.length_drop]
        unfold Str.length at hl
        rw [Array.length_toList]
        omega
      · rw [decide_eq_false (show ¬ c ∈ ("!?" : Str).cps.toList from m)] at q
        exact q
theorem ok_is_whole (T : Top K mg) : FnOk P w K mg base CX0 1 T.f_is_whole T.d_is_whole ["thing"] (spWhole K) := by
  refine T.F_is_whole.ok sc_is_whole (fun vs H Q E h => ?_) (fun cdv A outer s H vs Q E hr h => ?_)
  · obtain ⟨x, t, rfl, _⟩ := h; rfl
  · obtain ⟨x, t, rfl, hx, ht, q⟩ := h
    refine ⟨_, (pss_one (ps_ret (pe_and (pe_callB (call_isiA (K := K) rfl) (by rfl) T.m_isinstance (by decide +kernel) (pa_cons (pv 0) (pa_cons (pe_bltn (v := .ty "int") (u := .type "int") (by rfl) T.m_int (by decide +kernel) rfl) pa_nil))) (pe_one (pe_not (pe_callB (call_isiA (K := K) rfl) (by rfl) T.m_isinstance (by decide +kernel) (pa_cons (pv 0) (pa_cons (pe_bltn (v := .ty "bool") (u := .type "bool") (by rfl) T.m_bool (by decide +kernel) rfl) pa_nil)))))))), ?_⟩
    walk_at "rd"
    have k1 : ∃ r, kitB t "int" = some r ∧ ∃ r2, kitB t "bool" = some r2 ∧ (decide (t = "int")) = (r && !r2) := by
      simp only [kinds, List.mem_cons, List.not_mem_nil, or_false] at ht
      rcases ht with rfl | rfl | rfl | rfl | rfl | rfl | rfl
      · exact ⟨true, by decide +kernel, false, by decide +kernel, by decide +kernel⟩
      · exact ⟨true, by decide +kernel, true, by decide +kernel, by decide +kernel⟩
      · exact ⟨false, by decide +kernel, false, by decide +kernel, by decide +kernel⟩
      · exact ⟨false, by decide +kernel, false, by decide +kernel, by decide +kernel⟩
      · exact ⟨false, by decide +kernel, false, by decide +kernel, by decide +kernel⟩
      · exact ⟨false, by decide +kernel, false, by decide +kernel, by decide +kernel⟩
      · exact ⟨false, by decide +kernel, false, by decide +kernel, by decide +kernel⟩
    obtain ⟨r, e1, r2, e2, e3⟩ := k1
    refine isi hx e1 ?_
    rw [e3] at q
    walk_at "rd"
    cases r with
    | false => exact q
    | true =>
      walk_at "rd"
      refine isi hx e2 ?_
      walk_at "rd"
      exact q
/-- words and watches: a list or tuple of texts -/
def TxS (K : PySem.W.Frag) (H : Hp) (p : Addr) (ws : List Str) : Prop := SqL K H p (ws.map V.str) ∨ SqT K H p (ws.map V.str)
theorem TxS.keep {K : PySem.W.Frag} {H H' : Hp} {p : Addr} {ws : List Str} (s : Same H H') (h : TxS K H p ws) : TxS K H' p ws := by
  rcases h with h | h
  · exact .inl (s.seq h)
  · refine .inr ?_
    rcases h with h | h
    · rcases h with h | ⟨o, h⟩
      · exact .inl (.inl (s _ _ h))
      · exact .inl (.inr ⟨o, s _ _ h⟩)
    · exact .inr h
theorem kit_no {t u : String} (h : t ∈ kinds) (n : t ≠ u) (hu : u = "tuple" ∨ u = "list" ∨ u = "str") : kitB t u = some false := by
  simp only [kinds, List.mem_cons, List.not_mem_nil, or_false] at h
  rcases hu with rfl | rfl | rfl <;> rcases h with rfl | rfl | rfl | rfl | rfl | rfl | rfl <;> first | exact absurd rfl n | decide +kernel
/-- what is none of a look, by its kind -/
inductive NoLook (K : PySem.W.Frag) (H : Hp) : V → Prop where
  | kind {x : V} {t : String} (h : TyX K H x (.type t)) (k : t ∈ kinds) (n : t ≠ "tuple") : NoLook K H x
  | len {q : Addr} {xs : List V} (h : H q = some (.tup xs)) (n : xs.length ≠ 3) : NoLook K H (.ref q)
  | first {q : Addr} {a b c : V} {t : String} (h : H q = some (.tup [a, b, c])) (ha : TyX K H a (.type t)) (k : t ∈ kinds) (n : t ≠ "str") : NoLook K H (.ref q)
  | second {q : Addr} {s : Str} {b c : V} {t : String} (h : H q = some (.tup [.str s, b, c])) (hb : TyX K H b (.type t)) (k : t ∈ kinds) (n : t ≠ "str") : NoLook K H (.ref q)
theorem NoLook.keep {K : PySem.W.Frag} {H H' : Hp} {x : V} (s : Same H H') (h : NoLook K H x) : NoLook K H' x := by
  cases h with
  | kind h k n => exact .kind (tyx_same s h) k n
  | len h n => exact .len (s _ _ h) n
  | first h ha k n => exact .first (s _ _ h) (tyx_same s ha) k n
  | second h hb k n => exact .second (s _ _ h) (tyx_same s hb) k n
def spLook (K : PySem.W.Frag) : Sp := fun vs H Q _ => (∃ (p pw ps : Addr) (l : Lq) (ws watches : List Str), vs = [.ref p, .ref pw, .ref ps] ∧ LqAt H p l ∧ TxS K H pw ws ∧ TxS K H ps watches ∧ Q (.bl (lookOk ws watches l)) H) ∨
  (∃ (x : V) (pw ps : Addr) (ws watches : List Str), vs = [x, .ref pw, .ref ps] ∧ NoLook K H x ∧ TxS K H pw ws ∧ TxS K H ps watches ∧ Q (.bl false) H)
theorem ok_is_look (T : Top K mg) : FnOk P w K mg base CX0 2 T.f_is_look T.d_is_look ["thing", "words", "watches"] (spLook K) := by
  refine T.F_is_look.ok sc_is_look (fun vs H Q E h => ?_) (fun cdv A outer s H vs Q E hr h => ?_)
  · rcases h with ⟨p, pw, ps, l, ws, watches, rfl, _⟩ | ⟨x, pw, ps, ws, watches, rfl, _⟩ <;> rfl
  · refine ⟨_, (pss_cons (ps_if (PW.pt (pw_or (pt_not (pt_val (pe_callB (call_isiA (K := K) rfl) (by rfl) T.m_isinstance (by decide +kernel) (pa_cons (pv 0) (pa_cons (pe_bltn (v := .ty "tuple") (u := .type "tuple") (by rfl) T.m_tuple (by decide +kernel) rfl) pa_nil))))) (pw_or1 (pt_cmpR op_ne (pe_callB call_len_seq (by rfl) T.m_len (by decide +kernel) (pa_cons (pv 0) pa_nil)) pe_int (nomark _))))) (pss_one (ps_ret pe_bl)) pss_nil)
      (pss_cons (ps_if (PW.pt (pw_or (pt_not (pt_val (pe_callB (call_isiA (K := K) rfl) (by rfl) T.m_isinstance (by decide +kernel) (pa_cons (pe_ix (ix_tupA (K := K) rfl) (pv 0) pe_int (fun _ _ => rfl)) (pa_cons (pe_bltn (v := .ty "str") (u := .type "str") (by rfl) T.m_str (by decide +kernel) rfl) pa_nil))))) (pw_or1 (pt_cmpR (op_notIn_seqA (K := K) rfl) (pe_ix (ix_tupA (K := K) rfl) (pv 0) pe_int (fun _ _ => rfl)) (pv 2) (by rfl))))) (pss_one (ps_ret pe_bl)) pss_nil)
      (pss_cons (ps_if (PW.pt (pw_or (pt_not (pt_val (pe_callB (call_isiA (K := K) rfl) (by rfl) T.m_isinstance (by decide +kernel) (pa_cons (pe_ix (ix_tupA (K := K) rfl) (pv 0) pe_int (fun _ _ => rfl)) (pa_cons (pe_bltn (v := .ty "str") (u := .type "str") (by rfl) T.m_str (by decide +kernel) rfl) pa_nil))))) (pw_or1 (pt_cmpR (op_notIn_seqA (K := K) rfl) (pe_ix (ix_tupA (K := K) rfl) (pv 0) pe_int (fun _ _ => rfl)) (pv 1) (by rfl))))) (pss_one (ps_ret pe_bl)) pss_nil)
      (pss_one (ps_ret (pe_and (pe_call (ok_is_whole T) (hr.mono (by decide)) rfl T.g_is_whole T.F_is_whole.kp T.b_is_whole .nil pass0 (pa_cons (pe_ix (ix_tupA (K := K) rfl) (pv 0) pe_int (fun _ _ => rfl)) pa_nil)) (pe_one (pe_cmpR op_ge (pe_ix (ix_tupA (K := K) rfl) (pv 0) pe_int (fun _ _ => rfl)) pe_int (nomark _))))))))), ?_⟩
    rcases h with ⟨p, pw, ps, ⟨a, wd, v⟩, ws, watches, rfl, ⟨e, hk⟩, hw, hs, q⟩ | ⟨x, pw, ps, ws, watches, rfl, hn, hw, hs, q⟩
    rotate_left
    · refine seq_step ?_
      walk_at "rt"
      cases hn with
      | kind h k n =>
        refine isi (r := false) h (kit_no k n (.inl rfl)) ?_
        walk_at "rt"
        exact q
      | len h n =>
        refine isi (r := true) (.base (.tup h)) (by decide +kernel) ?_
        walk_at "rt"
        refine ⟨_, .inr (sqt h), ?_⟩
        refine if_t ?_ q
        rw [decide_eq_false (by omega)]; rfl
      | first h ha k n =>
        refine isi (r := true) (.base (.tup h)) (by decide +kernel) ?_
        walk_at "rt"
        refine ⟨_, .inr (sqt h), ?_⟩
        walk_at "rt"
        refine seq_step ?_
        walk_at "rt"
        refine ix_t (sqt h) (by decide) rfl ?_
        walk_at "rt"
        refine isi (r := false) ha (kit_no k n (.inr (.inr rfl))) ?_
        walk_at "rt"
        exact q
      | @second p a b c t h hb k n =>
        refine isi (r := true) (.base (.tup h)) (by decide +kernel) ?_
        walk_at "rt"
        refine ⟨_, .inr (sqt h), ?_⟩
        walk_at "rt"
        refine seq_step ?_
        walk_at "rt"
        refine ix_t (sqt h) (by decide) rfl ?_
        walk_at "rt"
        refine isi (r := true) (.base (.str _)) (by decide +kernel) ?_
        walk_at "rt"
        refine ix_t (sqt h) (by decide) rfl ?_
        walk_at "rt"
        refine ⟨ps, _, rfl, hs, rfl, flat_of, ?_⟩
        rw [inV_str]
        by_cases m : a ∈ watches
        · rw [decide_eq_true m]
          walk_at "rt"
          refine seq_step ?_
          walk_at "rt"
          refine ix_t (sqt h) (by decide) rfl ?_
          walk_at "rt"
          refine isi (r := false) hb (kit_no k n (.inr (.inr rfl))) ?_
          walk_at "rt"
          exact q
        · rw [decide_eq_false m]
          walk_at "rt"
          exact q
    unfold lookOk at q
    refine seq_step ?_
    walk_at "rt"
    refine isi (r := true) (.base (.tup e)) (by decide +kernel) ?_
    walk_at "rt"
    refine ⟨_, .inr (sqt e), ?_⟩
    walk_at "rt"
    refine seq_step ?_
    walk_at "rt"
    refine ix_t (sqt e) (by decide) rfl ?_
    walk_at "rt"
    refine isi (r := true) (.base (.str _)) (by decide +kernel) ?_
    walk_at "rt"
    refine ix_t (sqt e) (by decide) rfl ?_
    walk_at "rt"
    refine ⟨ps, _, rfl, hs, rfl, flat_of, ?_⟩
    rw [inV_str]
    by_cases m : a ∈ watches
    · rw [decide_eq_true m] at q ⊢
      walk_at "rt"
      refine seq_step ?_
      walk_at "rt"
      refine ix_t (sqt e) (by decide) rfl ?_
      walk_at "rt"
      refine isi (r := true) (.base (.str _)) (by decide +kernel) ?_
      walk_at "rt"
      refine ix_t (sqt e) (by decide) rfl ?_
      walk_at "rt"
      refine ⟨pw, _, rfl, hw, rfl, flat_of, ?_⟩
      rw [inV_str]
      by_cases m2 : wd ∈ ws
      · rw [decide_eq_true m2] at q ⊢
        walk_at "rt"
        refine ix_t (sqt e) (by decide) rfl ?_
        obtain ⟨t, ht, ty, hi⟩ := ty_kind (K := K) (H := H) hk
        refine ⟨v, t, rfl, ty, ht, ?_⟩
        walk_at "rt"
        by_cases c : t = "int"
        · obtain ⟨n, hn⟩ := hi.mp c
          have hn : v = .int n := hn
          subst hn
          rw [decide_eq_true c]
          walk_at "rt"
          refine ix_t (sqt e) (by decide) rfl ?_
          walk_at "rt"
          exact q
        · rw [decide_eq_false c]
          walk_at "rt"
          have : numOk v = false := by
            cases v with
            | int n => exact absurd (hi.mpr ⟨n, rfl⟩) c
            | _ => rfl
          rw [this] at q
          exact q
      · rw [decide_eq_false m2] at q ⊢
        walk_at "rt"
        exact q
    · rw [decide_eq_false m] at q ⊢
      walk_at "rt"
      exact q
def ThgAt (K : PySem.W.Frag) (H : Hp) (ws watches : List Str) (x : V) (b : Bool) : Prop := (∃ q l, x = .ref q ∧ LqAt H q l ∧ b = lookOk ws watches l) ∨ (NoLook K H x ∧ b = false)
theorem ThgAt.keep {K : PySem.W.Frag} {H H' : Hp} {ws watches : List Str} {x : V} {b : Bool} (s : Same H H') (h : ThgAt K H ws watches x b) : ThgAt K H' ws watches x b := by
  rcases h with ⟨q, l, e, h, hb⟩ | ⟨h, hb⟩
  · exact .inl ⟨q, l, e, h.keep s, hb⟩
  · exact .inr ⟨h.keep s, hb⟩
def spGuard (K : PySem.W.Frag) : Sp := fun vs H Q _ => (∃ (p pw ps : Addr) (ls : List Lq) (ws watches : List Str), vs = [.ref p, .ref pw, .ref ps] ∧ LsAt H p ls ∧ TxS K H pw ws ∧ TxS K H ps watches ∧ ls.length ≤ 60 ∧ ∀ H', Same H H' → Q (.bl (guardOk ws watches ls)) H') ∨
  (∃ (p pw ps : Addr) (xs : List V) (bs : List Bool) (ws watches : List Str), vs = [.ref p, .ref pw, .ref ps] ∧ H p = some (.lst xs) ∧ xs.length = bs.length ∧ xs.length ≤ 60 ∧ (∀ (i : Nat) (x : V) (b : Bool), xs[i]? = some x → bs[i]? = some b → ThgAt K H ws watches x b) ∧ TxS K H pw ws ∧ TxS K H ps watches ∧ ∀ H', Same H H' → Q (.bl (bs.all id)) H') ∨
  (∃ (x : V) (t : String) (pw ps : Addr), vs = [x, .ref pw, .ref ps] ∧ TyX K H x (.type t) ∧ t ∈ kinds ∧ t ≠ "list" ∧ Q (.bl false) H)
theorem ok_is_guard (T : Top K mg) : FnOk P w K mg base CX0 3 T.f_is_guard T.d_is_guard ["thing", "words", "watches"] (spGuard K) := by
  refine T.F_is_guard.ok sc_is_guard (fun vs H Q E h => ?_) (fun cdv A outer s H vs Q E hr h => ?_)
  · rcases h with ⟨p, pw, ps, ls, ws, watches, rfl, _⟩ | ⟨p, pw, ps, xs, bs, ws, watches, rfl, _⟩ | ⟨x, t, pw, ps, rfl, _⟩ <;> rfl
  · refine ⟨_, (pss_one (ps_ret (pe_and (pe_callB (call_isiA (K := K) rfl) (by rfl) T.m_isinstance (by decide +kernel) (pa_cons (pv 0) (pa_cons (pe_bltn (v := .ty "list") (u := .type "list") (by rfl) T.m_list (by decide +kernel) rfl) pa_nil))) (pe_one (pe_callB (cr_all rfl) (by rfl) T.m_all (by decide +kernel) (pa_cons (lc_vs (vs := [3]) (pe_lc (own := [("look", 3)]) (g := gName 3) (tt := tYes) rfl sc_is_guard.nd (pi_listA (K := K) rfl (pv 0)) (blkOk_by (own := [("look", 3)]) (N := ["thing", "words", "watches", "look"]) (sc := defScope s_is_guard) (by decide +kernel)) (fun _ _ _ _ _ => (pg_name (i := 3) sc_is_guard.nd rfl (.inl rfl))) (fun _ _ _ _ _ => pts_nil) (fun _ _ _ _ _ => (pe_call (ok_is_look T) (hr.mono (by decide)) rfl T.g_is_look T.F_is_look.kp T.b_is_look .nil pass0 (pa_cons (pv 3) (pa_cons (pv 1) (pa_cons (pv 2) pa_nil)))))) rfl) pa_nil)))))), ?_⟩
    have key : (∃ (p pw ps : Addr) (xs : List V) (bs : List Bool) (ws watches : List Str), vs = [.ref p, .ref pw, .ref ps] ∧ H p = some (.lst xs) ∧ xs.length = bs.length ∧ xs.length ≤ 60 ∧ (∀ (i : Nat) (x : V) (b : Bool), xs[i]? = some x → bs[i]? = some b → ThgAt K H ws watches x b) ∧ TxS K H pw ws ∧ TxS K H ps watches ∧ ∀ H', Same H H' → Q (.bl (bs.all id)) H') ∨
        (∃ (x : V) (t : String) (pw ps : Addr), vs = [x, .ref pw, .ref ps] ∧ TyX K H x (.type t) ∧ t ∈ kinds ∧ t ≠ "list" ∧ Q (.bl false) H) := by
      rcases h with ⟨p, pw, ps, ls, ws, watches, rfl, ⟨qs, a, b, c⟩, hw, hs, h60, q⟩ | h
      · refine .inl ⟨p, pw, ps, qs.map V.ref, ls.map (lookOk ws watches), ws, watches, rfl, a, by simp [b], by simp; omega, fun i x bo h1 h2 => ?_, hw, hs, fun H' s' => ?_⟩
        · rw [List.getElem?_map] at h1 h2
          obtain ⟨q', e1, rfl⟩ := Option.map_eq_some_iff.mp h1
          obtain ⟨l, e2, rfl⟩ := Option.map_eq_some_iff.mp h2
          exact .inl ⟨q', l, rfl, c i q' l e1 e2, rfl⟩
        · rw [List.all_map]; exact q H' s'
      · exact h
    rcases key with ⟨p, pw, ps, xs, bs, ws, watches, rfl, a, bl, h60, c, hw, hs, q⟩ | ⟨x, t, pw, ps, rfl, ht, k, n, q⟩
    · walk_at "rt"
      refine isi (r := true) (.base (.lst a)) (by decide +kernel) ?_
      walk_at "rt"
      refine lc_src ?_
      walk_at "rd"
      refine ⟨⟨_, .of a⟩, ?_⟩
      refine lcL_vals (xs := xs) (f := pick bs V.bl (V.bl false)) a (by omega) (by simp) (fun i x H1 Q1 hi s1 h => ?_) (fun D H1 s1 _ eD => ?_)
      · have hil := (List.getElem?_eq_some_iff.mp hi).1
        have hx := List.getElem?_eq_getElem (l := bs) (i := i) (by omega)
        have tx := (c i x _ hi hx).keep s1
        have := h H1 (Same.refl _)
        rw [pick_at hx] at this
        generalize bs[i] = bo at *
        walk_at "rd"
        rcases tx with ⟨q', l, rfl, hq, rfl⟩ | ⟨hn, rfl⟩
        · exact .inl ⟨q', pw, ps, l, ws, watches, rfl, hq, hw.keep s1, hs.keep s1, this⟩
        · exact .inr ⟨x, pw, ps, ws, watches, rfl, hn, hw.keep s1, hs.keep s1, this⟩
      · refine ⟨D, bs, rfl, .of (eD.trans (by rw [bl, range_map])), ?_⟩
        exact q H1 s1
    · walk_at "rt"
      refine isi (r := false) ht (kit_no k n (.inr (.inl rfl))) ?_
      walk_at "rt"
      exact q
def spUnlike (K : PySem.W.Frag) : Sp := fun vs H Q _ => ∃ (p : Addr) (xs : List Str), vs = [.ref p] ∧ H p = some (.lst (xs.map V.str)) ∧ xs.length ≤ 1000 ∧ Q (.bl (decide xs.Nodup)) H
theorem ok_unlike (T : Top K mg) : FnOk P w K mg base CX0 1 T.f_unlike T.d_unlike ["things"] (spUnlike K) := by
  refine T.F_unlike.ok sc_unlike (fun vs H Q E h => ?_) (fun cdv A outer s H vs Q E hr h => ?_)
  · obtain ⟨p, xs, rfl, _⟩ := h; rfl
  · obtain ⟨p, xs, rfl, hx, hl, q⟩ := h
    refine ⟨_, (pss_one (ps_ret (pe_cmpR op_eq (pe_lenSetN rfl (by rfl) T.m_len (by rfl) T.m_set (pv 0)) (pe_callB call_len_seq (by rfl) T.m_len (by decide +kernel) (pa_cons (pv 0) pa_nil)) (nomark _)))), ?_⟩
    walk_at "rt"
    refine ⟨_, rfl, p, xs, rfl, .of hx, by unfold scanBound; omega, fun c hc hd => ?_⟩
    walk_at "rt"
    refine ⟨_, .inl (.of hx), ?_⟩
    rw [List.length_map]
    rw [show decide ((c : Int) = (xs.length : Int)) = decide xs.Nodup from decide_eq_decide.mpr (by rw [← hd]; omega)]
    exact q
def spOwn : Sp := fun vs H Q _ => ∃ (p : Addr) (xs : List V), vs = [.ref p] ∧ H p = some (.lst xs) ∧ ∀ q H', Same H H' → H q = none → H' q = some (.lst xs) → Q (.ref q) H'
theorem ok_own (T : Top K mg) : FnOk P w K mg base CX0 1 T.f_own T.d_own ["thing"] spOwn := by
  refine T.F_own.ok sc_own (fun vs H Q E h => ?_) (fun cdv A outer s H vs Q E hr h => ?_)
  · obtain ⟨p, xs, rfl, _⟩ := h; rfl
  · obtain ⟨p, xs, rfl, hx, q⟩ := h
    refine ⟨_, (pss_cons (ps_if (pt_val (pe_callB (call_isiA (K := K) rfl) (by rfl) T.m_isinstance (by decide +kernel) (pa_cons (pv 0) (pa_cons (pe_bltn (v := .ty "list") (u := .type "list") (by rfl) T.m_list (by decide +kernel) rfl) pa_nil)))) (pss_one (ps_ret (pe_callTy (call_listA (K := K) rfl) (by rfl) T.m_list (by decide +kernel) (pa_cons (pv 0) pa_nil)))) pss_nil)
      (pss_one (ps_ret (pv 0)))), ?_⟩
    refine seq_step ?_
    walk_at "rt"
    refine isi (r := true) (.base (.lst hx)) (by decide +kernel) ?_
    walk_at "rt"
    exact ⟨xs, .inl (.of hx), fun r H' s f e => q r H' s f e⟩
def spDoorInit (C : Addr) : Sp := fun vs H Q _ => ∃ (p dx g n : Addr) (st en sg : Str) (gl nl : List V), vs = [.ref p, .str st, .str en, .ref g, .ref n, .str sg] ∧ H p = some (.ins C dx []) ∧ H g = some (.lst gl) ∧ H n = some (.lst nl) ∧
  ∀ g' n' H', (∀ b o, H b = some o → b ≠ p → H' b = some o) → H g' = none → H n' = none → H' p = some (.ins C dx (doorF st en sg g' n')) → H' g' = some (.lst gl) → H' n' = some (.lst nl) → Q .non H'
theorem ok_Door_init (T : Top K mg) : FnOk P w K mg base CX0 2 T.f_Door_init T.d_Door_init ["self", "start", "end", "guard", "noughts", "sign"] (spDoorInit T.C_Door) := by
  refine T.F_Door_init.ok sc_Door_init (fun vs H Q E h => ?_) (fun cdv A outer s H vs Q E hr h => ?_)
  · obtain ⟨p, dx, g, n, st, en, sg, gl, nl, rfl, _⟩ := h; rfl
  · obtain ⟨p, dx, g, n, st, en, sg, gl, nl, rfl, hp, hg, hn, q⟩ := h
    refine ⟨_, (pss_cons (ps_fld (pv 0) (pv 1) rfl)
      (pss_cons (ps_fld (pv 0) (pv 2) rfl)
      (pss_cons (ps_fld (pv 0) (pv 5) rfl)
      (pss_cons (ps_fld (pv 0) (pe_call (ok_own T) (hr.mono (by decide)) rfl T.g_own T.F_own.kp T.b_own .nil pass0 (pa_cons (pv 3) pa_nil)) rfl)
      (pss_one (ps_fld (pv 0) (pe_call (ok_own T) (hr.mono (by decide)) rfl T.g_own T.F_own.kp T.b_own .nil pass0 (pa_cons (pv 4) pa_nil)) rfl)))))), ?_⟩
    have pg : g ≠ p := ne_of hg hp (by intro z; cases z)
    have pn : n ≠ p := ne_of hn hp (by intro z; cases z)
    refine seq_step ?_
    refine ⟨_, rfl, _, rfl, p, _, dx, _, rfl, hp, T.cl_Door, T.n_Door_start, (by show 0 < 1000; decide), ?_⟩
    refine seq_step ?_
    refine ⟨_, rfl, _, rfl, p, _, dx, _, rfl, upd_same, T.cl_Door, T.n_Door_end, (by show 1 < 1000; decide), ?_⟩
    refine seq_step ?_
    refine ⟨_, rfl, _, rfl, p, _, dx, _, rfl, upd_same, T.cl_Door, T.n_Door_sign, (by show 2 < 1000; decide), ?_⟩
    refine seq_step ?_
    rw [upd_upd, upd_upd]
    refine ⟨_, rfl, g, gl, rfl, (by rw [upd_ne pg]; exact hg), fun g' H2 s2 f2 e2 => ?_⟩
    have p2 : g' ≠ p := fun z => by rw [z, upd_same] at f2; cases f2
    refine ⟨_, rfl, p, _, dx, _, rfl, s2 _ _ upd_same, T.cl_Door, T.n_Door_looks, (by show 3 < 1000; decide), ?_⟩
    have hn2 : H2 n = some (.lst nl) := s2 _ _ (by rw [upd_ne pn]; exact hn)
    refine ⟨_, rfl, n, nl, rfl, (by rw [upd_ne pn]; exact hn2), fun n' H3 s3 f3 e3 => ?_⟩
    have p3 : n' ≠ p := fun z => by rw [z, upd_same] at f3; cases f3
    refine ⟨_, rfl, p, _, dx, _, rfl, s3 _ _ upd_same, T.cl_Door, T.n_Door_backs, (by show 4 < 1000; decide), ?_⟩
    rw [upd_ne p2] at f2
    rw [upd_ne p3] at f3
    have k02 : ∀ b o, H b = some o → b ≠ p → H2 b = some o := fun b o e z => s2 _ _ (by rw [upd_ne z]; exact e)
    refine q g' n' _ (fun b o e z => ?_) f2 ?_ upd_same ?_ ?_
    · rw [upd_ne z]
      exact s3 _ _ (by rw [upd_ne z]; exact k02 b o e z)
    · cases e : H n' with
      | none => rfl
      | some o => rw [k02 _ _ e p3] at f3; cases f3
    · rw [upd_ne p2]
      exact s3 _ _ (by rw [upd_ne p2]; exact e2)
    · rw [upd_ne p3]; exact e3
def spAsks (C : Addr) : Sp := fun vs H Q _ => ∃ (p : Addr) (d : DoorD), vs = [.ref p] ∧ DoorAt C H p d ∧ ∀ q H', Same H H' → H q = none → LsAt H' q d.looks → Q (.ref q) H'
theorem ok_Door_asks (T : Top K mg) : FnOk P w K mg base CX0 2 T.f_Door_asks T.d_Door_asks ["self"] (spAsks T.C_Door) := by
  refine T.F_Door_asks.ok sc_Door_asks (fun vs H Q E h => ?_) (fun cdv A outer s H vs Q E hr h => ?_)
  · obtain ⟨p, d, rfl, _⟩ := h; rfl
  · obtain ⟨p, d, rfl, ⟨dx, g, n, h1, ⟨qs, a, b, c⟩, h3⟩, q⟩ := h
    refine ⟨_, (pss_one (ps_ret (pe_call (ok_own T) (hr.mono (by decide)) rfl T.g_own T.F_own.kp T.b_own .nil pass0 (pa_cons (pe_fldA (K := K) rfl (pv 0) rfl) pa_nil)))), ?_⟩
    refine ⟨_, rfl, p, _, dx, _, _, rfl, h1, T.cl_Door, T.n_Door_looks, door_looks, g, _, rfl, a, fun r H' s' f e => q r H' s' f ⟨qs, e, b, fun i q x h1 h2 => (c i q x h1 h2).keep s'⟩⟩
def spSets (C : Addr) : Sp := fun vs H Q _ => ∃ (p : Addr) (d : DoorD), vs = [.ref p] ∧ DoorAt C H p d ∧ ∀ q H', Same H H' → H q = none → H' q = some (.lst (d.backs.map V.str)) → Q (.ref q) H'
theorem ok_Door_sets (T : Top K mg) : FnOk P w K mg base CX0 2 T.f_Door_sets T.d_Door_sets ["self"] (spSets T.C_Door) := by
  refine T.F_Door_sets.ok sc_Door_sets (fun vs H Q E h => ?_) (fun cdv A outer s H vs Q E hr h => ?_)
  · obtain ⟨p, d, rfl, _⟩ := h; rfl
  · obtain ⟨p, d, rfl, ⟨dx, g, n, h1, h2, h3⟩, q⟩ := h
    refine ⟨_, (pss_one (ps_ret (pe_call (ok_own T) (hr.mono (by decide)) rfl T.g_own T.F_own.kp T.b_own .nil pass0 (pa_cons (pe_fldA (K := K) rfl (pv 0) rfl) pa_nil)))), ?_⟩
    exact ⟨_, rfl, p, _, dx, _, _, rfl, h1, T.cl_Door, T.n_Door_backs, door_backs, n, _, rfl, h3, fun r H' s' f e => q r H' s' f e⟩
/-- texts that are lists: what the comprehension's list holds -/
theorem names_dp {H : Hp} {p : Addr} {xs : List Str} (h : H p = some (.lst (xs.map V.str))) : Dp K H (.ref p) (.list (xs.map PyData.str)) :=
  .lst (.of h) (dpall_of (by simp) fun k v d h1 h2 => by
    rw [List.getElem?_map] at h1 h2
    obtain ⟨x, hx, rfl⟩ := Option.map_eq_some_iff.mp h1
    rw [hx] at h2; cases h2
    exact .str x)
def areW (xs : List Str) : Bool := decide (xs.length ≤ 7) && (xs.all okWatch && decide xs.Nodup)
def spAreW : Sp := fun vs H Q _ => ∃ (p : Addr) (xs : List Str), vs = [.ref p] ∧ H p = some (.lst (xs.map V.str)) ∧ xs.length ≤ 60 ∧ (∀ x ∈ xs, x.length ≤ 1000) ∧ ∀ H', Same H H' → Q (.bl (areW xs)) H'
theorem ok_are_watches (T : Top K mg) : FnOk P w K mg base CX0 4 T.f_are_watches T.d_are_watches ["thing"] spAreW := by
  refine T.F_are_watches.ok sc_are_watches (fun vs H Q E h => ?_) (fun cdv A outer s H vs Q E hr h => ?_)
  · obtain ⟨p, xs, rfl, _⟩ := h; rfl
  · obtain ⟨p, xs, rfl, hx, h7, hl, q⟩ := h
    refine ⟨_, (pss_cons (ps_if (PW.pt (pw_or (pt_not (pt_val (pe_callB (call_isiA (K := K) rfl) (by rfl) T.m_isinstance (by decide +kernel) (pa_cons (pv 0) (pa_cons (pe_bltn (v := .ty "list") (u := .type "list") (by rfl) T.m_list (by decide +kernel) rfl) pa_nil))))) (pw_or1 (pt_cmpR op_gt (pe_callB call_len_seq (by rfl) T.m_len (by decide +kernel) (pa_cons (pv 0) pa_nil)) (pe_glob (v := .int 7) rfl T.g_MOST_WATCHES ⟨_, rfl⟩) (nomark _))))) (pss_one (ps_ret pe_bl)) pss_nil)
      (pss_one (ps_ret (pe_and (pe_callB (cr_all rfl) (by rfl) T.m_all (by decide +kernel) (pa_cons (lc_vs (vs := [1]) (pe_lc (own := [("watch", 1)]) (g := gName 1) (tt := tYes) rfl sc_are_watches.nd (pi_listA (K := K) rfl (pv 0)) (blkOk_by (own := [("watch", 1)]) (N := ["thing", "watch"]) (sc := defScope s_are_watches) (by decide +kernel)) (fun _ _ _ _ _ => (pg_name (i := 1) sc_are_watches.nd rfl (.inl rfl))) (fun _ _ _ _ _ => pts_nil) (fun _ _ _ _ _ => (pe_call (ok_is_watch_name T) (hr.mono (by decide)) rfl T.g_is_watch_name T.F_is_watch_name.kp T.b_is_watch_name .nil pass0 (pa_cons (pv 1) pa_nil)))) rfl) pa_nil)) (pe_one (pe_call (ok_unlike T) (hr.mono (by decide)) rfl T.g_unlike T.F_unlike.kp T.b_unlike .nil pass0 (pa_cons (pv 0) pa_nil))))))), ?_⟩
    refine seq_step ?_
    walk_at "rt"
    refine isi (r := true) (.base (.lst hx)) (by decide +kernel) ?_
    walk_at "rt"
    refine ⟨_, .inl (.of hx), ?_⟩
    rw [List.length_map]
    unfold areW at q
    refine ite_d (fun c => ?_) (fun c => ?_)
    · walk_at "rd"
      rw [show decide (xs.length ≤ 7) = false from decide_eq_false (by omega)] at q
      exact q H (Same.refl _)
    rw [show decide (xs.length ≤ 7) = true from decide_eq_true (by omega), Bool.true_and] at q
    refine lc_src ?_
    walk_at "rd"
    refine ⟨⟨_, .of hx⟩, ?_⟩
    refine lcL_vals (xs := xs.map V.str) (f := pick xs (fun x => .bl (okWatch x)) (V.bl false)) hx (by simp; omega) (by simp) (fun i x H1 Q1 hi s1 h => ?_) (fun D H1 s1 _ eD => ?_)
    · rw [List.getElem?_map] at hi
      obtain ⟨y, h1, rfl⟩ := Option.map_eq_some_iff.mp hi
      walk_at "rd"
      refine ⟨y, rfl, hl y (List.mem_of_getElem? h1), ?_⟩
      have := h H1 (Same.refl _)
      rw [pick_at h1] at this
      exact this
    · refine ⟨D, xs.map okWatch, rfl, .of (eD.trans (by rw [List.length_map, range_map, List.map_map]; rfl)), ?_⟩
      have q1 := q H1 s1
      rw [show (xs.map okWatch).all id = xs.all okWatch by rw [List.all_map]; rfl]
      generalize xs.all okWatch = r at q1 ⊢
      cases r with
      | false => walk_at "rd"; exact q1
      | true =>
        walk_at "rd"
        exact ⟨p, xs, rfl, s1 _ _ hx, by omega, q1⟩
def spRoom (K : PySem.W.Frag) : Sp := fun vs H Q _ => ∃ (p ps : Addr) (r : Rq) (watches : List Str), vs = [.ref p, .ref ps] ∧ RqAt H p r ∧ TxS K H ps watches ∧ r.1.length ≤ 1000 ∧ r.2.length ≤ 60 ∧ ∀ H', Same H H' → Q (.bl (roomOk watches r)) H'
theorem ok_is_room (T : Top K mg) : FnOk P w K mg base CX0 4 T.f_is_room T.d_is_room ["thing", "watches"] (spRoom K) := by
  refine T.F_is_room.ok sc_is_room (fun vs H Q E h => ?_) (fun cdv A outer s H vs Q E hr h => ?_)
  · obtain ⟨p, ps, r, watches, rfl, _⟩ := h; rfl
  · obtain ⟨p, ps, ⟨n, ls⟩, watches, rfl, ⟨g, e, hg⟩, hs, hn, h60, q⟩ := h
    refine ⟨_, (pss_cons (ps_if (PW.pt (pw_or (pt_not (pt_val (pe_callB (call_isiA (K := K) rfl) (by rfl) T.m_isinstance (by decide +kernel) (pa_cons (pv 0) (pa_cons (pe_bltn (v := .ty "tuple") (u := .type "tuple") (by rfl) T.m_tuple (by decide +kernel) rfl) pa_nil))))) (pw_or1 (pt_cmpR op_ne (pe_callB call_len_seq (by rfl) T.m_len (by decide +kernel) (pa_cons (pv 0) pa_nil)) pe_int (nomark _))))) (pss_one (ps_ret pe_bl)) pss_nil)
      (pss_one (ps_ret (pe_and (pe_call (ok_of_signs T) (hr.mono (by decide)) rfl T.g_of_signs T.F_of_signs.kp T.b_of_signs .nil pass0 (pa_cons (pe_ix (ix_tupA (K := K) rfl) (pv 0) pe_int (fun _ _ => rfl)) (pa_cons (pe_op op_add_str (pe_glob (v := .str "abcdefghijklmnopqrstuvwxyz") rfl T.g_LETTERS ⟨_, rfl⟩) pe_str) (pa_cons pe_int pa_nil)))) (pe_one (pe_call (ok_is_guard T) (hr.mono (by decide)) rfl T.g_is_guard T.F_is_guard.kp T.b_is_guard .nil pass0 (pa_cons (pe_ix (ix_tupA (K := K) rfl) (pv 0) pe_int (fun _ _ => rfl)) (pa_cons (pe_glob (v := .ref T.t_BELOW) rfl T.g_BELOW rfl) (pa_cons (pv 1) pa_nil))))))))), ?_⟩
    refine seq_step ?_
    walk_at "rt"
    refine isi (r := true) (.base (.tup e)) (by decide +kernel) ?_
    walk_at "rt"
    refine ⟨_, .inr (sqt e), ?_⟩
    walk_at "rt"
    refine ix_t (sqt e) (by decide) rfl ?_
    walk_at "rt"
    refine ⟨by rw [sz_line (by decide)]; trivial, ?_⟩
    refine ⟨n, _, 60, rfl, hn, ?_⟩
    unfold roomOk at q
    by_cases c : okT n (letters ++ ("/" : Str)) 60 = true
    · rw [show okT (n, ls).1 (letters ++ ("/" : Str)) 60 = true from c] at q
      rw [show okT n (Str.ofString "abcdefghijklmnopqrstuvwxyz" ++ Str.ofString "/") 60 = true from c]
      walk_at "rt"
      refine ix_t (sqt e) (by decide) rfl ?_
      exact .inl ⟨g, T.t_BELOW, _, ls, ["<", "<="], watches, rfl, hg, .inr (T.q_BELOW _), hs, h60, fun H' s' => q H' s'⟩
    · have c : okT n (letters ++ ("/" : Str)) 60 = false := by simpa using c
      rw [show okT (n, ls).1 (letters ++ ("/" : Str)) 60 = false from c] at q
      rw [show okT n (Str.ofString "abcdefghijklmnopqrstuvwxyz" ++ Str.ofString "/") 60 = false from c]
      walk_at "rt"
      exact q H (Same.refl _)
def spRooms (K : PySem.W.Frag) : Sp := fun vs H Q _ => ∃ (p ps : Addr) (rs : List Rq) (watches : List Str), vs = [.ref p, .ref ps] ∧ RsAt H p rs ∧ TxS K H ps watches ∧ (∀ r ∈ rs, r.1.length ≤ 1000 ∧ r.2.length ≤ 60 ∧ RqOk r) ∧ rs ≠ [] ∧ rs.length ≤ 200 ∧ ∀ H', Same H H' → Q (.bl (rs.all (roomOk watches) && decide (rs.map (·.1)).Nodup)) H'
theorem ok_are_rooms (T : Top K mg) : FnOk P w K mg base CX0 5 T.f_are_rooms T.d_are_rooms ["thing", "watches"] (spRooms K) := by
  refine T.F_are_rooms.ok sc_are_rooms (fun vs H Q E h => ?_) (fun cdv A outer s H vs Q E hr h => ?_)
  · obtain ⟨p, ps, rs, watches, rfl, _⟩ := h; rfl
  · obtain ⟨p, ps, rs, watches, rfl, hrs, hs, hok, hne, h200, q⟩ := h
    refine ⟨_, (pss_cons (ps_if (PW.pt (pw_or (pt_not (pt_val (pe_callB (call_isiA (K := K) rfl) (by rfl) T.m_isinstance (by decide +kernel) (pa_cons (pv 0) (pa_cons (pe_bltn (v := .ty "list") (u := .type "list") (by rfl) T.m_list (by decide +kernel) rfl) pa_nil))))) (pw_or1 (pt_cmpR (op_eqD hr.units) (pv 0) (pe_lstN pa_nil) (nomark _))))) (pss_one (ps_ret pe_bl)) pss_nil)
      (pss_one (ps_ret (pe_and (pe_callB (cr_all rfl) (by rfl) T.m_all (by decide +kernel) (pa_cons (lc_vs (vs := [2]) (pe_lc (own := [("room", 2)]) (g := gName 2) (tt := tYes) rfl sc_are_rooms.nd (pi_listA (K := K) rfl (pv 0)) (blkOk_by (own := [("room", 2)]) (N := ["thing", "watches", "room"]) (sc := defScope s_are_rooms) (by decide +kernel)) (fun _ _ _ _ _ => (pg_name (i := 2) sc_are_rooms.nd rfl (.inl rfl))) (fun _ _ _ _ _ => pts_nil) (fun _ _ _ _ _ => (pe_call (ok_is_room T) (hr.mono (by decide)) rfl T.g_is_room T.F_is_room.kp T.b_is_room .nil pass0 (pa_cons (pv 2) (pa_cons (pv 1) pa_nil))))) rfl) pa_nil)) (pe_one (pe_call (ok_unlike T) (hr.mono (by decide)) rfl T.g_unlike T.F_unlike.kp T.b_unlike .nil pass0 (pa_cons (lc_vs (vs := [2]) (pe_lc (own := [("room", 2)]) (g := gName 2) (tt := tYes) rfl sc_are_rooms.nd (pi_listA (K := K) rfl (pv 0)) (blkOk_by (own := [("room", 2)]) (N := ["thing", "watches", "room"]) (sc := defScope s_are_rooms) (by decide +kernel)) (fun _ _ _ _ _ => (pg_name (i := 2) sc_are_rooms.nd rfl (.inl rfl))) (fun _ _ _ _ _ => pts_nil) (fun _ _ _ _ _ => (pe_ix (ix_tupA (K := K) rfl) (pv 2) pe_int (fun _ _ => rfl)))) rfl) pa_nil))))))), ?_⟩
    obtain ⟨qs, a, b, c⟩ := id hrs
    refine seq_step ?_
    walk_at "rt"
    refine isi (r := true) (.base (.lst a)) (by decide +kernel) ?_
    walk_at "rt"
    intro p1 H1 s1 _ e1
    refine ⟨_, _, dp_rs (hrs.keep s1), .lst (.of e1) .nil, shaped_rs fun r h => (hok r h).2.2, rfl, ?_⟩
    have ne : PyData.eqv (.list (rs.map rdat)) (.list []) = false := by
      cases rs with
      | nil => exact absurd rfl hne
      | cons r rs => rfl
    rw [ne]
    walk_at "rt"
    refine lc_src ?_
    walk_at "rd"
    refine ⟨⟨_, .of (s1 _ _ a)⟩, ?_⟩
    refine lcL_vals (xs := qs.map V.ref) (f := pick rs (fun r => .bl (roomOk watches r)) (V.bl false)) (s1 _ _ a) (by simp; omega) (by simp) (fun i x H2 Q1 hi s2 h => ?_) (fun D H2 s2 _ eD => ?_)
    · rw [List.getElem?_map] at hi
      obtain ⟨qi, h1, rfl⟩ := Option.map_eq_some_iff.mp hi
      have hil := (List.getElem?_eq_some_iff.mp h1).1
      have hx := List.getElem?_eq_getElem (l := rs) (i := i) (by omega)
      have hk := hok _ (List.mem_of_getElem? hx)
      walk_at "rd"
      refine ⟨qi, ps, rs[i], watches, rfl, (c i qi _ h1 hx).keep (s1.trans s2), hs.keep (s1.trans s2), hk.1, hk.2.1, fun H3 s3 => ?_⟩
      have := h H3 s3
      rw [pick_at hx] at this
      exact this
    · refine ⟨D, rs.map (roomOk watches), rfl, .of (eD.trans (by rw [List.length_map, b, range_map, List.map_map]; rfl)), ?_⟩
      rw [show (rs.map (roomOk watches)).all id = rs.all (roomOk watches) by rw [List.all_map]; rfl]
      generalize rs.all (roomOk watches) = r at q ⊢
      cases r with
      | false => walk_at "rd"; exact q _ (s1.trans s2)
      | true =>
        walk_at "rd"
        refine lc_src ?_
        walk_at "rd"
        have s12 := s1.trans s2
        refine ⟨⟨_, .of (s12 _ _ a)⟩, ?_⟩
        refine lcL_vals (xs := qs.map V.ref) (f := pick rs (fun r => .str r.1) V.non) (s12 _ _ a) (by simp; omega) (by simp) (fun i x H3 Q1 hi s3 h => ?_) (fun D2 H3 s3 _ eD2 => ?_)
        · rw [List.getElem?_map] at hi
          obtain ⟨qi, h1, rfl⟩ := Option.map_eq_some_iff.mp hi
          have hil := (List.getElem?_eq_some_iff.mp h1).1
          have hx := List.getElem?_eq_getElem (l := rs) (i := i) (by omega)
          obtain ⟨g, e, _⟩ := (c i qi _ h1 hx).keep (s12.trans s3)
          walk_at "rd"
          refine ix_t (sqt e) (by decide) rfl ?_
          have := h H3 (Same.refl _)
          rw [pick_at hx] at this
          exact this
        · refine ⟨D2, rs.map (·.1), rfl, eD2.trans (by rw [List.length_map, b, range_map, List.map_map]; rfl), by simp; omega, by simpa using q _ (s12.trans s3)⟩
def spIsDoor (K : PySem.W.Frag) (C : Addr) : Sp := fun vs H Q _ => ∃ (p pw pn : Addr) (d : DoorD) (watches names : List Str), vs = [.ref p, .ref pw, .ref pn] ∧ DoorAt C H p d ∧ TxS K H pw watches ∧ TxS K H pn names ∧ d.sg.length ≤ 1000 ∧ d.looks.length ≤ 60 ∧ d.backs.length ≤ 900 ∧ ∀ H', Same H H' → Q (.bl (doorOk watches names d)) H'
theorem ok_is_door (T : Top K mg) : FnOk P w K mg base CX0 4 T.f_is_door T.d_is_door ["thing", "watches", "names"] (spIsDoor K T.C_Door) := by
  refine T.F_is_door.ok sc_is_door (fun vs H Q E h => ?_) (fun cdv A outer s H vs Q E hr h => ?_)
  · obtain ⟨p, pw, pn, d, watches, names, rfl, _⟩ := h; rfl
  · obtain ⟨p, pw, pn, d, watches, names, rfl, hd, hw, hn, hsg, h60, hb, q⟩ := h
    refine ⟨_, (pss_cons (ps_if (PW.pt (pw_or (pt_not (pt_val (pe_callB (call_isiA (K := K) rfl) (by rfl) T.m_isinstance (by decide +kernel) (pa_cons (pv 0) (pa_cons (pe_glob (v := .ref T.C_Door) rfl T.g_Door rfl) pa_nil))))) (pw_or1 (pt_not (pt_val (pe_call (ok_is_sign T) (hr.mono (by decide)) rfl T.g_is_sign T.F_is_sign.kp T.b_is_sign .nil pass0 (pa_cons (pe_fldA (K := K) rfl (pv 0) rfl) pa_nil))))))) (pss_one (ps_ret pe_bl)) pss_nil)
      (pss_cons (ps_for PassesOwn.never rfl (pi_listA (K := K) rfl (pe_lstN (pa_cons (pe_fldA (K := K) rfl (pv 0) rfl) (pa_cons (pe_fldA (K := K) rfl (pv 0) rfl) pa_nil)))) (pg_name (i := 3) sc_is_door.nd rfl (.inl rfl)) (pss_one (ps_if (PW.pt (pw_or (pt_not (pt_val (pe_callB (call_isiA (K := K) rfl) (by rfl) T.m_isinstance (by decide +kernel) (pa_cons (pv 3) (pa_cons (pe_bltn (v := .ty "str") (u := .type "str") (by rfl) T.m_str (by decide +kernel) rfl) pa_nil))))) (pw_or1 (pt_cmpR (op_notIn_seqA (K := K) rfl) (pv 3) (pv 2) (by rfl))))) (pss_one (ps_ret pe_bl)) pss_nil)))
      (pss_cons (ps_set (i := 4) sc_is_door.nd rfl (.inl rfl) (pe_meth0 (pv 0) T.cl_Door T.m_Door_sets (ok_Door_sets T) (hr.mono (by decide)) T.b_Door_sets .nil pass0))
      (pss_cons (ps_if (PW.pt (pw_or (pt_not (pt_val (pe_call (ok_is_guard T) (hr.mono (by decide)) rfl T.g_is_guard T.F_is_guard.kp T.b_is_guard .nil pass0 (pa_cons (pe_meth0 (pv 0) T.cl_Door T.m_Door_asks (ok_Door_asks T) (hr.mono (by decide)) T.b_Door_asks .nil pass0) (pa_cons (pe_glob (v := .ref T.t_WORDS) rfl T.g_WORDS rfl) (pa_cons (pv 1) pa_nil)))))) (pw_or1 (pt_not (pt_val (pe_callB (call_isiA (K := K) rfl) (by rfl) T.m_isinstance (by decide +kernel) (pa_cons (pv 4) (pa_cons (pe_bltn (v := .ty "list") (u := .type "list") (by rfl) T.m_list (by decide +kernel) rfl) pa_nil)))))))) (pss_one (ps_ret pe_bl)) pss_nil)
      (pss_one (ps_ret (pe_and (pe_callB (cr_all rfl) (by rfl) T.m_all (by decide +kernel) (pa_cons (lc_vs (vs := [5]) (pe_lc (own := [("watch", 5)]) (g := gName 5) (tt := tYes) rfl sc_is_door.nd (pi_listA (K := K) rfl (pv 4)) (blkOk_by (own := [("watch", 5)]) (N := ["thing", "watches", "names", "name", "noughts", "watch"]) (sc := defScope s_is_door) (by decide +kernel)) (fun _ _ _ _ _ => (pg_name (i := 5) sc_is_door.nd rfl (.inl rfl))) (fun _ _ _ _ _ => pts_nil) (fun _ _ _ _ _ => (pe_and (pe_callB (call_isiA (K := K) rfl) (by rfl) T.m_isinstance (by decide +kernel) (pa_cons (pv 5) (pa_cons (pe_bltn (v := .ty "str") (u := .type "str") (by rfl) T.m_str (by decide +kernel) rfl) pa_nil))) (pe_one (pe_cmpR (op_in_seqA (K := K) rfl) (pv 5) (pv 1) (by rfl)))))) rfl) pa_nil)) (pe_one (pe_call (ok_unlike T) (hr.mono (by decide)) rfl T.g_unlike T.F_unlike.kp T.b_unlike .nil pass0 (pa_cons (pv 4) pa_nil)))))))))), ?_⟩
    obtain ⟨dx, g, n, e, e2, e3⟩ := id hd
    unfold doorOk at q
    refine seq_step ?_
    walk_at "rt"
    refine is_own e T.cl_Door T.ty_Door ?_
    walk_at "rt"
    refine ⟨_, rfl, p, _, dx, _, _, rfl, e, T.cl_Door, T.n_Door_sign, door_sign, ?_⟩
    refine ⟨_, rfl, hsg, ?_⟩
    by_cases c1 : okSign d.sg = true
    · rw [c1] at q ⊢
      walk_at "rt"
      refine seq_step ?_
      refine for_li ?_
      walk_at "rt"
      refine ⟨_, rfl, p, _, dx, _, _, rfl, e, T.cl_Door, T.n_Door_start, door_start, _, rfl, p, _, dx, _, _, rfl, e, T.cl_Door, T.n_Door_end, door_end, ?_⟩
      intro pl H1 s1 f1 e1
      refine forL_by (xs := [.str d.st, .str d.en]) (fun i σ' H' => (∃ v3 v4 v5, σ' = [some (.ref p), some (.ref pw), some (.ref pn), v3, v4, v5]) ∧ H' = H1 ∧ (0 < i → d.st ∈ names) ∧ (1 < i → d.en ∈ names)) ⟨⟨_, _, _, rfl⟩, rfl, (fun h => absurd h (by omega)), (fun h => absurd h (by omega))⟩ (fun i σ H' _ ⟨_, h, _⟩ => by subst h; exact .of e1) ?_ ?_
      · rintro i x σ' H' hi ⟨⟨v3, v4, v5, rfl⟩, rfl, m1, m2⟩
        have key : ∃ nmx : Str, x = .str nmx ∧ (i = 0 ∧ nmx = d.st ∨ i = 1 ∧ nmx = d.en) := by
          cases i with
          | zero => exact ⟨d.st, by simpa using hi.symm, .inl ⟨rfl, rfl⟩⟩
          | succ i => cases i with
            | zero => exact ⟨d.en, by simpa using hi.symm, .inr ⟨rfl, rfl⟩⟩
            | succ i => simp at hi
        obtain ⟨nmx, rfl, hx⟩ := key
        walk_at "rt"
        refine isi (r := true) (.base (.str _)) (by decide +kernel) ?_
        walk_at "rt"
        refine ⟨pn, _, rfl, hn.keep s1, rfl, flat_of, ?_⟩
        rw [inV_str]
        by_cases m : nmx ∈ names
        · rw [decide_eq_true m]
          walk_at "rt"
          refine ⟨⟨_, rfl⟩, fun _ => ?_, fun h => ?_⟩
          · rcases hx with ⟨_, rfl⟩ | ⟨rfl, _⟩
            · exact m
            · exact m1 (by omega)
          · rcases hx with ⟨rfl, _⟩ | ⟨_, rfl⟩
            · omega
            · exact m
        · rw [decide_eq_false m]
          walk_at "rt"
          have q1 := q _ s1
          rcases hx with ⟨_, rfl⟩ | ⟨_, rfl⟩
          · rw [decide_eq_false m] at q1; simpa only [Bool.true_and, Bool.false_and] using q1
          · rw [decide_eq_false m] at q1; simpa only [Bool.true_and, Bool.false_and, Bool.and_false] using q1
      · rintro σ' H' ⟨⟨v3, v4, v5, rfl⟩, rfl, m1, m2⟩
        have m1 := m1 (by show 0 < 2; decide)
        have m2 := m2 (by show 1 < 2; decide)
        rw [decide_eq_true m1, decide_eq_true m2] at q
        walk_at "rd"
        refine seq_step ?_
        refine ⟨_, rfl, p, dx, _, rfl, s1 _ _ e, door_no (by decide +kernel) (by decide +kernel) (by decide +kernel) (by decide +kernel) (by decide +kernel), p, d, rfl, hd.keep s1, fun nb H2 s2 f2 e2n => ?_⟩
        walk_at "rd"
        refine seq_step ?_
        have s02 := s1.trans s2
        walk_at "rt"
        refine ⟨_, rfl, p, dx, _, rfl, s02 _ _ e, door_no (by decide +kernel) (by decide +kernel) (by decide +kernel) (by decide +kernel) (by decide +kernel), p, d, rfl, hd.keep s02, fun lg H3 s3 f3 e3g => ?_⟩
        have s03 := s02.trans s3
        walk_at "rt"
        refine .inl ⟨lg, T.t_WORDS, pw, d.looks, ["<", "<=", ">", ">=", "="], watches, rfl, e3g, .inr (T.q_WORDS _), hw.keep s03, h60, fun H4 s4 => ?_⟩
        have s04 := s03.trans s4
        have hnb := (s3.trans s4) _ _ e2n
        by_cases c2 : guardOk ["<", "<=", ">", ">=", "="] watches d.looks = true
        · rw [c2] at q ⊢
          walk_at "rt"
          refine isi (r := true) (.base (.lst hnb)) (by decide +kernel) ?_
          walk_at "rt"
          refine lc_src ?_
          walk_at "rd"
          refine ⟨⟨_, .of hnb⟩, ?_⟩
          refine lcL_vals (xs := d.backs.map V.str) (f := pick d.backs (fun b => .bl (decide (b ∈ watches))) (V.bl false)) hnb (by simp; omega) (by simp) (fun i x H5 Q1 hi s5 h => ?_) (fun D H5 s5 _ eD => ?_)
          · rw [List.getElem?_map] at hi
            obtain ⟨y, h1, rfl⟩ := Option.map_eq_some_iff.mp hi
            walk_at "rt"
            refine isi (r := true) (.base (.str _)) (by decide +kernel) ?_
            walk_at "rt"
            refine ⟨pw, _, rfl, (hw.keep (s04.trans s5)), rfl, flat_of, ?_⟩
            rw [inV_str]
            have := h _ (Same.refl _)
            rw [pick_at h1] at this
            exact this
          · refine ⟨D, d.backs.map (fun b => decide (b ∈ watches)), rfl, .of (eD.trans (by rw [List.length_map, range_map, List.map_map]; rfl)), ?_⟩
            have q1 := q _ (s04.trans s5)
            rw [show (d.backs.map (fun b => decide (b ∈ watches))).all id = d.backs.all (fun b => decide (b ∈ watches)) by rw [List.all_map]; rfl]
            generalize d.backs.all (fun b => decide (b ∈ watches)) = r at q1 ⊢
            cases r with
            | false => walk_at "rd"; simpa only [Bool.true_and, Bool.false_and, Bool.and_false] using q1
            | true =>
              walk_at "rd"
              exact ⟨nb, d.backs, rfl, s5 _ _ hnb, by omega, by simpa only [Bool.true_and] using q1⟩
        · have c2 : guardOk ["<", "<=", ">", ">=", "="] watches d.looks = false := by simpa using c2
          rw [c2] at q ⊢
          walk_at "rt"
          simpa only [Bool.true_and, Bool.false_and, Bool.and_false] using q _ s04
    · have c1 : okSign d.sg = false := by simpa using c1
      rw [c1] at q ⊢
      walk_at "rt"
      exact q _ (Same.refl _)
def spMachInit (K : PySem.W.Frag) (CM CD : Addr) : Sp := fun vs H Q _ => ∃ (p dx pw pr pd : Addr) (M : MachD), vs = [.ref p, .ref pw, .ref pr, .ref pd] ∧ H p = some (.ins CM dx []) ∧ H pw = some (.lst (M.watches.map V.str)) ∧ RsAt H pr M.rooms ∧ DsAt CD H pd M.doors ∧ MachOk M ∧
  ∀ H', OffN p H H' → MachAt CM CD H' p M → (∀ U : Addr → Prop, ListsU U H → (∀ q d, DoorAt CD H q d → d ∈ M.doors → (∃ (qs : List Addr) (i : Nat), H pd = some (.lst (qs.map V.ref)) ∧ qs[i]? = some q ∧ M.doors[i]? = some d) → DoorAt CD (remU U H) q d) → MachAt CM CD (remU U H') p M) → Q .non H'
theorem ok_Machine_init (T : Top K mg) : FnOk P w K mg base (L2.CX P w) 6 T.f_Machine_init T.d_Machine_init ["self", "watches", "rooms", "doors"] (spMachInit K T.C_Machine T.C_Door) := by
  refine T.F_Machine_init.okX sc_Machine_init (fun vs H Q E h => ?_) (fun cdv A outer s H vs Q E hr h => ?_)
  · obtain ⟨p, dx, pw, pr, pd, M, rfl, _⟩ := h; rfl
  · obtain ⟨p, dx, pw, pr, pd, M, rfl, hp, hw, hrs, hds, ok, q⟩ := h
    refine ⟨_, (pss_cons (ps_if (PW.pt (pw_or (pt_not (pt_val (pe_call (ok_are_watches T) (hr.mono (by decide)) rfl T.g_are_watches T.F_are_watches.kp T.b_are_watches .nil pass0 (pa_cons (pv 1) pa_nil)))) (pw_or (pt_not (pt_val (pe_call (ok_are_rooms T) (hr.mono (by decide)) rfl T.g_are_rooms T.F_are_rooms.kp T.b_are_rooms .nil pass0 (pa_cons (pv 2) (pa_cons (pv 1) pa_nil))))) (pw_or1 (pt_not (pt_val (pe_callB (call_isiA (K := K) rfl) (by rfl) T.m_isinstance (by decide +kernel) (pa_cons (pv 3) (pa_cons (pe_bltn (v := .ty "list") (u := .type "list") (by rfl) T.m_list (by decide +kernel) rfl) pa_nil))))))))) (pss_one (ps_raise rfl (takes_of rfl rfl rfl rfl) (pmk_own PySem.F.excBase_ValueError T.x_BadMachine T.g_BadMachine T.k_BadMachine (raises_own T.b_BadMachine T.t_BadMachine) rfl))) pss_nil)
      (pss_cons (ps_set (i := 4) sc_Machine_init.nd rfl (.inr rfl) (lc_vs (vs := [5]) (pe_lc (own := [("room", 5)]) (g := gName 5) (tt := tYes) rfl sc_Machine_init.nd (pi_listA (K := K) rfl (pv 2)) (blkOk_by (own := [("room", 5)]) (N := ["self", "watches", "rooms", "doors", "names", "room", "door"]) (sc := defScope s_Machine_init) (by decide +kernel)) (fun _ _ _ _ _ => (pg_name (i := 5) sc_Machine_init.nd rfl (.inl rfl))) (fun _ _ _ _ _ => pts_nil) (fun _ _ _ _ _ => (pe_ix (ix_tupA (K := K) rfl) (pv 5) pe_int (fun _ _ => rfl)))) rfl))
      (pss_cons (ps_if (pt_not (pt_val (pe_callB (cr_all rfl) (by rfl) T.m_all (by decide +kernel) (pa_cons (lc_vs (vs := [6]) (pe_lc (own := [("door", 6)]) (g := gName 6) (tt := tYes) rfl sc_Machine_init.nd (pi_listA (K := K) rfl (pv 3)) (blkOk_by (own := [("door", 6)]) (N := ["self", "watches", "rooms", "doors", "names", "room", "door"]) (sc := defScope s_Machine_init) (by decide +kernel)) (fun _ _ _ _ _ => (pg_name (i := 6) sc_Machine_init.nd rfl (.inl rfl))) (fun _ _ _ _ _ => pts_nil) (fun _ _ _ _ _ => (pe_call (ok_is_door T) (hr.mono (by decide)) rfl T.g_is_door T.F_is_door.kp T.b_is_door .nil pass0 (pa_cons (pv 6) (pa_cons (pv 1) (pa_cons (pv 4) pa_nil)))))) rfl) pa_nil)))) (pss_one (ps_raise rfl (takes_of rfl rfl rfl rfl) (pmk_own PySem.F.excBase_ValueError T.x_BadMachine T.g_BadMachine T.k_BadMachine (raises_own T.b_BadMachine T.t_BadMachine) rfl))) pss_nil)
      (pss_cons (ps_if (PW.pt (pw_or (pt_cmpR op_gt (pe_callB call_len_seq (by rfl) T.m_len (by decide +kernel) (pa_cons (pv 2) pa_nil)) (pe_glob (v := .int 64) rfl T.g_MOST_ROOMS ⟨_, rfl⟩) (nomark _)) (pw_or1 (pt_cmpR op_gt (pe_callB call_len_seq (by rfl) T.m_len (by decide +kernel) (pa_cons (pv 3) pa_nil)) (pe_glob (v := .int 200) rfl T.g_MOST_DOORS_machines ⟨_, rfl⟩) (nomark _))))) (pss_one (ps_raise rfl (takes_of rfl rfl rfl rfl) (pmk_own PySem.F.excBase_ValueError T.x_TooMany T.g_TooMany T.k_TooMany (raises_own T.b_TooMany T.t_TooMany) rfl))) pss_nil)
      (pss_cons (ps_fld (pv 0) (pe_callTy (call_listA (K := K) rfl) (by rfl) T.m_list (by decide +kernel) (pa_cons (pv 1) pa_nil)) rfl)
      (pss_cons (ps_fld (pv 0) (pv 4) rfl)
      (pss_cons (ps_fld (pv 0) (lc_vs (vs := [5]) (pe_lc (own := [("room", 5)]) (g := gName 5) (tt := tYes) rfl sc_Machine_init.nd (pi_listA (K := K) rfl (pv 2)) (blkOk_by (own := [("room", 5)]) (N := ["self", "watches", "rooms", "doors", "names", "room", "door"]) (sc := defScope s_Machine_init) (by decide +kernel)) (fun _ _ _ _ _ => (pg_name (i := 5) sc_Machine_init.nd rfl (.inl rfl))) (fun _ _ _ _ _ => pts_nil) (fun _ _ _ _ _ => (pe_callTy (call_listA (K := K) rfl) (by rfl) T.m_list (by decide +kernel) (pa_cons (pe_ix (ix_tupA (K := K) rfl) (pv 5) pe_int (fun _ _ => rfl)) pa_nil)))) rfl) rfl)
      (pss_one (ps_fld (pv 0) (pe_callTy (call_listA (K := K) rfl) (by rfl) T.m_list (by decide +kernel) (pa_cons (pv 3) pa_nil)) rfl))))))))), ?_⟩
    have r64 := ok.r64
    have d200 := ok.d200
    obtain ⟨dqs, d1, d2, d3⟩ := id hds
    obtain ⟨rqs, r1, r2, r3⟩ := id hrs
    refine seq_step ?_
    walk_at "rt"
    refine ⟨pw, M.watches, rfl, hw, Nat.le_trans ok.w7 (by decide), (fun x hx => by have := okWatch_len (ok.watch x hx); omega), fun H1 s1 => ?_⟩
    rw [show areW M.watches = true by unfold areW; rw [decide_eq_true ok.w7, ok.wok, decide_eq_true ok.wnd]; rfl]
    walk_at "rt"
    refine ⟨pr, pw, M.rooms, M.watches, rfl, hrs.keep s1, .inl (.of (s1 _ _ hw)), (fun r h => ok.room h), ok.rne, by omega, fun H2 s2 => ?_⟩
    rw [show (M.rooms.all (roomOk M.watches) && decide (M.rooms.map (·.1)).Nodup) = true by rw [ok.rok, decide_eq_true ok.rnd]; rfl]
    have s12 := s1.trans s2
    walk_at "rt"
    refine isi (r := true) (.base (.lst (s12 _ _ d1))) (by decide +kernel) ?_
    walk_at "rt"
    refine seq_step ?_
    walk_at "rd"
    refine lcg_src ?_
    walk_at "rd"
    refine ⟨⟨_, .of (s12 _ _ r1)⟩, ?_⟩
    refine lcF (F := fun r : Rq => V.str r.1) (zs := M.rooms) (s12 _ _ r1) (by simp [r2]) (by simp; omega) (fun i x z H3 Yes hx hz s3 hy => ?_) (fun nq H3 s3 f3 e3 => ?_)
    · rw [List.getElem?_map] at hx
      obtain ⟨qi, h1, rfl⟩ := Option.map_eq_some_iff.mp hx
      obtain ⟨g, e, _⟩ := (r3 i qi z h1 hz).keep (s12.trans s3)
      walk_at "rd"
      refine ix_t (sqt e) (by decide) rfl ?_
      exact hy _ (Same.refl _)
    · have s13 := s12.trans s3
      walk_at "rd"
      refine seq_step ?_
      walk_at "rd"
      refine lcg_src ?_
      walk_at "rd"
      refine ⟨⟨_, .of (s13 _ _ d1)⟩, ?_⟩
      refine lcF (F := fun d : DoorD => V.bl (doorOk M.watches (M.rooms.map (·.1)) d)) (zs := M.doors) (s13 _ _ d1) (by simp [d2]) (by simp; omega) (fun i x z H4 Yes hx hz s4 hy => ?_) (fun D H4 s4 f4 e4 => ?_)
      · rw [List.getElem?_map] at hx
        obtain ⟨qi, h1, rfl⟩ := Option.map_eq_some_iff.mp hx
        have s14 := s13.trans s4
        have dz := (d3 i qi z h1 hz).keep s14
        have oz := ok.door (List.mem_of_getElem? hz)
        have lz := okSign_len oz.1
        walk_at "rd"
        refine ⟨qi, pw, nq, z, M.watches, M.rooms.map (·.1), rfl, dz, .inl (.of (s14 _ _ hw)), .inl (.of (s4 _ _ (e3.trans (by rw [List.map_map]; rfl)))), by omega, ok.dsz z (List.mem_of_getElem? hz), by omega, fun H5 s5 => hy _ s5⟩
      · have s14 := s13.trans s4
        refine ⟨D, M.doors.map (doorOk M.watches (M.rooms.map (·.1))), rfl, .of (e4.trans (by rw [List.map_map]; rfl)), ?_⟩
        rw [show (M.doors.map (doorOk M.watches (M.rooms.map (·.1)))).all id = true by rw [List.all_map]; exact ok.dok]
        walk_at "rd"
        refine seq_step ?_
        walk_at "rd"
        refine ⟨_, .inl (.of (s14 _ _ r1)), ?_⟩
        refine if_f (decide_eq_false (by rw [List.length_map, r2]; omega)) ?_
        refine ⟨_, .inl (.of (s14 _ _ d1)), ?_⟩
        refine if_f (decide_eq_false (by rw [List.length_map, d2]; omega)) ?_
        have hp4 := s14 _ _ hp
        refine seq_step ?_
        refine ⟨_, rfl, pw, _, rfl, .inl (.of (s14 _ _ hw)), fun w1 H5 s5 f5 e5 => ?_⟩
        refine ⟨_, rfl, p, _, dx, _, rfl, s5 _ _ hp4, T.cl_Machine, T.n_Machine_watch_names, (by show 0 < 1000; decide), ?_⟩
        refine seq_step ?_
        refine ⟨_, rfl, _, rfl, p, _, dx, _, rfl, upd_same, T.cl_Machine, T.n_Machine_room_names, (by show 1 < 1000; decide), ?_⟩
        rw [upd_upd]
        have s15 := s14.trans s5
        generalize h6 : upd H5 p (.ins T.C_Machine dx (putF "room_names" (.ref nq) (putF "watch_names" (.ref w1) []))) = H6
        have off6 : OffN p H H6 := ⟨⟨_, dx, hp⟩, fun b o e z => by rw [← h6, upd_ne z]; exact s15 _ _ e⟩
        have hp6 : H6 p = some (.ins T.C_Machine dx (putF "room_names" (.ref nq) (putF "watch_names" (.ref w1) []))) := by rw [← h6, upd_same]
        obtain ⟨rqs6, q1, q2, q3⟩ := off6.i.rs hrs
        walk_at "rd"
        refine seq_step ?_
        refine lcg_src ?_
        refine ⟨_, rfl, pr, rfl, ⟨_, .of q1⟩, ?_⟩
        refine lcM (R := fun Hx q x => LsAt Hx q x ∧ H6 q = none) (fun H H' q x s h => ⟨LsAt.keep h.1 s, h.2⟩) (F := fun r : Rq => r.2) (zs := M.rooms) q1 (by simp [q2]) (by simp; omega) (fun i x z H7 Yes hx hz s7 hy => ?_) (fun slq H7 s7 f7 e7 => ?_)
        · rw [List.getElem?_map] at hx
          obtain ⟨qi, h1, rfl⟩ := Option.map_eq_some_iff.mp hx
          obtain ⟨g, e, ⟨gs, g1, g2, g3⟩⟩ := q3 i qi z h1 hz
          walk_at "rd"
          refine ix_t (sqt (s7 _ _ e)) (by decide) rfl ?_
          walk_at "rd"
          exact ⟨_, .inl (.of (s7 _ _ g1)), fun l H8 s8 f8 e8 => hy l H8 s8 ⟨⟨gs, cut_new f8 e8, g2, fun i q x h1 h2 => (g3 i q x h1 h2).keep (cut_same (s7.trans s8))⟩, s7.free f8⟩⟩
        · refine ⟨_, rfl, p, _, dx, _, rfl, s7 _ _ hp6, T.cl_Machine, T.n_Machine_stay_looks, (by show 2 < 1000; decide), ?_⟩
          generalize h8 : upd H7 p (.ins T.C_Machine dx (putF "stay_looks" (.ref slq) (putF "room_names" (.ref nq) (putF "watch_names" (.ref w1) [])))) = H8
          have hp8 : H8 p = some (.ins T.C_Machine dx (putF "stay_looks" (.ref slq) (putF "room_names" (.ref nq) (putF "watch_names" (.ref w1) [])))) := by rw [← h8, upd_same]
          have up68 : ∀ b o, H6 b = some o → b ≠ p → H8 b = some o := fun b o e z => by rw [← h8, upd_ne z]; exact s7 _ _ e
          have off8 : OffN p H H8 := ⟨⟨_, dx, hp⟩, fun b o e z => up68 b o (off6.2 b o e z) z⟩
          obtain ⟨dqs8, t1, t2, t3⟩ := off8.ds hds
          refine ⟨_, rfl, pd, _, rfl, .inl (.of t1), fun dl H9 s9 f9 e9 => ?_⟩
          refine ⟨_, rfl, p, _, dx, _, rfl, s9 _ _ hp8, T.cl_Machine, T.n_Machine_door_list, (by show 3 < 1000; decide), ?_⟩
          generalize h10 : upd H9 p (.ins T.C_Machine dx (putF "door_list" (.ref dl) (putF "stay_looks" (.ref slq) (putF "room_names" (.ref nq) (putF "watch_names" (.ref w1) []))))) = H10
          have up810 : ∀ b o, H8 b = some o → b ≠ p → H10 b = some o := fun b o e z => by rw [← h10, upd_ne z]; exact s9 _ _ e
          have off10 : OffN p H H10 := ⟨⟨_, dx, hp⟩, fun b o e z => up810 b o (off8.2 b o e z) z⟩
          have hp9 := s9 _ _ hp8
          have o510 : OffI p H5 H10 := ⟨⟨_, dx, _, s5 _ _ hp4⟩, fun b o e z => up810 b o (up68 b o (by rw [← h6, upd_ne z]; exact e) z) z⟩
          have o710 : OffI p H7 H10 := ⟨⟨_, dx, _, s7 _ _ hp6⟩, fun b o e z => up810 b o (by rw [← h8, upd_ne z]; exact e) z⟩
          have o910 : OffI p H9 H10 := ⟨⟨_, dx, _, hp9⟩, fun b o e z => by rw [← h10, upd_ne z]; exact e⟩
          have hp10 : H10 p = some (.ins T.C_Machine dx (machF w1 nq slq dl)) := by rw [← h10, upd_same]; rfl
          have hnq := o510.lst ((s4.trans s5) _ _ (e3.trans (by rw [List.map_map]; rfl : some (HO.lst (M.rooms.map fun r => V.str r.1)) = some (HO.lst ((M.rooms.map (·.1)).map V.str)))))
          refine q H10 off10 ⟨dx, w1, nq, slq, dl, hp10, o510.lst e5, hnq, ?_, ?_⟩ ?_
          · have e7' : SeqOf LsAt H7 slq (M.rooms.map fun r : Rq => r.2) := by
              obtain ⟨qs, a, b, c⟩ := e7
              exact ⟨qs, a, b, fun i q x h1 h2 => (c i q x h1 h2).1⟩
            exact o710.seq (fun _ _ h => o710.ls h) e7'
          · exact ⟨dqs8, o910.lst e9, t2, fun i q x h1 h2 => by
              obtain ⟨dqs', u1, u2, u3⟩ := off10.ds hds
              have : dqs' = dqs8 := by
                have e1 := off8.i.lst d1
                have e2 := off10.i.lst d1
                rw [t1] at e1; rw [u1] at e2
                have inj : ∀ xs ys : List Addr, xs.map V.ref = ys.map V.ref → xs = ys := fun xs ys h => List.map_inj_right (f := V.ref) (fun a b e => by cases e; rfl) |>.mp h
                have a1 : dqs8.map V.ref = dqs.map V.ref := by simpa using e1
                have a2 : dqs'.map V.ref = dqs.map V.ref := by simpa using e2
                exact inj _ _ (a2.trans a1.symm)
              subst this
              exact u3 i q x h1 h2⟩
          · intro U u hdU
            have lst10 : ∀ b xs, H b = some (.lst xs) → H10 b = some (.lst xs) := fun b xs e => off10.i.lst e
            have isU : ∀ b, U b → ∃ o, H b = some o := fun b h => let ⟨xs, e⟩ := u b h; ⟨_, e⟩
            have pU : ¬ U p := fun h => by
              obtain ⟨xs, e⟩ := u p h
              rw [hp] at e; cases e
            have freshU : ∀ {Hx : Hp} {b : Addr}, Same H Hx → Hx b = none → ¬ U b := fun {Hx b} s f h => by
              obtain ⟨o, e⟩ := isU b h
              rw [s _ _ e] at f; cases f
            refine ⟨dx, w1, nq, slq, dl, rem_at pU hp10, rem_at (freshU s14 f5) (o510.lst e5), rem_at (freshU s12 f3) hnq, ?_, ?_⟩
            · obtain ⟨zqs, z1, z2, z3⟩ := o710.seq (R := fun Hx q x => LsAt Hx q x ∧ H6 q = none) (fun q x h => ⟨o710.ls h.1, h.2⟩) e7
              refine ⟨zqs, rem_at (fun h => ?_) z1, z2, fun i q x h1 h2 => ?_⟩
              · obtain ⟨xs, e⟩ := u slq h
                rw [off6.i.lst e] at f7; cases f7
              · obtain ⟨y1, y2⟩ := z3 i q x h1 h2
                refine y1.rem u lst10 fun h => ?_
                obtain ⟨xs, e⟩ := u q h
                rw [off6.i.lst e] at y2; cases y2
            · refine ⟨dqs8, rem_at (fun h => ?_) (o910.lst e9), t2, fun i q x h1 h2 => ?_⟩
              · obtain ⟨xs, e⟩ := u dl h
                rw [off8.i.lst e] at f9; cases f9
              · have e8' := lst_inj t1 (off8.i.lst d1)
                subst e8'
                have dx0 := hdU q x (d3 i q x h1 h2) (List.mem_of_getElem? h2) ⟨dqs8, i, d1, h1, h2⟩
                obtain ⟨ddx, dg, dn, k1, k2, k3⟩ := dx0
                have nn := rem_of k1
                have tr : ∀ b xs, remU U H b = some (.lst xs) → remU U H10 b = some (.lst xs) := fun b xs e => rem_at (rem_of e).1 (off10.i.lst (rem_of e).2)
                have tt : ∀ b xs, remU U H b = some (.tup xs) → remU U H10 b = some (.tup xs) := fun b xs e => rem_at (rem_of e).1 (off10.i.tup (rem_of e).2)
                obtain ⟨ls1, ls2, ls3, ls4⟩ := k2
                obtain ⟨odx, og, on, oa, ob, oc⟩ := off10.door (d3 i q x h1 h2)
                have k1' : H10 q = some (.ins T.C_Door ddx (doorF x.st x.en x.sg dg dn)) := off10.2 _ _ nn.2 (fun z => by
                  rw [z, hp] at nn
                  have l := door_start (st := x.st) (en := x.en) (sg := x.sg) (g := dg) (n := dn)
                  have e : ([] : List (Str × V)) = doorF x.st x.en x.sg dg dn := by have a := nn.2; injection a with a; injection a
                  rw [← e] at l; cases l)
                exact ⟨ddx, dg, dn, rem_at nn.1 k1', ⟨ls1, tr _ _ ls2, ls3, fun i q x h1 h2 => ⟨tt _ _ (ls4 i q x h1 h2).1, (ls4 i q x h1 h2).2⟩⟩, tr _ _ k3⟩
def spMWatches (CM CD : Addr) : Sp := fun vs H Q _ => ∃ (p : Addr) (M : MachD), vs = [.ref p] ∧ MachAt CM CD H p M ∧ ∀ q H', Same H H' → H q = none → H' q = some (.lst (M.watches.map V.str)) → Q (.ref q) H'
theorem ok_Machine_watches (T : Top K mg) : FnOk P w K mg base CX0 1 T.f_Machine_watches T.d_Machine_watches ["self"] (spMWatches T.C_Machine T.C_Door) := by
  refine T.F_Machine_watches.ok sc_Machine_watches (fun vs H Q E h => ?_) (fun cdv A outer s H vs Q E hr h => ?_)
  · obtain ⟨p, M, rfl, _⟩ := h; rfl
  · obtain ⟨p, M, rfl, ⟨dx, wn, rn, sl, dl, a, b, c, d, e⟩, q⟩ := h
    refine ⟨_, (pss_one (ps_ret (pe_callTy (call_listA (K := K) rfl) (by rfl) T.m_list (by decide +kernel) (pa_cons (pe_fldA (K := K) rfl (pv 0) rfl) pa_nil)))), ?_⟩
    refine ⟨_, rfl, p, _, dx, _, _, rfl, a, T.cl_Machine, T.n_Machine_watch_names, mach_watch, ?_⟩
    walk_at "rd"
    exact ⟨_, .inl (.of b), fun l H s f e => q l H s f e⟩
def spMRooms (CM CD : Addr) : Sp := fun vs H Q _ => ∃ (p : Addr) (M : MachD), vs = [.ref p] ∧ MachAt CM CD H p M ∧ ∀ q H', Same H H' → H q = none → H' q = some (.lst ((M.rooms.map (·.1)).map V.str)) → Q (.ref q) H'
theorem ok_Machine_rooms (T : Top K mg) : FnOk P w K mg base CX0 1 T.f_Machine_rooms T.d_Machine_rooms ["self"] (spMRooms T.C_Machine T.C_Door) := by
  refine T.F_Machine_rooms.ok sc_Machine_rooms (fun vs H Q E h => ?_) (fun cdv A outer s H vs Q E hr h => ?_)
  · obtain ⟨p, M, rfl, _⟩ := h; rfl
  · obtain ⟨p, M, rfl, ⟨dx, wn, rn, sl, dl, a, b, c, d, e⟩, q⟩ := h
    refine ⟨_, (pss_one (ps_ret (pe_callTy (call_listA (K := K) rfl) (by rfl) T.m_list (by decide +kernel) (pa_cons (pe_fldA (K := K) rfl (pv 0) rfl) pa_nil)))), ?_⟩
    refine ⟨_, rfl, p, _, dx, _, _, rfl, a, T.cl_Machine, T.n_Machine_room_names, mach_room, ?_⟩
    walk_at "rd"
    exact ⟨_, .inl (.of c), fun l H s f e => q l H s f e⟩
def spMDoors (CM CD : Addr) : Sp := fun vs H Q _ => ∃ (p : Addr) (M : MachD), vs = [.ref p] ∧ MachAt CM CD H p M ∧ ∀ q H' (qs : List Addr), Same H H' → H q = none → H' q = some (.lst (qs.map V.ref)) → qs.length = M.doors.length → (∀ H0, Same H0 H → MachAt CM CD H0 p M → ∀ (i : Nat) (q : Addr) (x : DoorD), qs[i]? = some q → M.doors[i]? = some x → DoorAt CD H0 q x) → Q (.ref q) H'
theorem ok_Machine_doors (T : Top K mg) : FnOk P w K mg base CX0 1 T.f_Machine_doors T.d_Machine_doors ["self"] (spMDoors T.C_Machine T.C_Door) := by
  refine T.F_Machine_doors.ok sc_Machine_doors (fun vs H Q E h => ?_) (fun cdv A outer s H vs Q E hr h => ?_)
  · obtain ⟨p, M, rfl, _⟩ := h; rfl
  · obtain ⟨p, M, rfl, ⟨dx, wn, rn, sl, dl, a, b, c, d, ⟨qs, e1, e2, e3⟩⟩, q⟩ := h
    refine ⟨_, (pss_one (ps_ret (pe_callTy (call_listA (K := K) rfl) (by rfl) T.m_list (by decide +kernel) (pa_cons (pe_fldA (K := K) rfl (pv 0) rfl) pa_nil)))), ?_⟩
    refine ⟨_, rfl, p, _, dx, _, _, rfl, a, T.cl_Machine, T.n_Machine_door_list, mach_door, ?_⟩
    walk_at "rd"
    refine ⟨_, .inl (.of e1), fun l H' s f e => q l H' qs s f e e2 fun H0 s0 ⟨dx', wn', rn', sl', dl', a', _, _, _, ⟨qs', u1, u2, u3⟩⟩ i q x h1 h2 => ?_⟩
    have e0 := s0 _ _ a'
    rw [a] at e0
    have hf : machF wn rn sl dl = machF wn' rn' sl' dl' := by injection e0 with e0; injection e0
    obtain ⟨_, _, _, rfl⟩ := machF_inj hf
    obtain rfl := lst_inj e1 (s0 _ _ u1)
    exact u3 i q x h1 h2
theorem index_of {xs : List Str} {x : Str} (h : x ∈ xs) : ∃ j, xs.idxOf x = j ∧ (xs.map V.str)[j]? = some (.str x) ∧ ∀ (m : Nat) (z : V), m < j → (xs.map V.str)[m]? = some z → eqV z (.str x) = false := by
  refine ⟨_, rfl, ?_, fun m z hm hz => ?_⟩
  · rw [List.getElem?_map, List.getElem?_eq_getElem (List.idxOf_lt_length_of_mem h)]
    simp
  · rw [List.getElem?_map] at hz
    obtain ⟨y, h1, rfl⟩ := Option.map_eq_some_iff.mp hz
    obtain ⟨hl, h2⟩ := List.getElem?_eq_some_iff.mp h1
    have : y ≠ x := fun e => by
      have := List.not_of_lt_findIdx (p := (· == x)) (xs := xs) (i := m) hm
      rw [h2, e] at this
      simp at this
    simp [eqV, this]
def spMStay (CM CD : Addr) : Sp := fun vs H Q _ => ∃ (p : Addr) (M : MachD) (r : Rq), vs = [.ref p, .str r.1] ∧ MachAt CM CD H p M ∧ r ∈ M.rooms ∧ (M.rooms.map (·.1)).Nodup ∧ ∀ q H', Same H H' → H q = none → LsAt H' q r.2 → Q (.ref q) H'
theorem ok_Machine_stay (T : Top K mg) : FnOk P w K mg base CX0 1 T.f_Machine_stay T.d_Machine_stay ["self", "room"] (spMStay T.C_Machine T.C_Door) := by
  refine T.F_Machine_stay.ok sc_Machine_stay (fun vs H Q E h => ?_) (fun cdv A outer s H vs Q E hr h => ?_)
  · obtain ⟨p, M, r, rfl, _⟩ := h; rfl
  · obtain ⟨p, M, r, rfl, ⟨dx, wn, rn, sl, dl, a, b, c, ⟨qs, d1, d2, d3⟩, e⟩, hmem, nd, q⟩ := h
    refine ⟨_, (pss_one (ps_ret (pe_callTy (call_listA (K := K) rfl) (by rfl) T.m_list (by decide +kernel) (pa_cons (pe_ix (ix_listA (K := K) rfl) (pe_fldA (K := K) rfl (pv 0) rfl) (pe_bm PySem.F.plainAttrs_list PySem.F.slot_list_index PySem.F.type_list_index mt_index (pe_fldA (K := K) rfl (pv 0) rfl) (pa_cons (pv 1) pa_nil)) (fun _ _ => rfl)) pa_nil)))), ?_⟩
    obtain ⟨j, ej, hj, hno⟩ := index_of (List.mem_map_of_mem hmem : r.1 ∈ M.rooms.map (·.1))
    have hj2 : M.rooms[j]? = some r := by
      obtain ⟨m, hm, e2⟩ := List.mem_iff_getElem.mp hmem
      have hm2 : (M.rooms.map (·.1))[m]? = some r.1 := by rw [List.getElem?_map, List.getElem?_eq_getElem hm, e2]; rfl
      have hj3 : (M.rooms.map (·.1))[j]? = some r.1 := by
        rw [List.getElem?_map] at hj
        obtain ⟨y, h1, h2⟩ := Option.map_eq_some_iff.mp hj
        rw [h1]; exact congrArg some (by simpa using h2)
      have : m = j := (List.getElem?_inj (by simpa using hm) nd).mp (hm2.trans hj3.symm)
      rw [← this, List.getElem?_eq_getElem hm, e2]
    refine ⟨_, rfl, p, _, dx, _, _, rfl, a, T.cl_Machine, T.n_Machine_stay_looks, mach_stay, ?_⟩
    refine ⟨_, rfl, p, _, dx, _, _, rfl, a, T.cl_Machine, T.n_Machine_room_names, mach_room, .inl ⟨rfl, _, .of c⟩, ?_⟩
    walk_at "rd"
    refine ⟨rn, _, _, j, _, rfl, rfl, .of c, rfl, flat_of, hj, by simp [eqV], hno, ?_⟩
    have hjl := (List.getElem?_eq_some_iff.mp hj2).1
    rw [List.length_map] at d2
    have hq := List.getElem?_eq_getElem (l := qs) (i := j) (by omega)
    have hls := d3 j _ r.2 hq (by rw [List.getElem?_map, hj2]; rfl)
    generalize qs[j] = ql at *
    obtain ⟨rs, f1, f2, f3⟩ := hls
    refine ix_l (.of d1) (by omega) (by rw [Int.toNat_natCast, List.getElem?_map, hq]; rfl) ?_
    walk_at "rd"
    exact ⟨_, .inl (.of f1), fun l H' s' f e => q l H' s' f ⟨rs, e, f2, fun i q x h1 h2 => (f3 i q x h1 h2).keep s'⟩⟩
def spMNum (CM CD : Addr) : Sp := fun vs H Q _ => ∃ (p : Addr) (M : MachD) (x : Str), vs = [.ref p, .str x] ∧ MachAt CM CD H p M ∧ x ∈ M.watches ∧ Q (.int (((M.watches.idxOf x + 1 : Nat)) : Int)) H
theorem ok_Machine_watch_number (T : Top K mg) : FnOk P w K mg base CX0 1 T.f_Machine_watch_number T.d_Machine_watch_number ["self", "name"] (spMNum T.C_Machine T.C_Door) := by
  refine T.F_Machine_watch_number.ok sc_Machine_watch_number (fun vs H Q E h => ?_) (fun cdv A outer s H vs Q E hr h => ?_)
  · obtain ⟨p, M, x, rfl, _⟩ := h; rfl
  · obtain ⟨p, M, x, rfl, ⟨dx, wn, rn, sl, dl, a, b, c, d, e⟩, hmem, q⟩ := h
    refine ⟨_, (pss_one (ps_ret (pe_op op_add pe_int (pe_bm PySem.F.plainAttrs_list PySem.F.slot_list_index PySem.F.type_list_index mt_index (pe_fldA (K := K) rfl (pv 0) rfl) (pa_cons (pv 1) pa_nil))))), ?_⟩
    obtain ⟨j, ej, hj, hno⟩ := index_of hmem
    refine ⟨_, rfl, p, _, dx, _, _, rfl, a, T.cl_Machine, T.n_Machine_watch_names, mach_watch, .inl ⟨rfl, _, .of b⟩, ?_⟩
    walk_at "rd"
    refine ⟨wn, _, _, j, _, rfl, rfl, .of b, rfl, flat_of, hj, by simp [eqV], hno, ?_⟩
    rw [ej] at q
    refine ⟨_, rfl, ?_⟩
    rw [show (1 : Int) + (j : Int) = ((j + 1 : Nat) : Int) by omega]
    exact q
abbrev WORDS : List Str := ["<", "<=", ">", ">=", "="]
/-! ### what is new between two heaps -/
open Classical in
noncomputable def newH (H H' : Hp) : Hp := fun b => if H b = none then H' b else none
theorem new_at {H H' : Hp} {b : Addr} {o : HO} (f : H b = none) (e : H' b = some o) : newH H H' b = some o := by unfold newH; rw [if_pos f]; exact e
theorem new_of {H H' : Hp} {b : Addr} {o : HO} (e : newH H H' b = some o) : H b = none ∧ H' b = some o := by
  unfold newH at e
  by_cases h : H b = none
  · rw [if_pos h] at e; exact ⟨h, e⟩
  · rw [if_neg h] at e; cases e
theorem new_sub {H H' : Hp} : Same (newH H H') H' := fun b o e => (new_of e).2
theorem new_mono {H1 H H' H2 : Hp} (s1 : Same H1 H) (s2 : Same H' H2) : Same (newH H H') (newH H1 H2) := fun b o e => by
  have := new_of e
  exact new_at (s1.free this.1) (s2 _ _ this.2)
theorem new_later {H H' H2 : Hp} (s2 : Same H' H2) : Same (newH H H') (newH H H2) := new_mono (Same.refl _) s2
theorem new_del {H H' : Hp} {D : Addr} {o : HO} (e : H D = some o) : Same (newH H H') (delH D H') := fun b o' h => by
  have := new_of h
  exact del_at (fun z => by rw [z, e] at this; cases this.1) this.2
theorem new_upd {H H' : Hp} {g : Addr} {o : HO} (f : H g = none) : newH H (upd H' g o) = upd (newH H H') g o := by
  funext b
  by_cases h : b = g
  · rw [h, upd_same]; exact new_at f upd_same
  · rw [upd_ne h]
    unfold newH
    rw [upd_ne h]
theorem new_refl {H : Hp} {b : Addr} : newH H H b = none := by
  unfold newH
  by_cases h : H b = none
  · rw [if_pos h, h]
  · rw [if_neg h]
/-! ### the law's own machines, as they are drawn -/
structure LDoor where
  b : Nat
  e : Nat
  gd : List Lq
  ns : List Str
  sg : Str
def LDoorAt (H : Hp) (q : Addr) (d : LDoor) : Prop := ∃ g n, H q = some (.tup [.int d.b, .int d.e, .ref g, .ref n, .str d.sg]) ∧ LsAt H g d.gd ∧ H n = some (.lst (d.ns.map V.str))
theorem LDoorAt.keep {H H' : Hp} {q : Addr} {d : LDoor} (s : Same H H') (h : LDoorAt H q d) : LDoorAt H' q d := by
  obtain ⟨g, n, a, b, c⟩ := h
  exact ⟨g, n, s _ _ a, b.keep s, s _ _ c⟩
structure Spec where
  watches : List Str
  rooms : List Rq
  doors : List LDoor
def SpecAt (H : Hp) (q : Addr) (S : Spec) : Prop := ∃ w r d, H q = some (.tup [.ref w, .ref r, .ref d]) ∧ H w = some (.lst (S.watches.map V.str)) ∧ RsAt H r S.rooms ∧ SeqOf LDoorAt H d S.doors
theorem SpecAt.keep {H H' : Hp} {q : Addr} {S : Spec} (s : Same H H') (h : SpecAt H q S) : SpecAt H' q S := by
  obtain ⟨w, r, d, a, b, c, e⟩ := h
  exact ⟨w, r, d, s _ _ a, s _ _ b, c.keep s, SeqOf.keep (fun _ _ => LDoorAt.keep s) s e⟩
def NumsOk (ls : List Lq) : Prop := ∀ l ∈ ls, ∃ n : Int, l.2.2 = .int n ∧ 0 ≤ n ∧ Sz 210 n
structure SpecOk (S : Spec) : Prop where
  w : NamesOk S.watches S.watches.length
  w2 : S.watches.length ≤ 2
  r : NamesOk (S.rooms.map (·.1)) S.rooms.length
  r1 : 1 ≤ S.rooms.length
  r4 : S.rooms.length ≤ 4
  st : ∀ r ∈ S.rooms, guardOk ["<", "<="] S.watches r.2 = true ∧ r.2.length ≤ 2 ∧ NumsOk r.2
  d6 : S.doors.length ≤ 6
  d : ∀ d ∈ S.doors, d.b < S.rooms.length ∧ d.e < S.rooms.length ∧ guardOk WORDS S.watches d.gd = true ∧ d.gd.length ≤ 2 ∧ NumsOk d.gd ∧ d.ns.Nodup ∧ (∀ x ∈ d.ns, x ∈ S.watches) ∧ (d.sg = "" ∨ d.sg = "go!")
def Spec.name (S : Spec) (i : Nat) : Str := (S.rooms.map (·.1)).getD i ""
def Spec.door (S : Spec) (d : LDoor) : DoorD := ⟨S.name d.b, S.name d.e, d.sg, d.gd, d.ns⟩
def Spec.mach (S : Spec) : MachD := ⟨S.watches, S.rooms, S.doors.map S.door⟩
theorem okName_okT {x : Str} (h : okName x = true) : okT x (letters ++ ("/" : Str)) 60 = true := by
  unfold okName okT at h
  rw [Bool.and_eq_true, Bool.and_eq_true, List.all_eq_true] at h
  unfold okT
  rw [Bool.and_eq_true, Bool.and_eq_true, List.all_eq_true]
  refine ⟨⟨h.1.1, decide_eq_true (by have := of_decide_eq_true h.1.2; omega)⟩, fun c hc => decide_eq_true ?_⟩
  have := of_decide_eq_true (h.2 c hc)
  rw [show (letters ++ ("/" : Str)).cps.toList = letters.cps.toList ++ ("/" : Str).cps.toList by decide +kernel]
  exact List.mem_append_left _ this
theorem name_at {S : Spec} {i : Nat} (h : i < S.rooms.length) : ∃ r : Rq, S.rooms[i]? = some r ∧ S.name i = r.1 := by
  refine ⟨S.rooms[i], List.getElem?_eq_getElem h, ?_⟩
  unfold Spec.name
  rw [List.getD_eq_getElem?_getD, List.getElem?_map, List.getElem?_eq_getElem h]; rfl
theorem name_mem {S : Spec} {i : Nat} (h : i < S.rooms.length) : S.name i ∈ S.rooms.map (·.1) := by
  obtain ⟨r, h1, h2⟩ := name_at h
  rw [h2]; exact List.mem_map_of_mem (List.mem_of_getElem? h1)
theorem SpecOk.mach {S : Spec} (h : SpecOk S) : MachOk S.mach where
  w7 := by show S.watches.length ≤ 7; have := h.w2; omega
  wok := List.all_eq_true.mpr fun x hx => by
    have := h.w.2.1 x hx
    unfold okWatch; rw [this, Bool.or_true]
  wnd := h.w.2.2.1
  rok := List.all_eq_true.mpr fun r hr => by
    have h1 := okName_okT (h.r.2.1 r.1 (List.mem_map_of_mem hr))
    have h2 := (h.st r hr).1
    unfold roomOk
    rw [h1]
    exact h2
  rnd := h.r.2.2.1
  rne := fun z => by
    have h1 := h.r1
    have z : S.rooms = [] := z
    rw [z] at h1; simp at h1
  r64 := by show S.rooms.length ≤ 64; have := h.r4; omega
  dok := List.all_eq_true.mpr fun d hd => by
    obtain ⟨d', hd', rfl⟩ := List.mem_map.mp hd
    obtain ⟨a, b, c, _, _, e, f, g⟩ := h.d d' hd'
    unfold doorOk
    have s1 : okSign (S.door d').sg = true := by
      show okSign d'.sg = true
      rcases g with g | g <;> rw [g] <;> decide +kernel
    have s2 : (S.door d').backs.all (fun b => decide (b ∈ S.mach.watches)) = true := List.all_eq_true.mpr fun x hx => decide_eq_true (f x hx)
    rw [s1, s2, decide_eq_true (show (S.door d').st ∈ S.mach.rooms.map (·.1) from name_mem a), decide_eq_true (show (S.door d').en ∈ S.mach.rooms.map (·.1) from name_mem b), decide_eq_true (show (S.door d').backs.Nodup from e)]
    have s3 : guardOk ["<", "<=", ">", ">=", "="] S.mach.watches (S.door d').looks = true := c
    rw [s3]; rfl
  d200 := by show (S.doors.map S.door).length ≤ 200; rw [List.length_map]; have := h.d6; omega
  rsz := fun r hr => by have := (h.st r hr).2.1; omega
  dsz := fun d hd => by
    obtain ⟨d', hd', rfl⟩ := List.mem_map.mp hd
    have := (h.d d' hd').2.2.2.1
    show d'.gd.length ≤ 60
    omega
abbrev lqKeep : ∀ (H H' : Hp) (q : Addr) (x : Lq), Same H H' → LqAt H q x → LqAt H' q x := fun _ _ _ _ s h => LqAt.keep s h
theorem pick_word {ws : List Str} {i : Int} (h : 0 ≤ i ∧ i < (ws.length : Int)) : ∃ x, (ws.map V.str)[i.toNat]? = some (.str x) ∧ x ∈ ws := by
  have h1 : i.toNat < ws.length := by omega
  exact ⟨ws[i.toNat], by rw [List.getElem?_map, List.getElem?_eq_getElem h1]; rfl, List.getElem_mem h1⟩
theorem RqAt.keep' : ∀ (H H' : Hp) (q : Addr) (x : Rq), Same H H' → RqAt H q x → RqAt H' q x := fun _ _ _ _ s h => RqAt.keep s h
def PlAt (ws : List Str) (H : Hp) (q : Addr) (l : Lq) : Prop := ∃ n : Int, l.2.2 = .int n ∧ H q = some (.tup [.int ((ws.idxOf l.1 + 1 : Nat) : Int), .str l.2.1, .int n])
/-- what is none of a guard -/
inductive NoGuard (K : PySem.W.Frag) (H : Hp) (ws watches : List Str) : V → Prop where
  | lst {p : Addr} {xs : List V} {bs : List Bool} (h : H p = some (.lst xs)) (hl : xs.length = bs.length) (h60 : xs.length ≤ 60) (c : ∀ (i : Nat) (x : V) (b : Bool), xs[i]? = some x → bs[i]? = some b → ThgAt K H ws watches x b) (bad : bs.all id = false) : NoGuard K H ws watches (.ref p)
  | kind {x : V} {t : String} (h : TyX K H x (.type t)) (k : t ∈ kinds) (n : t ≠ "list") : NoGuard K H ws watches x
def spPlaced (K : PySem.W.Frag) (CM CD CN : Addr) : Sp := fun vs H Q E => (∃ (pm pg : Addr) (M : MachD) (ls : List Lq), vs = [.ref pm, .ref pg] ∧ MachAt CM CD H pm M ∧ LsAt H pg ls ∧ ls.length ≤ 60 ∧
  ((guardOk WORDS M.watches ls = true ∧ ∀ p H', Same H H' → H p = none → SeqOf (PlAt M.watches) H' p ls → Q (.ref p) H') ∨ (guardOk WORDS M.watches ls = false ∧ ∀ H', Same H H' → E (.ref CN) none H'))) ∨
  (∃ (pm : Addr) (x : V) (M : MachD), vs = [.ref pm, x] ∧ MachAt CM CD H pm M ∧ NoGuard K H WORDS M.watches x ∧ ∀ H', Same H H' → E (.ref CN) none H')
theorem ok_placed (T : Top K mg) : FnOk P w K mg base (L2.CX P w) 4 T.f_placed T.d_placed ["machine", "guard"] (spPlaced K T.C_Machine T.C_Door T.C_NoMark) := by
  refine T.F_placed.okX sc_placed (fun vs H Q E h => ?_) (fun cdv A outer s H vs Q E hr h => ?_)
  · rcases h with ⟨pm, pg, M, ls, rfl, _⟩ | ⟨pm, x, M, rfl, _⟩ <;> rfl
  · refine ⟨_, (pss_cons (ps_set (i := 2) sc_placed.nd rfl (.inl rfl) (pe_meth0 (pv 0) T.cl_Machine T.m_Machine_watches (ok_Machine_watches T) (hr.mono (by decide)) T.b_Machine_watches .nil pass0))
      (pss_cons (ps_if (pt_not (pt_val (pe_call (ok_is_guard T) (hr.mono (by decide)) rfl T.g_is_guard T.F_is_guard.kp T.b_is_guard .nil pass0 (pa_cons (pv 1) (pa_cons (pe_glob (v := .ref T.t_WORDS) rfl T.g_WORDS rfl) (pa_cons (pv 2) pa_nil)))))) (pss_one (ps_raise rfl (takes_of rfl rfl rfl rfl) (pmk_own PySem.F.excBase_ValueError T.x_NoMark T.g_NoMark T.k_NoMark (raises_own T.b_NoMark T.t_NoMark) rfl))) pss_nil)
      (pss_one (ps_ret (lc_vs (vs := [3, 4, 5]) (pe_lc (own := [("watch", 3), ("word", 4), ("number", 5)]) (tt := tYes) rfl sc_placed.nd (pi_listA (K := K) rfl (pv 1)) (blkOk_by (own := [("watch", 3), ("word", 4), ("number", 5)]) (N := ["machine", "guard", "watches", "watch", "word", "number"]) (sc := defScope s_placed) (by decide +kernel)) (fun _ _ _ _ _ => (pg_tupA (K := K) (n := 3) rfl (by rfl) (pgs_cons (pg_name (i := 3) sc_placed.nd rfl (.inl rfl)) (pgs_cons (pg_name (i := 4) sc_placed.nd rfl (.inl rfl)) (pgs_cons (pg_name (i := 5) sc_placed.nd rfl (.inl rfl)) pgs_nil))))) (fun _ _ _ _ _ => pts_nil) (fun _ _ _ _ _ => (pe_tupN (pa_cons (pe_meth (pv 0) T.cl_Machine T.m_Machine_watch_number (ok_Machine_watch_number T) (hr.mono (by decide)) T.b_Machine_watch_number .nil pass0 (pa_cons (pv 3) pa_nil)) (pa_cons (pv 4) (pa_cons (pv 5) pa_nil)))))) rfl))))), ?_⟩
    rcases h with ⟨pm, pg, M, ls, rfl, hm, hg, h60, q⟩ | ⟨pm, x, M, rfl, hm, hn, q⟩
    rotate_left
    · obtain ⟨dx, wn, rn, sl, dl, a, _⟩ := id hm
      refine seq_step ?_
      refine ⟨_, rfl, pm, dx, _, rfl, a, mach_no (by decide +kernel) (by decide +kernel) (by decide +kernel) (by decide +kernel), pm, M, rfl, hm, fun wq H1 s1 f1 e1 => ?_⟩
      walk_at "rd"
      refine seq_step ?_
      walk_at "rt"
      cases hn with
      | @lst p xs bs h hl h60 c bad =>
        refine .inr (.inl ⟨p, T.t_WORDS, wq, xs, bs, WORDS, M.watches, rfl, s1 _ _ h, hl, h60, fun i x b h1 h2 => (c i x b h1 h2).keep s1, .inr (T.q_WORDS _), .inl (.of e1), fun H2 s2 => ?_⟩)
        rw [bad]
        walk_at "rd"
        exact q _ (s1.trans s2)
      | kind h k n =>
        refine .inr (.inr ⟨_, _, T.t_WORDS, wq, rfl, tyx_same s1 h, k, n, ?_⟩)
        walk_at "rd"
        exact q _ s1
    obtain ⟨dx, wn, rn, sl, dl, a, _⟩ := id hm
    obtain ⟨qs, g1, g2, g3⟩ := id hg
    refine seq_step ?_
    refine ⟨_, rfl, pm, dx, _, rfl, a, mach_no (by decide +kernel) (by decide +kernel) (by decide +kernel) (by decide +kernel), pm, M, rfl, hm, fun wq H1 s1 f1 e1 => ?_⟩
    walk_at "rd"
    refine seq_step ?_
    walk_at "rt"
    refine .inl ⟨pg, T.t_WORDS, wq, ls, WORDS, M.watches, rfl, hg.keep s1, .inr (T.q_WORDS _), .inl (.of e1), h60, fun H2 s2 => ?_⟩
    have s12 := s1.trans s2
    rcases q with ⟨ok, q⟩ | ⟨bad, q⟩
    · rw [ok]
      walk_at "rd"
      refine lcg_src ?_
      walk_at "rd"
      refine ⟨⟨_, .of (s12 _ _ g1)⟩, ?_⟩
      refine lcM (R := PlAt M.watches) (fun H H' q x s ⟨n, h1, h2⟩ => ⟨n, h1, s _ _ h2⟩) (F := id) (zs := ls) (s12 _ _ g1) (by simp [g2]) (by simp; omega) (fun i x z H3 Yes hx hz s3 hy => ?_) (fun D H3 s3 f3 e3 => ?_)
      · rw [List.getElem?_map] at hx
        obtain ⟨qi, h1, rfl⟩ := Option.map_eq_some_iff.mp hx
        have s13 := s12.trans s3
        obtain ⟨ez, kz⟩ := (g3 i qi z h1 hz).keep s13
        have lz := List.all_eq_true.mp ok z (List.mem_of_getElem? hz)
        unfold lookOk at lz
        rw [Bool.and_eq_true, Bool.and_eq_true] at lz
        have wz := of_decide_eq_true lz.1.1
        obtain ⟨n, hn⟩ : ∃ n, z.2.2 = .int n := by
          have := lz.2
          cases hv : z.2.2 <;> rw [hv] at this <;> first | exact ⟨_, rfl⟩ | cases this
        refine gTup_of (sqt ez) rfl ?_
        walk_at "rd"
        refine ⟨_, rfl, pm, dx, _, rfl, s13 _ _ a, mach_no (by decide +kernel) (by decide +kernel) (by decide +kernel) (by decide +kernel), ?_⟩
        walk_at "rd"
        refine ⟨pm, M, z.1, rfl, hm.keep s13, wz, ?_⟩
        intro r H4 s4 f4 e4
        exact hy r H4 s4 ⟨n, hn, cut_new f4 (by rw [← hn]; exact e4)⟩
      · exact q D H3 (s12.trans s3) (s12.free f3) (by simpa using e3)
    · rw [bad]
      walk_at "rd"
      exact q _ s12
def markOk (M : MachD) (r : Rq) : Bool := decide (r.1 ∈ M.rooms.map (·.1)) && guardOk WORDS M.watches r.2
def spChecked (K : PySem.W.Frag) (CM CD CN : Addr) : Sp := fun vs H Q E => ∃ (pm pg : Addr) (M : MachD) (gs : List Rq), vs = [.ref pm, .ref pg] ∧ MachAt CM CD H pm M ∧ RsAt H pg gs ∧ (∀ r ∈ gs, r.2.length ≤ 60) ∧ gs.length ≤ 900 ∧
  ((gs.all (markOk M) = true ∧ ∀ H', Same H H' → Q .non H') ∨ (gs.all (markOk M) = false ∧ ∀ H', Same H H' → E (.ref CN) none H'))
theorem NoGuard.keep {K : PySem.W.Frag} {H H' : Hp} {ws watches : List Str} {x : V} (s : Same H H') (h : NoGuard K H ws watches x) : NoGuard K H' ws watches x := by
  cases h with
  | lst h hl h60 c bad => exact .lst (s _ _ h) hl h60 (fun i x b h1 h2 => (c i x b h1 h2).keep s) bad
  | kind h k n => exact .kind (tyx_same s h) k n
def spAdded (K : PySem.W.Frag) : Sp := fun vs H Q _ => ∃ (x y : Option Int), vs = [oV x, oV y] ∧ (∀ a b, x = some a → y = some b → Sz 10000 (a / 2 + b / 2)) ∧ Q (oV (addO x y)) H
theorem ok_added (T : Top K mg) : FnOk P w K mg base CX0 1 T.f_added T.d_added ["one", "other"] (spAdded K) := by
  refine T.F_added.ok sc_added (fun vs H Q E h => ?_) (fun cdv A outer s H vs Q E hr h => ?_)
  · obtain ⟨a, b, rfl, _⟩ := h; rfl
  · obtain ⟨x, y, rfl, h1, q⟩ := h
    refine ⟨_, (pss_cons (ps_if (PW.pt (pw_or (pt_cmpR op_isN (pv 0) pe_non (nomark _)) (pw_or1 (pt_cmpR op_isN (pv 1) pe_non (nomark _))))) (pss_one (ps_ret pe_non)) pss_nil)
      (pss_one (ps_ret (pe_op op_or (pe_op op_shlW (pe_op op_add (pe_op op_shr (pv 0) pe_int) (pe_op op_shr (pv 1) pe_int)) pe_int) (pe_op op_and (pe_op op_and (pv 0) (pv 1)) pe_int))))), ?_⟩
    refine seq_step ?_
    cases x with
    | none => 
      simp only [oV_none]
      walk_at "rd"
      exact q
    | some a =>
      cases y with
      | none =>
        simp only [oV_none, oV_some]
        walk_at "rd"
        exact q
      | some b =>
        simp only [oV_some]
        walk_at "rd"
        rw [bit_sum]
        exact ⟨shl1 (h1 a b rfl rfl) (by omega), q⟩
theorem added_i {K : PySem.W.Frag} {a b : Int} {H : Hp} {Q : VK} {E : XK} (h : Sz 10000 (a / 2 + b / 2)) (q : Q (.int (2 * (a / 2 + b / 2) + (if a % 2 = 1 ∧ b % 2 = 1 then 1 else 0))) H) : spAdded K [.int a, .int b] H Q E :=
  ⟨some a, some b, rfl, fun _ _ e1 e2 => by cases e1; cases e2; exact h, q⟩
theorem added_n1 {K : PySem.W.Frag} {H : Hp} {Q : VK} {E : XK} (x : Option Int) (q : Q .non H) : spAdded K [.non, oV x] H Q E := ⟨none, x, rfl, (fun _ _ e1 _ => nomatch e1), q⟩
theorem added_n2 {K : PySem.W.Frag} {H : Hp} {Q : VK} {E : XK} (x : Option Int) (q : Q .non H) : spAdded K [oV x, .non] H Q E := ⟨x, none, rfl, (fun _ _ _ e1 => nomatch e1), by cases x <;> exact q⟩
def spNarrower (K : PySem.W.Frag) : Sp := fun vs H Q _ => ∃ (x y : Option Int), vs = [oV x, oV y] ∧ Q (oV (narO x y)) H
theorem ok_narrower (T : Top K mg) : FnOk P w K mg base CX0 1 T.f_narrower T.d_narrower ["one", "other"] (spNarrower K) := by
  refine T.F_narrower.ok sc_narrower (fun vs H Q E h => ?_) (fun cdv A outer s H vs Q E hr h => ?_)
  · obtain ⟨x, y, rfl, _⟩ := h; rfl
  · obtain ⟨x, y, rfl, q⟩ := h
    refine ⟨_, (pss_cons (ps_if (pt_cmpR op_isN (pv 0) pe_non (nomark _)) (pss_one (ps_ret (pv 1))) pss_nil)
      (pss_cons (ps_if (pt_cmpR op_isN (pv 1) pe_non (nomark _)) (pss_one (ps_ret (pv 0))) pss_nil)
      (pss_one (ps_ret (pe_callB (call_min2 rfl) (by rfl) T.m_min (by decide +kernel) (pa_cons (pv 0) (pa_cons (pv 1) pa_nil))))))), ?_⟩
    refine seq_step ?_
    cases x with
    | none =>
      simp only [oV_none]
      walk_at "rd"
      cases y <;> exact q
    | some a =>
      simp only [oV_some]
      walk_at "rd"
      refine seq_step ?_
      cases y with
      | none =>
        simp only [oV_none]
        walk_at "rd"
        exact q
      | some b =>
        simp only [oV_some]
        walk_at "rd"
        exact q
def spThrough (K : PySem.W.Frag) : Sp := fun vs H Q _ => ∃ (p : Addr) (as : List Addr) (n : Nat) (M : Mx) (k s : Nat), vs = [.ref p, .int k] ∧ ZAt H p as n M ∧ k < n ∧ n ≤ 60 ∧ SzM s M ∧ s + 2 * n * n ≤ 9000 ∧
  ∀ H', ZAt H' p as n (thr n k M) → (∀ b o, b ∉ as → H b = some o → H' b = some o) → Q .non H'
theorem ok_through (T : Top K mg) : FnOk P w K mg base CX0 2 T.f_through T.d_through ["rows", "k"] (spThrough K) := by
  refine T.F_through.ok sc_through (fun vs H Q E h => ?_) (fun cdv A outer s H vs Q E hr h => ?_)
  · obtain ⟨p, as, n, M, k, s, rfl, _⟩ := h; rfl
  · obtain ⟨p, as, n, M, k, sz, rfl, z, hk, hn, hs, hb, q⟩ := h
    refine ⟨_, (pss_cons (ps_set (i := 2) sc_through.nd rfl (.inl rfl) (pe_ix (ix_listA (K := K) rfl) (pv 0) (pv 1) (fun _ _ => rfl)))
      (pss_one (ps_for PassesOwn.never rfl (pi_listA (K := K) rfl (pv 0)) (pg_name (i := 3) sc_through.nd rfl (.inl rfl)) (pss_one (ps_if (pt_cmpR op_notN (pe_ix (ix_listA (K := K) rfl) (pv 3) (pv 1) (fun _ _ => rfl)) pe_non (nomark _)) (pss_one (ps_for PassesOwn.never rfl (pi_range1 (by rfl) T.m_range (pa_cons (pe_callB call_len_seq (by rfl) T.m_len (by decide +kernel) (pa_cons (pv 2) pa_nil)) pa_nil)) (pg_name (i := 4) sc_through.nd rfl (.inl rfl)) (pss_one (ps_asg (pe_call (ok_narrower T) (hr.mono (by decide)) rfl T.g_narrower T.F_narrower.kp T.b_narrower .nil pass0 (pa_cons (pe_ix (ix_listA (K := K) rfl) (pv 3) (pv 4) (fun _ _ => rfl)) (pa_cons (pe_call (ok_added T) (hr.mono (by decide)) rfl T.g_added T.F_added.kp T.b_added .nil pass0 (pa_cons (pe_ix (ix_listA (K := K) rfl) (pv 3) (pv 1) (fun _ _ => rfl)) (pa_cons (pe_ix (ix_listA (K := K) rfl) (pv 2) (pv 4) (fun _ _ => rfl)) pa_nil))) pa_nil))) (pg_sub (pv 3) (pv 4) set_list))))) pss_nil))))), ?_⟩
    refine seq_step ?_
    walk_at "rd"
    obtain ⟨w, ew, ew2, hw⟩ := z.get hk
    refine ix_l (.of z.top) (by omega) (by rw [Int.toNat_natCast]; exact ew2) ?_
    walk_at "rd"
    refine for_li ?_
    walk_at "rd"
    refine forL_by (xs := as.map V.ref) (fun i σ' H' => ∃ v3 v4, σ' = [some (.ref p), some (.int k), some (.ref w), v3, v4] ∧ ZAt H' p as n (iter (rowst n k) i M) ∧ (∀ b o, b ∉ as → H b = some o → H' b = some o)) ⟨_, _, rfl, z, fun _ _ _ e => e⟩ (fun i σ H' _ ⟨_, _, _, z', _⟩ => .of z'.top) ?_ ?_
    · rintro i x σ' H1 hi ⟨v3, v4, rfl, z1, kp⟩
      have hin : i < n := by
        have := (List.getElem?_eq_some_iff.mp hi).1
        rw [List.length_map, z.len] at this; exact this
      obtain ⟨r, er, er2, hr1⟩ := z1.get hin
      obtain rfl : x = .ref r := Option.some.inj (hi.symm.trans er2)
      have hsi : SzM (sz + 2 * n * i) (iter (rowst n k) i M) := iter_sz (fun _ _ _ h => rowst_sz h) hs i
      have hmul : 2 * n * i + 2 * n ≤ 2 * n * n := by
        rw [← Nat.mul_succ]; exact Nat.mul_le_mul_left _ hin
      generalize hM1 : iter (rowst n k) i M = M1 at *
      have hgoal : iter (rowst n k) (i + 1) M = rowst n k i M1 := by rw [← hM1]; rfl
      rw [hgoal]
      walk_at "rd"
      refine ix_l (.of hr1) (by omega) (by rw [Int.toNat_natCast]; exact zrow_get _ hk) ?_
      walk_at "rd"
      cases hMk : M1 i k with
      | none =>
        rw [show rowst n k i M1 = M1 by unfold rowst; rw [if_pos hMk]]
        simp only [oV_none]
        walk_at "rd"
        exact ⟨z1, kp⟩
      | some d =>
        rw [show rowst n k i M1 = iter (cell1 k i) n M1 by unfold rowst; rw [if_neg (by rw [hMk]; exact fun z => by cases z)]]
        simp only [oV_some]
        walk_at "rd"
        refine for_rg ?_
        walk_at "rd"
        refine ⟨_, .inl (.of (z1.row k w ew)), (rg_ok (by rw [zrow_len]; omega)).1, (rg_ok (by rw [zrow_len]; omega)).2, ?_⟩
        rw [zrow_len, Int.toNat_natCast]
        refine forR_by (fun j σ' H' => ∃ v4, σ' = [some (.ref p), some (.int k), some (.ref w), some (.ref r), v4] ∧ ZAt H' p as n (iter (cell1 k i) j M1) ∧ (∀ b o, b ∉ as → H b = some o → H' b = some o)) ⟨_, rfl, z1, kp⟩ ?_ ?_
        · rintro j σ' H2 hj ⟨v4', rfl, z2, kp2⟩
          have hsj : SzM (sz + 2 * n * i + 2 * j) (iter (cell1 k i) j M1) := iter_sz (fun _ _ _ h => cell1_sz h) hsi j
          generalize hM2 : iter (cell1 k i) j M1 = M2 at *
          have hgoal2 : iter (cell1 k i) (j + 1) M1 = cell1 k i j M2 := by rw [← hM2]; rfl
          rw [hgoal2]
          walk_at "rd"
          refine ix_row (z2.row i r er) hj ?_
          refine ix_row (z2.row i r er) hk ?_
          refine ix_row (z2.row k w ew) hj ?_
          walk_at "rd"
          refine ⟨_, _, rfl, fun a b ea eb => half_sz (hsj _ _ _ ea) (hsj _ _ _ eb) (by omega), ?_⟩
          refine ⟨_, _, rfl, ?_⟩
          walk_at "rd"
          refine set_at (K := K) (z2.row i r er) hj ?_
          walk_at "rd"
          refine ⟨z2.set _ er, fun b o hb e => ?_⟩
          rw [upd_ne (fun z => hb (by rw [z]; exact List.mem_of_getElem? er))]
          exact kp2 b o hb e
        · rintro σ' H2 ⟨v4', rfl, z2, kp2⟩
          exact ⟨_, _, rfl, z2, kp2⟩
    · rintro σ' H1 ⟨v3, v4, rfl, z1, kp⟩
      rw [List.length_map, z.len] at z1
      exact q H1 z1 kp
def spNarrowest (K : PySem.W.Frag) : Sp := fun vs H Q _ => ∃ (p : Addr) (as : List Addr) (n : Nat) (M : Mx) (s : Nat), vs = [.ref p] ∧ ZAt H p as n M ∧ n ≤ 60 ∧ 1 ≤ s ∧ SzM s M ∧ s + 2 * n * n * n ≤ 9000 ∧
  ((∃ i d, i < n ∧ nrw n M i i = some d ∧ d < 1) → ∀ H', Same H H' → Q .non H') ∧
  ((∀ i, i < n → ∃ d, nrw n M i i = some d ∧ 1 ≤ d) → ∀ p' as' H', Same H H' → ZAt H' p' as' n (nrw n M) → H p' = none → (∀ a ∈ as', H a = none) → Q (.ref p') H')
theorem ok_narrowest (T : Top K mg) : FnOk P w K mg base CX0 3 T.f_narrowest T.d_narrowest ["zone"] (spNarrowest K) := by
  refine T.F_narrowest.ok sc_narrowest (fun vs H Q E h => ?_) (fun cdv A outer s H vs Q E hr h => ?_)
  · obtain ⟨p, as, n, M, s, rfl, _⟩ := h; rfl
  · obtain ⟨p, as, n, M, sz, rfl, z, hn, hs1, hs, hb, q1, q2⟩ := h
    refine ⟨_, (pss_cons (lc_vsS (vs := [4]) (ps_setLc (i := 1) (own := [("row", 4)]) (g := gName 4) (tt := tYes) rfl sc_narrowest.nd rfl rfl (sw_true rfl rfl rfl (by decide +kernel)) (pi_listA (K := K) rfl (pv 0)) (blkOk_by (own := [("row", 4)]) (N := ["zone", "rows", "i", "k", "row"]) (sc := defScope s_narrowest) (by decide +kernel)) (fun _ _ _ _ _ => (pg_name (i := 4) sc_narrowest.nd rfl (.inl rfl))) (fun _ _ _ _ _ => pts_nil) (fun _ _ _ _ _ => (pe_callTy (call_listA (K := K) rfl) (by rfl) T.m_list (by decide +kernel) (pa_cons (pv 4) pa_nil)))) rfl)
      (pss_cons (ps_for PassesOwn.never rfl (pi_range1 (by rfl) T.m_range (pa_cons (pe_callB call_len_seq (by rfl) T.m_len (by decide +kernel) (pa_cons (pv 1) pa_nil)) pa_nil)) (pg_name (i := 2) sc_narrowest.nd rfl (.inl rfl)) (pss_cons (ps_asg (pe_call (ok_narrower T) (hr.mono (by decide)) rfl T.g_narrower T.F_narrower.kp T.b_narrower .nil pass0 (pa_cons (pe_ix (ix_listA (K := K) rfl) (pe_ix (ix_listA (K := K) rfl) (pv 1) (pv 2) (fun _ _ => rfl)) (pv 2) (fun _ _ => rfl)) (pa_cons (pe_glob (v := .int 1) rfl T.g_NOUGHT ⟨_, rfl⟩) pa_nil))) (pg_sub (pe_ix (ix_listA (K := K) rfl) (pv 1) (pv 2) (fun _ _ => rfl)) (pv 2) set_list))
      (pss_one (ps_asg (pe_call (ok_narrower T) (hr.mono (by decide)) rfl T.g_narrower T.F_narrower.kp T.b_narrower .nil pass0 (pa_cons (pe_ix (ix_listA (K := K) rfl) (pe_ix (ix_listA (K := K) rfl) (pv 1) pe_int (fun _ _ => rfl)) (pv 2) (fun _ _ => rfl)) (pa_cons (pe_glob (v := .int 1) rfl T.g_NOUGHT ⟨_, rfl⟩) pa_nil))) (pg_sub (pe_ix (ix_listA (K := K) rfl) (pv 1) pe_int (fun _ _ => rfl)) (pv 2) set_list)))))
      (pss_cons (ps_for PassesOwn.never rfl (pi_range1 (by rfl) T.m_range (pa_cons (pe_callB call_len_seq (by rfl) T.m_len (by decide +kernel) (pa_cons (pv 1) pa_nil)) pa_nil)) (pg_name (i := 3) sc_narrowest.nd rfl (.inl rfl)) (pss_one (ps_expr (pe_call (ok_through T) (hr.mono (by decide)) rfl T.g_through T.F_through.kp T.b_through .nil pass0 (pa_cons (pv 1) (pa_cons (pv 3) pa_nil))))))
      (pss_cons (ps_for PassesOwn.never rfl (pi_range1 (by rfl) T.m_range (pa_cons (pe_callB call_len_seq (by rfl) T.m_len (by decide +kernel) (pa_cons (pv 1) pa_nil)) pa_nil)) (pg_name (i := 2) sc_narrowest.nd rfl (.inl rfl)) (pss_one (ps_if (pt_cmpR op_lt (pe_ix (ix_listA (K := K) rfl) (pe_ix (ix_listA (K := K) rfl) (pv 1) (pv 2) (fun _ _ => rfl)) (pv 2) (fun _ _ => rfl)) (pe_glob (v := .int 1) rfl T.g_NOUGHT ⟨_, rfl⟩) (nomark _)) (pss_one (ps_ret pe_non)) pss_nil)))
      (pss_one (ps_ret (pv 1))))))), ?_⟩
    refine seq_step ?_
    walk_at "rd"
    refine lc_copy z hn rfl (by simp) fun D as' H1 s1 z1 fD fa => ?_
    refine seq_step ?_
    refine for_rg ?_
    walk_at "rd"
    refine ⟨_, .inl (.of z1.top), ?_⟩
    rw [List.length_map, z1.len]
    refine ⟨(rg_ok (by omega)).1, (rg_ok (by omega)).2, ?_⟩
    rw [Int.toNat_natCast]
    refine forR_by (fun i σ' H' => ∃ v2, σ' = [some (.ref p), some (.ref D), v2, none, none] ∧ ZAt H' D as' n (iter diag1 i M) ∧ Same H H') ⟨_, rfl, z1, s1⟩ ?_ ?_
    · rintro i σ' H2 hi ⟨v2, rfl, z2, s2⟩
      generalize hM2 : iter diag1 i M = M2 at *
      rw [show iter diag1 (i + 1) M = diag1 i M2 by rw [← hM2]; rfl]
      walk_at "rd"
      refine seq_step ?_
      walk_at "rd"
      refine ix_top z2 hi fun r er hr1 => ?_
      refine ix_row hr1 hi ?_
      walk_at "rd"
      refine ⟨_, some 1, rfl, ?_⟩
      refine ix_top z2 hi fun r' er' hr1' => ?_
      obtain rfl : r = r' := Option.some.inj (er.symm.trans er')
      walk_at "rd"
      refine set_at (K := K) hr1 hi ?_
      have z3 := z2.set (j := i) (narO (M2 i i) (some 1)) er
      have s3 : Same H (upd H2 r (.lst ((zrow n (M2 i)).set i (oV (narO (M2 i i) (some 1)))))) := same_updN (fa r (List.mem_of_getElem? er)) s2
      generalize upd H2 r (.lst ((zrow n (M2 i)).set i (oV (narO (M2 i i) (some 1))))) = H3 at *
      unfold diag1
      generalize up2 M2 i i (narO (M2 i i) (some 1)) = M3 at *
      have h0 : 0 < n := by omega
      walk_at "rd"
      refine ix_top (i := 0) z3 h0 fun r0 er0 hr0 => ?_
      refine ix_row hr0 hi ?_
      walk_at "rd"
      refine ⟨_, some 1, rfl, ?_⟩
      refine ix_top (i := 0) z3 h0 fun r' er' hr1' => ?_
      obtain rfl : r0 = r' := Option.some.inj (er0.symm.trans er')
      walk_at "rd"
      refine set_at (K := K) hr0 hi ?_
      exact ⟨z3.set (j := i) _ er0, same_updN (fa r0 (List.mem_of_getElem? er0)) s3⟩
    · rintro σ' H2 ⟨v2, rfl, z2, s2⟩
      refine seq_step ?_
      walk_at "rd"
      refine for_rg ?_
      walk_at "rd"
      refine ⟨_, .inl (.of z2.top), ?_⟩
      rw [List.length_map, z2.len]
      refine ⟨(rg_ok (by omega)).1, (rg_ok (by omega)).2, ?_⟩
      rw [Int.toNat_natCast]
      refine forR_by (fun i σ' H' => ∃ v3, σ' = [some (.ref p), some (.ref D), v2, v3, none] ∧ ZAt H' D as' n (iter (thr n) i (iter diag1 n M)) ∧ Same H H') ⟨_, rfl, z2, s2⟩ ?_ ?_
      · rintro k σ' H3 hk ⟨v3, rfl, z3, s3⟩
        have hsk := nrw_sz (n := n) (m := k) hs1 hs
        have hmul : 2 * n * n * k + 2 * n * n ≤ 2 * n * n * n := by
          rw [← Nat.mul_succ]; exact Nat.mul_le_mul_left _ hk
        walk_at "rd"
        refine ⟨D, as', n, _, k, _, rfl, z3, hk, hn, hsk, by omega, fun H4 z4 kp => ?_⟩
        walk_at "rd"
        exact ⟨z4, fun b o e => kp b o (fun hb => by rw [fa b hb] at e; cases e) (s3 b o e)⟩
      · rintro σ' H3 ⟨v3, rfl, z3, s3⟩
        have zN : ZAt H3 D as' n (nrw n M) := z3
        refine seq_step ?_
        walk_at "rd"
        refine for_rg ?_
        walk_at "rd"
        refine ⟨_, .inl (.of zN.top), ?_⟩
        rw [List.length_map, zN.len]
        refine ⟨(rg_ok (by omega)).1, (rg_ok (by omega)).2, ?_⟩
        rw [Int.toNat_natCast]
        refine forR_by (fun i σ' H' => ∃ v2, σ' = [some (.ref p), some (.ref D), v2, v3, none] ∧ H' = H3 ∧ ∀ j, j < i → ∃ d, nrw n M j j = some d ∧ 1 ≤ d) ⟨_, rfl, rfl, fun j h => by omega⟩ ?_ ?_
        · rintro i σ' H4 hi ⟨v2', rfl, rfl, hd⟩
          walk_at "rd"
          refine ix_top zN hi fun r er hr1 => ?_
          refine ix_row hr1 hi ?_
          obtain ⟨d, ed⟩ := has_nrw (M := M) hi
          rw [ed]
          simp only [oV_some]
          walk_at "rd"
          refine ite_d (fun c => q1 ⟨i, d, hi, ed, c⟩ _ s3) (fun c j hj => ?_)
          by_cases cj : j = i
          · subst cj; exact ⟨d, ed, by omega⟩
          · exact hd j (by omega)
        · rintro σ' H4 ⟨v2', rfl, rfl, hd⟩
          walk_at "rd"
          exact q2 hd D as' _ s3 zN fD fa
def spEvery (K : PySem.W.Frag) : Sp := fun vs H Q _ => ∃ m : Nat, vs = [.int m] ∧ m ≤ 40 ∧ ∀ (p : Addr) (as : List Addr) (H' : Hp), Same H H' → ZAt H' p as (m + 1) evM → H p = none → (∀ a ∈ as, H a = none) → Q (.ref p) H'
def EvInv (H : Hp) (m : Nat) (l : Addr) (i : Nat) (σ' : L2.St) (H' : Hp) : Prop := ∃ (as : List Addr) (v2 v3 : Option V), σ' = [some (.int m), some (.ref l), v2, v3] ∧ Same H H' ∧ Grow H H' l as (i + 1) (m + 1) evM
theorem ok_everywhere (T : Top K mg) : FnOk P w K mg base CX0 1 T.f_everywhere T.d_everywhere ["many"] (spEvery K) := by
  refine T.F_everywhere.ok sc_everywhere (fun vs H Q E h => ?_) (fun cdv A outer s H vs Q E hr h => ?_)
  · obtain ⟨m, rfl, _⟩ := h; rfl
  · obtain ⟨m, rfl, hm, q⟩ := h
    refine ⟨_, (pss_cons (ps_set (i := 1) sc_everywhere.nd rfl (.inl rfl) (pe_lstN (pa_cons (pe_op op_repN (pe_lstN (pa_cons (pe_glob (v := .int 1) rfl T.g_NOUGHT ⟨_, rfl⟩) pa_nil)) (pe_op op_add (pv 0) pe_int)) pa_nil)))
      (pss_cons (ps_for PassesOwn.never rfl (pi_range2 (by rfl) T.m_range (pa_cons pe_int (pa_cons (pe_op op_add (pv 0) pe_int) pa_nil))) (pg_name (i := 2) sc_everywhere.nd rfl (.inl rfl)) (pss_cons (ps_set (i := 3) sc_everywhere.nd rfl (.inl rfl) (pe_op op_repN (pe_lstN (pa_cons pe_non pa_nil)) (pe_op op_add (pv 0) pe_int)))
      (pss_cons (ps_asg (pe_glob (v := .int 1) rfl T.g_NOUGHT ⟨_, rfl⟩) (pg_sub (pv 3) (pv 2) set_list))
      (pss_one (ps_expr (pe_bm PySem.F.plainAttrs_list PySem.F.slot_list_append PySem.F.type_list_append mt_append (pv 1) (pa_cons (pv 3) pa_nil)))))))
      (pss_one (ps_ret (pv 1))))), ?_⟩
    refine seq_step ?_
    walk_at "rd"
    intro p1 H1 s1 _ e1
    refine ⟨_, e1, by omega, by omega, small1000' (by simp; omega), fun r0 H2 s2 f2 e2 => ?_⟩
    intro l H3 s3 fl e3
    refine seq_step ?_
    refine for_rg2 ?_
    walk_at "rd"
    refine ⟨by omega, by omega, ?_⟩
    rw [show ((m : Int) + 1 - 1).toNat = m by omega]
    have z0 : (List.replicate ((m : Int) + 1).toNat [V.int 1]).flatten = zrow (m + 1) (evM 0) := by
      rw [show ((m : Int) + 1).toNat = m + 1 by omega]
      exact (zrow_rep (m + 1) (some 1)).trans (zrow_congr fun j _ => by simp [evM])
    rw [z0] at e2
    have s13 : Same H H2 := s1.trans s2
    have nl0 : r0 ≠ l := ne_of_none e2 fl
    refine forR2_by (EvInv H m l) ⟨[r0], _, _, rfl, s13.trans s3, e3, rfl, by simp, (fun a h => by
        have : a = r0 := by simpa using h
        rw [this]; exact ⟨s1.free f2, nl0⟩), fun j a h => by
        cases j with
        | zero => cases h; exact s3 _ _ e2
        | succ j => cases h⟩ ?_ ?_
    · rintro i σ' H4 hi ⟨as, v2, v3, rfl, s4, g⟩
      walk_at "rd"
      refine seq_step ?_
      walk_at "rd"
      intro p5 H5 s5 _ e5
      refine ⟨_, e5, by omega, by omega, small1000' (by simp; omega), fun r H6 s6 fr e6 => ?_⟩
      walk_at "rd"
      have s46 := s5.trans s6
      have er : H6 r = some (.lst (zrow (m + 1) (fun _ => none))) := by
        rw [e6, show ((m : Int) + 1).toNat = m + 1 by omega]
        exact congrArg (fun x => some (HO.lst x)) (zrow_rep (m + 1) none)
      refine seq_step ?_
      walk_at "rd"
      rw [show (1 : Int) + (i : Int) = ((i + 1 : Nat) : Int) by omega]
      refine set_at (K := K) (x := some 1) er (by omega) ?_
      walk_at "rd"
      have g6 : Grow H H6 l as (i + 1) (m + 1) evM := g.keep fun b o e _ => s46 _ _ e
      have eset : (zrow (m + 1) fun _ => none).set (i + 1) (oV (some 1)) = zrow (m + 1) (evM (i + 1)) := by
        exact (zrow_set (i := i + 1) (j := i + 1) (fun _ _ => none : Mx) (some 1)).trans (zrow_congr fun j _ => by simp [up2, evM, eq_comm])
      rw [eset]
      have nl : r ≠ l := fun e => by rw [e, s5 _ _ g.top] at fr; cases fr
      have nr : r ∉ as := fun hm => by
        obtain ⟨j, hj, e⟩ := List.mem_iff_getElem.mp hm
        have := s5 _ _ (g.row j r (by rw [List.getElem?_eq_getElem hj, e]))
        rw [fr] at this; cases this
      have fr0 : H r = none := (s4.trans s5).free fr
      have g7 : Grow H (upd H6 r (.lst (zrow (m + 1) (evM (i + 1))))) l as (i + 1) (m + 1) evM := g6.keep fun b o e hb => by
        rw [upd_ne (fun z => by rcases hb with h | h; exact nl (z ▸ h); exact nr (z ▸ h))]; exact e
      have s7 : Same H (upd H6 r (.lst (zrow (m + 1) (evM (i + 1))))) := same_updN fr0 (s4.trans s46)
      have e7 : upd H6 r (.lst (zrow (m + 1) (evM (i + 1)))) r = some (.lst (zrow (m + 1) (evM (i + 1)))) := upd_same
      generalize upd H6 r (.lst (zrow (m + 1) (evM (i + 1)))) = H7 at *
      refine ⟨.ref l, rfl, .inl ⟨rfl, _, .of g7.top⟩, ?_⟩
      walk_at "rd"
      refine app_at g7.top (by rw [List.length_map, g7.len]; omega) ?_
      refine ⟨as ++ [r], _, _, rfl, same_updN (s13.free fl) s7, (g7.snoc e7 fr0 nr nl).to fun a b ha hb => ?_⟩
      show (if a = i + 1 then evM (i + 1) b else evM a b) = evM a b
      split
      · rename_i e; rw [e]
      · rfl
    · rintro σ' H4 ⟨as, v2, v3, rfl, s4, g⟩
      walk_at "rd"
      exact q l as H4 s4 g.done (s13.free fl) fun a h => (g.fr a h).1
def spAt_most : Sp := fun vs H Q _ => ∃ n : Int, vs = [.int n] ∧ Sz 10000 n ∧ Q (.int (2 * n + 1)) H
theorem ok_at_most (T : Top K mg) : FnOk P w K mg base CX0 1 T.f_at_most T.d_at_most ["number"] spAt_most := by
  refine T.F_at_most.ok sc_at_most (fun vs H Q E h => ?_) (fun cdv A outer s H vs Q E hr h => ?_)
  · obtain ⟨n, rfl, _⟩ := h; rfl
  · obtain ⟨n, rfl, hn, q⟩ := h
    refine ⟨_, (pss_one (ps_ret (pe_op op_add (pe_op op_mulW pe_int (pv 0)) pe_int))), ?_⟩
    walk_at "rd"
    exact ⟨Sz.mulW (a := 2) (by unfold Sz; decide) hn (by omega), q⟩
def spBelow (K : PySem.W.Frag) : Sp := fun vs H Q _ => ∃ n : Int, vs = [.int n] ∧ Sz 10000 n ∧ Q (.int (2 * n)) H
theorem ok_below (T : Top K mg) : FnOk P w K mg base CX0 1 T.f_below T.d_below ["number"] (spBelow K) := by
  refine T.F_below.ok sc_below (fun vs H Q E h => ?_) (fun cdv A outer s H vs Q E hr h => ?_)
  · obtain ⟨n, rfl, _⟩ := h; rfl
  · obtain ⟨n, rfl, hn, q⟩ := h
    refine ⟨_, (pss_one (ps_ret (pe_op op_mulW pe_int (pv 0)))), ?_⟩
    walk_at "rd"
    exact ⟨Sz.mulW (a := 2) (by unfold Sz; decide) hn (by omega), q⟩
/-! ### facts carried along the chain of heaps -/
class Kp2 {α : Type} (R : Hp → Addr → α → Prop) : Prop where
  keep : ∀ (H H' : Hp) (q : Addr) (x : α), Same H H' → R H q x → R H' q x
theorem SeqOf.kept {α : Type} {R : Hp → Addr → α → Prop} [k : Kp2 R] {H H' : Hp} {p : Addr} {xs : List α} (h : SeqOf R H p xs) (s : Same H H') : SeqOf R H' p xs := SeqOf.keep (fun q x => k.keep _ _ q x s) s h
instance : Kp2 RqAt := ⟨fun _ _ _ _ s h => RqAt.keep s h⟩
instance : Kp2 LqAt := ⟨fun _ _ _ _ s h => LqAt.keep s h⟩
instance {C : Addr} : Kp2 (DoorAt C) := ⟨fun _ _ _ _ s h => DoorAt.keep s h⟩
theorem Rf {a b : Hp} (s : Same a b) {p : Addr} {o : HO} (h : a p = some o) : b p = some o := s _ _ h
theorem ZAt.kp {H H' : Hp} {p : Addr} {as : List Addr} {n : Nat} {M : Mx} (s : Same H H') (z : ZAt H p as n M) : ZAt H' p as n M := z.keep s
theorem SeqOf.kp {α : Type} {R : Hp → Addr → α → Prop} [k : Kp2 R] {H H' : Hp} {p : Addr} {xs : List α} (s : Same H H') (h : SeqOf R H p xs) : SeqOf R H' p xs := h.kept s
theorem SqL.kp {K : PySem.W.Frag} {H H' : Hp} {a : Addr} {xs : List V} (s : Same H H') (h : SqL K H a xs) : SqL K H' a xs := s.seq h
local macro_rules | `(tactic| walk_at "hp") => `(tactic| first | assumption | exact Same.refl _ | (refine ZW.Rf (by assumption) ?_; walk_at "hp") | (refine ZW.ZAt.kp (by assumption) ?_; walk_at "hp") | (refine ZW.SeqOf.kp (by assumption) ?_; walk_at "hp") | (refine ZW.MachAt.keep (by assumption) ?_; walk_at "hp") | (refine ZW.SqL.kp (by assumption) ?_; walk_at "hp") | (refine Same.trans ?_ (by assumption); walk_at "hp"))
local macro_rules | `(‹_›) => `(by walk_at "hp")
def putsM (N : Mx) (ps : List Nat) : Mx := ps.foldl (fun M p => putM p M) N
/-! ### papers: plain -/
def wdOf (s : Str) : Wd := if s = "<" then .lt else if s = "<=" then .le else if s = ">" then .gt else if s = ">=" then .ge else .eq
theorem wdOf_s {s : Str} (h : s ∈ WORDS) : (wdOf s).s = s := by
  simp only [List.mem_cons, List.not_mem_nil, or_false] at h
  rcases h with rfl | rfl | rfl | rfl | rfl <;> decide +kernel
def lks (ws : List Str) (ls : List Lq) : List Look := ls.map fun l => (ws.idxOf l.1, wdOf l.2.1, numOf l.2.2)
def SzL (ls : List Lq) : Prop := ∀ l ∈ ls, Sz 250 (numOf l.2.2)
def MSz (M : MachD) : Prop := (∀ r ∈ M.rooms, SzL r.2) ∧ ∀ d ∈ M.doors, SzL d.looks
theorem look_parts {ws watches : List Str} {l : Lq} (h : lookOk ws watches l = true) : l.1 ∈ watches ∧ l.2.1 ∈ ws ∧ ∃ n : Int, l.2.2 = .int n ∧ 0 ≤ n := by
  unfold lookOk at h
  rw [Bool.and_eq_true, Bool.and_eq_true] at h
  refine ⟨of_decide_eq_true h.1.1, of_decide_eq_true h.1.2, ?_⟩
  have := h.2
  cases hv : l.2.2 <;> rw [hv] at this <;> first | exact ⟨_, rfl, of_decide_eq_true this⟩ | cases this
theorem lk_of {H : Hp} {p : Addr} {ws : List Str} {ls : List Lq} (h : SeqOf (PlAt ws) H p ls) (gk : guardOk WORDS ws ls = true) : LkAt H p (lks ws ls) := by
  obtain ⟨qs, a, b, c⟩ := h
  refine ⟨qs, a, by rw [b]; unfold lks; rw [List.length_map], fun i q l h1 h2 => ?_⟩
  unfold lks at h2
  rw [List.getElem?_map] at h2
  obtain ⟨x, hx, rfl⟩ := Option.map_eq_some_iff.mp h2
  obtain ⟨n, e, hq⟩ := c i q x h1 hx
  have k := look_parts (List.all_eq_true.mp gk x (List.mem_of_getElem? hx))
  show H q = some (.tup [.int ((ws.idxOf x.1 + 1 : Nat) : Int), .str (wdOf x.2.1).s, .int (numOf x.2.2)])
  rw [wdOf_s k.2.1, hq, e]; rfl
theorem lks_ok {ws : List Str} {ls : List Lq} (gk : guardOk WORDS ws ls = true) (sz : SzL ls) : ∀ l ∈ lks ws ls, l.1 + 1 < ws.length + 1 ∧ Sz 250 l.2.2 := fun l hl => by
  obtain ⟨x, hx, rfl⟩ := List.mem_map.mp hl
  have k := look_parts (List.all_eq_true.mp gk x hx)
  exact ⟨by have := List.idxOf_lt_length_iff.mpr k.1; show ws.idxOf x.1 + 1 < _; omega, sz x hx⟩
def PosAll (n : Nat) (X : Mx) : Prop := ∀ i, i < n → Pos X i
open Classical in
noncomputable def nrwO (n : Nat) (M : Mx) : Option Mx := if PosAll n (nrw n M) then some (nrw n M) else none
noncomputable def metO (n : Nat) (N : Mx) (ls : List Look) : Option Mx := nrwO n (lookM N ls)
theorem pos_get {n i : Nat} {M : Mx} (h : i < n) (p : Pos (nrw n M) i) : ∃ d, nrw n M i i = some d ∧ 1 ≤ d := by
  obtain ⟨d, hd⟩ := has_nrw (M := M) h
  refine ⟨d, hd, ?_⟩
  unfold Pos at p
  rw [hd] at p
  exact p
theorem nrwO_some {n : Nat} {M X : Mx} (h : nrwO n M = some X) : X = nrw n M ∧ PosAll n (nrw n M) := by
  unfold nrwO at h
  split at h
  · rename_i c; exact ⟨(Option.some.inj h).symm, c⟩
  · cases h
theorem nrwO_none {n : Nat} {M : Mx} (h : nrwO n M = none) : ¬ PosAll n (nrw n M) := by
  unfold nrwO at h
  split at h
  · cases h
  · assumption
theorem nrwO_pos {n : Nat} {M : Mx} (h : PosAll n (nrw n M)) : nrwO n M = some (nrw n M) := by
  unfold nrwO; rw [if_pos h]
theorem nrwO_no {n : Nat} {M : Mx} (h : ¬ PosAll n (nrw n M)) : nrwO n M = none := by
  unfold nrwO; rw [if_neg h]
theorem nrw_szf {n s : Nat} {M : Mx} (hn : n ≤ 8) (hs : 1 ≤ s) (h : SzM s M) : SzM (s + 1024) (nrw n M) :=
  (nrw_sz (n := n) (m := n) hs h).mono (by have := cube_le hn; omega)
def LeN (n : Nat) (A B : Mx) : Prop := ∀ i j, i < n → j < n → leO (A i j) (B i j)
open Classical in
noncomputable def leB (n : Nat) (A B : Mx) : Bool := decide (LeN n A B)
theorem leB_iff {n : Nat} {A B : Mx} : leB n A B = true ↔ LeN n A B := by unfold leB; exact @decide_eq_true_iff _ (Classical.propDecidable _)
def CovP (n : Nat) (Zs : List Mx) (X : Option Mx) : Prop := ∀ Y, X = some Y → ∃ Z ∈ Zs, LeN n Y Z
/-- zones on the heap -/
def ZoAt (n : Nat) (H : Hp) (q : Addr) (Z : Mx) : Prop := ∃ as, ZAt H q as n Z
theorem ZoAt.keep {n : Nat} : ∀ (H H' : Hp) (q : Addr) (Z : Mx), Same H H' → ZoAt n H q Z → ZoAt n H' q Z := fun _ _ _ _ s ⟨as, h⟩ => ⟨as, h.keep s⟩
def stayOf (M : MachD) (r : Str) : List Lq := (M.rooms.find? fun x => decide (x.1 = r)).elim [] (·.2)
theorem stayOf_at {M : MachD} (nd : (M.rooms.map (·.1)).Nodup) {r : Rq} (h : r ∈ M.rooms) : stayOf M r.1 = r.2 := by
  unfold stayOf
  cases hf : M.rooms.find? fun x => decide (x.1 = r.1) with
  | none =>
    have := List.find?_eq_none.mp hf r h
    simp at this
  | some x =>
    have h1 := List.mem_of_find?_eq_some hf
    have h2 : x.1 = r.1 := by simpa using List.find?_some hf
    have : x = r := by
      obtain ⟨i, hi, rfl⟩ := List.mem_iff_getElem.mp h1
      obtain ⟨j, hj, rfl⟩ := List.mem_iff_getElem.mp h
      have e : (M.rooms.map (·.1))[i]? = (M.rooms.map (·.1))[j]? := by rw [List.getElem?_map, List.getElem?_map, List.getElem?_eq_getElem hi, List.getElem?_eq_getElem hj]; exact congrArg some h2
      have := (List.getElem?_inj (by rw [List.length_map]; exact hi) nd).mp e
      subst this; rfl
    rw [this]; rfl
def dimM (M : MachD) : Nat := M.watches.length + 1
noncomputable def stayO (M : MachD) (r : Str) (N : Mx) : Option Mx := metO (dimM M) N (lks M.watches (stayOf M r))
def backsN (M : MachD) (d : DoorD) : List Nat := d.backs.map fun x => M.watches.idxOf x + 1
noncomputable def thruO (M : MachD) (N : Mx) (d : DoorD) : Option Mx := (metO (dimM M) N (lks M.watches d.looks)).map fun X => putsM X (backsN M d)
def ClosedP (M : MachD) (zs : Str → List Mx) (r : Str) (N : Mx) : Prop := CovP (dimM M) (zs r) (stayO M r (waitM N)) ∧ ∀ d ∈ M.doors, d.st = r → d.sg = "" → ∀ X, thruO M N d = some X → CovP (dimM M) (zs d.en) (stayO M d.en X)
def HitP (M : MachD) (goal : List Rq) (r : Str) (N : Mx) : Prop := ∃ g ∈ goal, g.1 = r ∧ metO (dimM M) N (lks M.watches g.2) ≠ none
noncomputable def zonesP (n : Nat) (paper : List (Str × Mx)) (r : Str) : List Mx := paper.filterMap fun x => if x.1 = r then nrwO n x.2 else none
def LetsP (M : MachD) (goal : List Rq) (paper : List (Str × Mx)) : Prop := CovP (dimM M) (zonesP (dimM M) paper (M.rooms.headD ("", [])).1) (stayO M (M.rooms.headD ("", [])).1 oneM) ∧ ∀ r ∈ M.rooms, ∀ N ∈ zonesP (dimM M) paper r.1, ¬ HitP M goal r.1 N ∧ ClosedP M (zonesP (dimM M) paper) r.1 N
theorem guard_words {ws : List Str} {ls : List Lq} (h : guardOk ["<", "<="] ws ls = true) : guardOk WORDS ws ls = true := List.all_eq_true.mpr fun l hl => by
  have := List.all_eq_true.mp h l hl
  unfold lookOk at this ⊢
  rw [Bool.and_eq_true, Bool.and_eq_true] at this ⊢
  refine ⟨⟨this.1.1, decide_eq_true ?_⟩, this.2⟩
  have m := of_decide_eq_true this.1.2
  simp only [List.mem_cons, List.not_mem_nil, or_false] at m ⊢
  rcases m with h | h
  · exact .inl h
  · exact .inr (.inl h)
/-- a dict from names to lists -/
def kvz : List Str → List Addr → List (Key × V)
  | n :: ns, l :: ls => (.inr n, .ref l) :: kvz ns ls
  | _, _ => []
theorem kvz_len : ∀ {ns : List Str} {ls : List Addr}, ns.length = ls.length → (kvz ns ls).length = ns.length
  | [], _, _ => by cases ‹List Addr› <;> rfl
  | n :: ns, [], h => by cases h
  | n :: ns, l :: ls, h => by show (kvz ns ls).length + 1 = ns.length + 1; rw [kvz_len (by simpa using h)]
theorem kvz_snoc : ∀ {ns : List Str} {ls : List Addr} {n : Str} {l : Addr}, ns.length = ls.length → kvz (ns ++ [n]) (ls ++ [l]) = kvz ns ls ++ [(.inr n, .ref l)]
  | [], [], _, _, _ => rfl
  | [], _ :: _, _, _, h => by cases h
  | _ :: _, [], _, _, h => by cases h
  | a :: ns, b :: ls, n, l, h => by
    show (Sum.inr a, V.ref b) :: kvz (ns ++ [n]) (ls ++ [l]) = _
    rw [kvz_snoc (by simpa using h)]; rfl
theorem kvz_no : ∀ {ns : List Str} {ls : List Addr} {n : Str}, n ∉ ns → valV (kvz ns ls) (.inr n : Key) = none
  | [], _, _, _ => by cases ‹List Addr› <;> rfl
  | a :: ns, [], _, _ => rfl
  | a :: ns, b :: ls, n, h => by
    have h1 : ¬ (a = n) := fun e => h (by rw [e]; exact List.mem_cons_self)
    show valV ((.inr a, .ref b) :: kvz ns ls) _ = none
    rw [valV_neg (fun e => h1 (by injection e))]
    exact kvz_no fun m => h (List.mem_cons_of_mem _ m)
theorem kvz_at : ∀ {ns : List Str} {ls : List Addr} {i : Nat} {n : Str} {l : Addr}, ns.Nodup → ns[i]? = some n → ls[i]? = some l → valV (kvz ns ls) (.inr n : Key) = some (.ref l)
  | [], _, _, _, _, _, h, _ => by simp at h
  | a :: ns, [], _, _, _, _, _, h => by simp at h
  | a :: ns, b :: ls, 0, n, l, _, h1, h2 => by
    rw [List.getElem?_cons_zero] at h1 h2
    cases h1; cases h2
    exact valV_pos rfl
  | a :: ns, b :: ls, i + 1, n, l, nd, h1, h2 => by
    rw [List.getElem?_cons_succ] at h1 h2
    rw [List.nodup_cons] at nd
    have h3 : ¬ (a = n) := fun e => nd.1 (by rw [e]; exact List.mem_of_getElem? h1)
    show valV ((.inr a, .ref b) :: kvz ns ls) _ = _
    rw [valV_neg (fun e => h3 (by injection e))]
    exact kvz_at nd.2 h1 h2
theorem kvz_get : ∀ {ns : List Str} {ls : List Addr} {i : Nat} {k : Key} {v : V}, (kvz ns ls)[i]? = some (k, v) → ∃ n l, ns[i]? = some n ∧ ls[i]? = some l ∧ k = .inr n ∧ v = .ref l
  | [], _, _, _, _, h => by cases ‹List Addr› <;> simp [kvz] at h
  | a :: ns, [], _, _, _, h => by simp [kvz] at h
  | a :: ns, b :: ls, 0, k, v, h => by
    have h : ((.inr a : Key), V.ref b) = (k, v) := by simpa [kvz] using h
    injection h with h1 h2
    exact ⟨a, b, rfl, rfl, h1.symm, h2.symm⟩
  | a :: ns, b :: ls, i + 1, k, v, h => by
    have h : (kvz ns ls)[i]? = some (k, v) := by simpa [kvz] using h
    obtain ⟨n, l, h1, h2, h3⟩ := kvz_get h
    exact ⟨n, l, by simpa using h1, by simpa using h2, h3⟩
def PpAt (n : Nat) (H : Hp) (q : Addr) (x : Str × Mx) : Prop := ∃ pz, H q = some (.tup [.str x.1, .ref pz]) ∧ ZoAt n H pz x.2
theorem PpAt.keep {n : Nat} : ∀ (H H' : Hp) (q : Addr) (x : Str × Mx), Same H H' → PpAt n H q x → PpAt n H' q x := fun _ _ _ _ s ⟨pz, a, b⟩ => ⟨pz, s _ _ a, ZoAt.keep _ _ _ _ s b⟩
theorem ZAt.rem {H : Hp} {U : Addr → Prop} {p : Addr} {as : List Addr} {n : Nat} {M : Mx} (z : ZAt H p as n M) (h1 : ¬ U p) (h2 : ∀ a ∈ as, ¬ U a) : ZAt (remU U H) p as n M := ⟨rem_at h1 z.top, z.len, fun i a h => rem_at (h2 a (List.mem_of_getElem? h)) (z.row i a h), z.nd⟩
/-- a dict of lists of zones, by the rooms' names -/
def ZdAt (n : Nat) (H : Hp) (pd : Addr) (names : List Str) (zs : Str → List Mx) : Prop := ∃ ls, names.length = ls.length ∧ Rd H pd (.dK (kvz names ls)) ∧ ∀ (i : Nat) (nm : Str) (l : Addr), names[i]? = some nm → ls[i]? = some l → SeqOf (ZoAt n) H l (zs nm)
theorem ZdAt.keep {n : Nat} {H H' : Hp} {pd : Addr} {names : List Str} {zs : Str → List Mx} (s : Same H H') (h : ZdAt n H pd names zs) : ZdAt n H' pd names zs := by
  obtain ⟨ls, a, b, c⟩ := h
  exact ⟨ls, a, b.elim (fun e => .inl (s _ _ e)) (fun ⟨o, e⟩ => .inr ⟨o, s _ _ e⟩), fun i nm l h1 h2 => SeqOf.keep (fun _ _ => ZoAt.keep _ _ _ _ s) s (c i nm l h1 h2)⟩
theorem take_snocP {α : Type} {xs : List α} {i : Nat} {x : α} (h : xs[i]? = some x) : xs.take (i + 1) = xs.take i ++ [x] := by rw [List.take_add_one, h]; rfl
theorem putsM_sz {s : Nat} : ∀ (ps : List Nat) (N : Mx), SzM s N → SzM s (putsM N ps)
  | [], _, h => h
  | p :: ps, N, h => putsM_sz ps (putM p N) (put_sz h)
theorem thruO_sz {M : MachD} {N X : Mx} {d : DoorD} {s : Nat} (w7 : M.watches.length ≤ 7) (hs : 300 ≤ s) (gk : guardOk WORDS M.watches d.looks = true) (sz : SzL d.looks) (h : SzM s N) (e : thruO M N d = some X) : SzM (s + 1024) X := by
  unfold thruO at e
  obtain ⟨Y, hY, rfl⟩ := Option.map_eq_some_iff.mp e
  rw [(nrwO_some hY).1]
  exact putsM_sz _ _ (nrw_szf (by unfold dimM; omega) (by omega) (look_sz _ _ h (by omega) fun l hl => (lks_ok gk sz l hl).2))
/-- a zone or None -/
def OzAt (n : Nat) (H : Hp) (v : V) (X : Option Mx) : Prop := (X = none ∧ v = .non) ∨ ∃ p as N, X = some N ∧ v = .ref p ∧ ZAt H p as n N
theorem OzAt.keep {n : Nat} {H H' : Hp} {v : V} {X : Option Mx} (s : Same H H') (h : OzAt n H v X) : OzAt n H' v X := by
  rcases h with h | ⟨p, as, N, h1, h2, h3⟩
  · exact .inl h
  · exact .inr ⟨p, as, N, h1, h2, h3.keep s⟩
theorem not_take {xs : List Str} {i : Nat} {x : Str} (nd : xs.Nodup) (h : xs[i]? = some x) : x ∉ xs.take i := fun hm => by
  have := nd.sublist (List.take_sublist (i + 1) xs)
  rw [take_snocP h, List.nodup_append] at this
  exact this.2.2 x hm x (by simp) rfl
theorem zonesP_snoc (n : Nat) {ps : List (Str × Mx)} {i : Nat} {x : Str × Mx} (h : ps[i]? = some x) (r : Str) : zonesP n (ps.take (i + 1)) r = zonesP n (ps.take i) r ++ (if x.1 = r then (nrwO n x.2).toList else []) := by
  unfold zonesP
  rw [take_snocP h, List.filterMap_append]
  congr 1
  by_cases c : x.1 = r
  · rw [if_pos c]
    cases hn : nrwO n x.2 <;> simp [c, hn]
  · rw [if_neg c]; simp [c]
theorem one_szP {s : Nat} (h : 1 ≤ s) : SzM s oneM := fun i j v e => by
  have e : some (1 : Int) = some v := e
  cases e
  exact (show Sz 1 1 by unfold Sz; decide).mono h
theorem ZoAt.lists {n : Nat} {H H' : Hp} {q : Addr} {Z : Mx} (k : ∀ b xs, H b = some (.lst xs) → H' b = some (.lst xs)) (h : ZoAt n H q Z) : ZoAt n H' q Z := by
  obtain ⟨as, z⟩ := h
  exact ⟨as, k _ _ z.top, z.len, fun i a e => k _ _ (z.row i a e), z.nd⟩
theorem ev_szD : SzM 200 evM := fun i j v e => by
  unfold evM at e
  split at e
  · cases e; exact (show Sz 1 1 by unfold Sz; decide).mono (by decide)
  · cases e
instance {n : Nat} : Kp2 (ZoAt n) := ⟨ZoAt.keep⟩
instance {n : Nat} : Kp2 (PpAt n) := ⟨PpAt.keep⟩
instance {ws : List Str} : Kp2 (PlAt ws) := ⟨fun _ _ _ _ s ⟨k, h1, h2⟩ => ⟨k, h1, s _ _ h2⟩⟩
theorem RqAt.kpq {H H' : Hp} {q : Addr} {r : Rq} (s : Same H H') (h : RqAt H q r) : RqAt H' q r := h.keep s
theorem ZoAt.kpq {n : Nat} {H H' : Hp} {q : Addr} {Z : Mx} (s : Same H H') (h : ZoAt n H q Z) : ZoAt n H' q Z := ZoAt.keep _ _ _ _ s h
theorem OzAt.kp {n : Nat} {H H' : Hp} {v : V} {X : Option Mx} (s : Same H H') (h : OzAt n H v X) : OzAt n H' v X := h.keep s
theorem LkAt.kp {H H' : Hp} {p : Addr} {ls : List Look} (s : Same H H') (h : LkAt H p ls) : LkAt H' p ls := h.keep s
local macro_rules | `(tactic| walk_at "hp") => `(tactic| first | (refine ZW.OzAt.kp (by assumption) ?_; walk_at "hp") | (refine ZW.ZoAt.kpq (by assumption) ?_; walk_at "hp") | (refine ZW.RqAt.kpq (by assumption) ?_; walk_at "hp") | (refine ZW.DoorAt.keep (by assumption) ?_; walk_at "hp") | (refine ZW.LkAt.kp (by assumption) ?_; walk_at "hp"))
/-- the first room -/
def room0 (M : MachD) : Str := (M.rooms.headD ("", [])).1
def frV : Option Nat → V
  | none => .non
  | some p => .int p
theorem oV_frV : ∀ (x : Option Nat), frV x = oV (x.map fun k => (k : Int))
  | none => rfl
  | some _ => rfl
/-! ### runs stay in a paper that is let by: plain -/
def numv (v : Nat → Rat) : Nat → Int × Int := fun i => ((v i).num, ((v i).den : Int))
theorem rq_num (x : Rat) : rq (x.num, (x.den : Int)) = x := by
  show (x.num : Rat) / ((x.den : Int) : Rat) = x
  rw [← Rat.divInt_eq_div]
  exact Rat.num_divInt_den x
structure Val (v : Nat → Rat) : Prop where
  zero : v 0 = 0
  nn : ∀ i, 0 ≤ v i
theorem Val.v0 {v : Nat → Rat} (h : Val v) (n : Nat) : Vals0 n (numv v) := by
  refine ⟨?_, fun i _ => ?_, fun i _ => ?_⟩
  · show ((v 0).num, ((v 0).den : Int)) = (0, 1)
    rw [h.zero]; rfl
  · show 0 < ((v i).den : Int)
    have := (v i).den_pos; omega
  · show 0 ≤ (v i).num
    exact Rat.num_nonneg.mpr (h.nn i)
theorem lies_ratS {n : Nat} {M : Mx} {v : Nat → Int × Int} (h : ∀ i, i < n → 0 < (v i).2) : Lies n M v ↔ ∀ i j, i < n → j < n → letsR (M i j) (rq (v i) - rq (v j)) := by
  have key : ∀ i j, i < n → j < n → (letsO (M i j) (dif (v i) (v j)).1 (dif (v i) (v j)).2 = true ↔ letsR (M i j) (rq (v i) - rq (v j))) := fun i j hi hj => by
    rw [lets_rat (dif_pos (h i hi) (h j hj)), ← rq_dif (h i hi) (h j hj)]
  exact ⟨fun k i j hi hj => (key i j hi hj).mp (k i j hi hj), fun k i j hi hj => (key i j hi hj).mpr (k i j hi hj)⟩
theorem lies_num {v : Nat → Rat} (h : Val v) {n : Nat} {M : Mx} : Lies n M (numv v) ↔ LiesR n M v := by
  rw [lies_ratS fun i hi => (h.v0 n).pos i hi]
  unfold LiesR numv
  simp only [rq_num]
def meetQ (l : Look) (x : Rat) : Prop := match l.2.1 with
  | .lt => x < (l.2.2 : Rat)
  | .le => x ≤ (l.2.2 : Rat)
  | .gt => (l.2.2 : Rat) < x
  | .ge => (l.2.2 : Rat) ≤ x
  | .eq => x = (l.2.2 : Rat)
theorem meets_rq {l : Look} {t u : Int} (hu : 0 < u) : meetsL l (t, u) = true ↔ meetQ l (rq (t, u)) := by
  obtain ⟨p, w, k⟩ := l
  have h1 := rq_lt (t := t) k hu
  have h2 := rq_eq (t := t) k hu
  cases w with
  | lt => show decide (t < k * u) = true ↔ rq (t, u) < (k : Rat); rw [decide_eq_true_iff]; exact h1.symm
  | le =>
    show decide (t ≤ k * u) = true ↔ rq (t, u) ≤ (k : Rat)
    rw [decide_eq_true_iff, Rat.le_iff_lt_or_eq, h1, h2]; omega
  | gt =>
    show decide (k * u < t) = true ↔ (k : Rat) < rq (t, u)
    rw [decide_eq_true_iff]
    have : (k : Rat) < rq (t, u) ↔ ¬ (rq (t, u) ≤ (k : Rat)) := by rw [Rat.not_le]
    rw [this, Rat.le_iff_lt_or_eq, h1, h2]; omega
  | ge =>
    show decide (k * u ≤ t) = true ↔ (k : Rat) ≤ rq (t, u)
    rw [decide_eq_true_iff]
    have : (k : Rat) ≤ rq (t, u) ↔ ¬ (rq (t, u) < (k : Rat)) := by rw [Rat.not_lt]
    rw [this, h1]; omega
  | eq => show decide (t = k * u) = true ↔ rq (t, u) = (k : Rat); rw [decide_eq_true_iff]; exact h2.symm
theorem look_R {v : Nat → Rat} (h : Val v) {n : Nat} {M : Mx} {L : List Look} (hp : ∀ l ∈ L, l.1 + 1 < n) : LiesR n (lookM M L) v ↔ LiesR n M v ∧ ∀ l ∈ L, meetQ l (v (l.1 + 1)) := by
  rw [← lies_num h, ← lies_num h, lies_look (h.v0 n) L M hp]
  refine and_congr Iff.rfl ⟨fun k l hl => ?_, fun k l hl => ?_⟩
  · have := (meets_rq ((h.v0 n).pos _ (hp l hl))).mp (k l hl)
    have this : meetQ l (rq ((v (l.1 + 1)).num, ((v (l.1 + 1)).den : Int))) := this
    rw [rq_num] at this; exact this
  · refine (meets_rq ((h.v0 n).pos _ (hp l hl))).mpr ?_
    show meetQ l (rq ((v (l.1 + 1)).num, ((v (l.1 + 1)).den : Int)))
    rw [rq_num]; exact k l hl
theorem nrw_R {v : Nat → Rat} (h : Val v) {n : Nat} {M : Mx} : LiesR n (nrw n M) v ↔ LiesR n M v := by
  rw [← lies_num h, ← lies_num h]; exact nrw_lies (h.v0 n)
theorem pos_R {v : Nat → Rat} (h : Val v) {n : Nat} {M : Mx} (k : LiesR n M v) : PosAll n (nrw n M) := fun i hi => lies_pos (h.v0 n) hi (lies_nrw (h.v0 n) ((lies_num h).mpr k))
theorem met_R {v : Nat → Rat} (h : Val v) {n : Nat} {N : Mx} {L : List Look} (hp : ∀ l ∈ L, l.1 + 1 < n) (k : LiesR n N v) (m : ∀ l ∈ L, meetQ l (v (l.1 + 1))) : ∃ X, metO n N L = some X ∧ LiesR n X v := by
  have k2 := (look_R h hp).mpr ⟨k, m⟩
  exact ⟨_, nrwO_pos (pos_R h k2), (nrw_R h).mpr k2⟩
theorem met_of {v : Nat → Rat} (h : Val v) {n : Nat} {N X : Mx} {L : List Look} (hp : ∀ l ∈ L, l.1 + 1 < n) (e : metO n N L = some X) (k : LiesR n X v) : LiesR n N v ∧ ∀ l ∈ L, meetQ l (v (l.1 + 1)) := by
  obtain ⟨rfl, _⟩ := nrwO_some e
  exact (look_R h hp).mp ((nrw_R h).mp k)
theorem le_R {v : Nat → Rat} {n : Nat} {A B : Mx} (l : LeN n A B) (k : LiesR n A v) : LiesR n B v := fun i j hi hj => letsR_mono (l i j hi hj) (k i j hi hj)
def zeroV : Nat → Rat := fun _ => 0
def laterV (v : Nat → Rat) (t : Rat) : Nat → Rat := fun i => if i = 0 then 0 else v i + t
def putV (p : Nat) (v : Nat → Rat) : Nat → Rat := fun i => if i = p then 0 else v i
def putsV : List Nat → (Nat → Rat) → Nat → Rat
  | [], v => v
  | p :: ps, v => putsV ps (putV p v)
theorem zero_val : Val zeroV := ⟨rfl, fun _ => Rat.le_refl⟩
theorem later_val {v : Nat → Rat} {t : Rat} (h : Val v) (ht : 0 ≤ t) : Val (laterV v t) := ⟨if_pos rfl, fun i => by
  unfold laterV
  split
  · exact Rat.le_refl
  · have := h.nn i; grind⟩
theorem put_val {v : Nat → Rat} {p : Nat} (h : Val v) : Val (putV p v) := ⟨by unfold putV; split; rfl; exact h.zero, fun i => by
  unfold putV
  split
  · exact Rat.le_refl
  · exact h.nn i⟩
theorem puts_val : ∀ {ps : List Nat} {v : Nat → Rat}, Val v → Val (putsV ps v)
  | [], _, h => h
  | _ :: ps, _, h => puts_val (ps := ps) (put_val h)
theorem puts_lies {n : Nat} : ∀ {ps : List Nat} {N : Mx} {v : Nat → Rat}, Val v → LiesR n N v → LiesR n (putsM N ps) (putsV ps v)
  | [], _, _, _, k => k
  | p :: ps, N, v, h, k => puts_lies (ps := ps) (put_val h) (put_lies k fun i _ => by
      unfold putV sg
      split
      · rw [h.zero]
      · rfl)
/-- values meet a guard of a machine's watches -/
def meetG (M : MachD) (ls : List Lq) (v : Nat → Rat) : Prop := ∀ l ∈ lks M.watches ls, meetQ l (v (l.1 + 1))
theorem one_lies (n : Nat) : LiesR n oneM zeroV := fun i j _ _ => by
  show letsR (some 1) (0 - 0)
  right
  refine ⟨?_, by decide⟩
  rw [Rat.sub_self]; rfl
section
variable {M : MachD} {gs : List Rq} {paper : List (Str × Mx)}
theorem stay_R {r : Rq} {N : Mx} {v : Nat → Rat} (ok : MachOk M) (hr : r ∈ M.rooms) (h : Val v) (k : LiesR (dimM M) N v) (m : meetG M r.2 v) : ∃ X, stayO M r.1 N = some X ∧ LiesR (dimM M) X v := by
  unfold stayO
  rw [stayOf_at ok.rnd hr]
  have gk : guardOk WORDS M.watches r.2 = true := by
    have := List.all_eq_true.mp ok.rok r hr
    unfold roomOk at this
    exact guard_words (Bool.and_eq_true_iff.mp this).2
  refine met_R h (fun l hl => ?_) k m
  obtain ⟨x, hx, rfl⟩ := List.mem_map.mp hl
  have k := look_parts (List.all_eq_true.mp gk x hx)
  have := List.idxOf_lt_length_iff.mpr k.1
  show M.watches.idxOf x.1 + 1 < dimM M
  unfold dimM; omega
theorem lks_pl {ls : List Lq} (gk : guardOk WORDS M.watches ls = true) : ∀ l ∈ lks M.watches ls, l.1 + 1 < dimM M := fun l hl => by
  obtain ⟨x, hx, rfl⟩ := List.mem_map.mp hl
  have k := look_parts (List.all_eq_true.mp gk x hx)
  have := List.idxOf_lt_length_iff.mpr k.1
  show M.watches.idxOf x.1 + 1 < dimM M
  unfold dimM; omega
/-- values in a room lie in a zone of it -/
def InP (M : MachD) (paper : List (Str × Mx)) (r : Str) (v : Nat → Rat) : Prop := ∃ Z ∈ zonesP (dimM M) paper r, LiesR (dimM M) Z v
theorem cov_in {r : Str} {X : Option Mx} {Y : Mx} {v : Nat → Rat} (c : CovP (dimM M) (zonesP (dimM M) paper r) X) (e : X = some Y) (k : LiesR (dimM M) Y v) : InP M paper r v := by
  obtain ⟨Z, hZ, l⟩ := c Y e
  exact ⟨Z, hZ, le_R l k⟩
theorem lets_start (ok : MachOk M) (L : LetsP M gs paper) {r : Rq} (hr : r ∈ M.rooms) (e : r.1 = room0 M) (m : meetG M r.2 zeroV) : InP M paper r.1 zeroV := by
  obtain ⟨X, hX, k⟩ := stay_R ok hr zero_val (one_lies _) m
  have c := L.1
  rw [show (M.rooms.headD ("", [])).1 = r.1 from e.symm] at c
  exact cov_in c hX k
theorem lets_wait (ok : MachOk M) (L : LetsP M gs paper) {r : Rq} (hr : r ∈ M.rooms) {v : Nat → Rat} {t : Rat} (h : Val v) (ht : 0 ≤ t) (k : InP M paper r.1 v) (m : meetG M r.2 (laterV v t)) : InP M paper r.1 (laterV v t) := by
  obtain ⟨Z, hZ, k⟩ := k
  have k2 : LiesR (dimM M) (waitM Z) (laterV v t) := wait_lies k ht h.zero (if_pos rfl) fun i _ hi => if_neg hi
  obtain ⟨X, hX, k3⟩ := stay_R ok hr (later_val h ht) k2 m
  exact cov_in ((L.2 r hr Z hZ).2.1) hX k3
theorem lets_door (ok : MachOk M) (L : LetsP M gs paper) {r r2 : Rq} (hr : r ∈ M.rooms) (hr2 : r2 ∈ M.rooms) {d : DoorD} (hd : d ∈ M.doors) (e1 : d.st = r.1) (e2 : d.en = r2.1) (e3 : d.sg = "") {v : Nat → Rat} (h : Val v) (k : InP M paper r.1 v) (mg : meetG M d.looks v) (ms : meetG M r2.2 (putsV (backsN M d) v)) : InP M paper r2.1 (putsV (backsN M d) v) := by
  obtain ⟨Z, hZ, k⟩ := k
  obtain ⟨X, hX, k2⟩ := met_R h (lks_pl (ok.door hd).2.2.2.1) k mg
  have k3 := puts_lies (ps := backsN M d) h k2
  have et : thruO M Z d = some (putsM X (backsN M d)) := by unfold thruO; rw [hX]; rfl
  obtain ⟨Y, hY, k4⟩ := stay_R ok hr2 (puts_val h) k3 ms
  have c := (L.2 r hr Z hZ).2.2 d hd e1 e3 _ et
  rw [e2] at c
  exact cov_in c hY k4
theorem lets_nohit (L : LetsP M gs paper) {r : Rq} (hr : r ∈ M.rooms) (gok : gs.all (markOk M) = true) {v : Nat → Rat} (h : Val v) (k : InP M paper r.1 v) : ∀ g ∈ gs, g.1 = r.1 → ¬ meetG M g.2 v := fun g hg e m => by
  obtain ⟨Z, hZ, k⟩ := k
  have gk : guardOk WORDS M.watches g.2 = true := by
    have := List.all_eq_true.mp gok g hg
    unfold markOk at this
    exact (Bool.and_eq_true_iff.mp this).2
  obtain ⟨X, hX, _⟩ := met_R h (lks_pl gk) k m
  exact (L.2 r hr Z hZ).1 ⟨g, hg, e, by rw [hX]; exact fun h => by cases h⟩
end
/-! ### values as rational numbers, on the heap -/
def vOf (vs : List Rat) : Nat → Rat := fun i => (0 :: vs).getD i 0
def pairs (vs : List Rat) : List (Int × Int) := vs.map fun r => (r.num, (r.den : Int))
def VR (H : Hp) (p : Addr) (vs : List Rat) : Prop := VAt H p (pairs vs)
theorem VR.keep {H H' : Hp} {p : Addr} {vs : List Rat} (s : Same H H') (h : VR H p vs) : VR H' p vs := VAt.keep h s
def SzV (B : Nat) (vs : List Rat) : Prop := ∀ r ∈ vs, Sz B r.num ∧ Sz B (r.den : Int)
theorem den_pos (r : Rat) : 0 < (r.den : Int) := by have := r.den_pos; omega
theorem vOf_at {vs : List Rat} {i : Nat} {r : Rat} (h : vs[i]? = some r) : vOf vs (i + 1) = r := by
  unfold vOf
  rw [List.getD_eq_getElem?_getD, List.getElem?_cons_succ, h]; rfl
theorem VR.get {K : PySem.W.Frag} {H : Hp} {p : Addr} {vs : List Rat} {i : Nat} {r : Rat} {Q : VK} (v : VR H p vs) (h : vs[i]? = some r) (q : ∀ a, H a = some (.tup [.int r.num, .int (r.den : Int)]) → Q (.ref a) H) : rIxL K (.ref p) (.int i) H Q :=
  VAt.get v (x := (r.num, (r.den : Int))) (by unfold pairs; rw [List.getElem?_map, h]; rfl) q
theorem vOf_val {vs : List Rat} (h : ∀ r ∈ vs, 0 ≤ r) : Val (vOf vs) := ⟨rfl, fun i => by
  unfold vOf
  rw [List.getD_eq_getElem?_getD]
  cases e : (0 :: vs)[i]? with
  | none => exact Rat.le_refl
  | some r =>
    rcases List.mem_cons.mp (List.mem_of_getElem? e) with rfl | h1
    · exact Rat.le_refl
    · exact h r h1⟩
theorem meetsQ_num {l : Look} {r : Rat} : meetsL l (r.num, (r.den : Int)) = true ↔ meetQ l r := by
  rw [meets_rq (den_pos r), rq_num]
theorem rq_inj {x y : Int × Int} (hx : 0 < x.2) (hy : 0 < y.2) (h : rq x = rq y) : x.1 * y.2 = y.1 * x.2 := by
  have a : ¬ x.1 * y.2 < y.1 * x.2 := fun c => by
    have := (rq_cross hx hy).mpr c
    rw [h] at this
    exact Rat.lt_irrefl this
  have b : ¬ y.1 * x.2 < x.1 * y.2 := fun c => by
    have := (rq_cross hy hx).mpr c
    rw [h] at this
    exact Rat.lt_irrefl this
  omega
theorem rq_lowest {t u : Int} (hu : 0 < u) (c : Int.gcd t u = 1) : (rq (t, u)).num = t ∧ ((rq (t, u)).den : Int) = u := by
  have h := rq_inj (x := ((rq (t, u)).num, ((rq (t, u)).den : Int))) (y := (t, u)) (den_pos _) hu (rq_num _)
  refine cop_uniq (den_pos _) hu ?_ c h
  have := (rq (t, u)).reduced
  exact this
theorem red_rat {a b t u : Int} (hb : 0 < b) (h : Red a b t u) : (rq (a, b)).num = t ∧ ((rq (a, b)).den : Int) = u := by
  rw [← rq_red hb h]
  exact rq_lowest h.pos h.one
theorem num0 : (0 : Rat).num = 0 ∧ (((0 : Rat).den : Nat) : Int) = 1 := ⟨rfl, rfl⟩
/-! ### steps of a drawn machine: plain -/
def lstF {α : Type} (n : Nat) (f : Nat → α) : List α := (List.range n).map f
theorem lstF_get {α : Type} {n i : Nat} {f : Nat → α} (h : i < n) : (lstF n f)[i]? = some (f i) := by
  unfold lstF
  rw [List.getElem?_map, List.getElem?_range h]; rfl
theorem lstF_len {α : Type} {n : Nat} {f : Nat → α} : (lstF n f).length = n := by unfold lstF; simp
theorem lstF_set {α : Type} {n k : Nat} {f : Nat → α} {x : α} : (lstF n f).set k x = lstF n (fun i => if i = k then x else f i) := by
  refine List.ext_getElem? fun i => ?_
  by_cases h : i < n
  · rw [lstF_get h, List.getElem?_set]
    by_cases c : k = i
    · subst c; rw [if_pos rfl, if_pos (by rw [lstF_len]; exact h), if_pos rfl]
    · rw [if_neg c, lstF_get h, if_neg fun e => c e.symm]
  · rw [List.getElem?_eq_none (by rw [List.length_set, lstF_len]; omega), List.getElem?_eq_none (by rw [lstF_len]; omega)]
theorem lstF_self {α : Type} {xs : List α} {d : α} : lstF xs.length (fun i => xs.getD i d) = xs := by
  refine List.ext_getElem? fun i => ?_
  by_cases h : i < xs.length
  · rw [lstF_get h, List.getD_eq_getElem?_getD, List.getElem?_eq_getElem h]; rfl
  · rw [List.getElem?_eq_none (by rw [lstF_len]; omega), List.getElem?_eq_none (by omega)]
theorem lstF_congr {α : Type} {n : Nat} {f g : Nat → α} (h : ∀ i, i < n → f i = g i) : lstF n f = lstF n g := List.map_congr_left fun i hi => h i (List.mem_range.mp hi)
def stayAt (S : Spec) (i : Nat) : List Lq := (S.rooms[i]?).elim [] (·.2)
/-- values with 0 at some watches -/
def backV (W ns : List Str) (xs : List Rat) : List Rat := lstF xs.length fun i => if W.getD i "" ∈ ns then 0 else xs.getD i 0
open Classical in
noncomputable def stepR (S : Spec) (s : Nat × List Rat) (w : Rat) (k : Option Nat) : Option (Nat × List Rat) :=
  if meetG S.mach (stayAt S s.1) (vOf (s.2.map (· + w))) then (match k with
    | none => some (s.1, s.2.map (· + w))
    | some t => (S.doors[t]?).bind fun d => if d.b = s.1 ∧ d.sg = "" ∧ meetG S.mach d.gd (vOf (s.2.map (· + w))) ∧ meetG S.mach (stayAt S d.e) (vOf (backV S.watches d.ns (s.2.map (· + w)))) then some (d.e, backV S.watches d.ns (s.2.map (· + w))) else none) else none
def FrR (H : Hp) (q : Addr) (r : Rat) : Prop := H q = some (.tup [.int r.num, .int (r.den : Int)])
theorem FrR.keep : ∀ (H H' : Hp) (q : Addr) (r : Rat), Same H H' → FrR H q r → FrR H' q r := fun _ _ _ _ s h => s _ _ h
instance : Kp2 FrR := ⟨FrR.keep⟩
theorem vr_seq {H : Hp} {p : Addr} {xs : List Rat} : VR H p xs ↔ SeqOf FrR H p xs := by
  constructor
  · rintro ⟨qs, a, b, c⟩
    unfold pairs at b c
    refine ⟨qs, a, by rw [b, List.length_map], fun i q r h1 h2 => c i q (r.num, (r.den : Int)) h1 (by rw [List.getElem?_map, h2]; rfl)⟩
  · rintro ⟨qs, a, b, c⟩
    unfold VR pairs
    refine ⟨qs, a, by rw [b, List.length_map], fun i q x h1 h2 => ?_⟩
    rw [List.getElem?_map] at h2
    obtain ⟨r, hr, rfl⟩ := Option.map_eq_some_iff.mp h2
    exact c i q r h1 hr
theorem VR.kp {H H' : Hp} {p : Addr} {vs : List Rat} (s : Same H H') (h : VR H p vs) : VR H' p vs := VAt.keep h s
theorem VR.set {H : Hp} {o q : Addr} {xs : List Rat} {i : Nat} {r : Rat} (v : VR H o xs) (hq : FrR H q r) : ∃ items, H o = some (.lst items) ∧ items.length = xs.length ∧ VR (upd H o (.lst (items.set i (.ref q)))) o (xs.set i r) := by
  obtain ⟨items, a, b, c⟩ := VAt.set (i := i) v (x := (r.num, (r.den : Int))) hq
  refine ⟨items, a, by rw [b]; unfold pairs; rw [List.length_map], ?_⟩
  unfold VR pairs
  rw [List.map_set]
  exact c
theorem sum_sz {A B : Nat} {x y : Rat} (hx : Sz A x.num ∧ Sz A (x.den : Int)) {t u : Int} (hu : 0 < u) (hy : y = rq (t, u)) (ht : Sz B t) (hu2 : Sz B u) : Sz (A + B + 1) (x + y).num ∧ Sz (A + B + 1) ((x + y).den : Int) := by
  have e : x + y = rq (x.num * u + t * (x.den : Int), (x.den : Int) * u) := by
    rw [rq_sum (x := (x.num, (x.den : Int))) (y := (t, u)) (den_pos x) hu, rq_num, hy]
  have hb : 0 < (x.den : Int) * u := Int.mul_pos (den_pos x) hu
  have R := (low_of (a := x.num * u + t * (x.den : Int)) (b := (x.den : Int) * u) (by omega)).red hb
  have k := red_rat hb R
  rw [← e] at k
  rw [k.1, k.2]
  refine ⟨Sz.le R.tle (Sz.add (a := A + B) (b := B + A) (hx.1.mul hu2 (Nat.le_refl _)) (ht.mul hx.2 (Nat.le_refl _)) (by omega) (by omega)), Sz.le R.ule ((hx.2.mul hu2 (Nat.le_refl _)).mono (by omega))⟩
local macro_rules | `(tactic| walk_at "hp") => `(tactic| (refine ZW.VR.kp (by assumption) ?_; walk_at "hp"))
theorem set_l {H : Hp} {r : Addr} {xs : List V} {j : Nat} {v : V} {Q : Hp → Prop} (h : H r = some (.lst xs)) (hj : j < xs.length) (q : Q (upd H r (.lst (xs.set j v)))) : rSetL (.ref r) (.int (j : Int)) v H Q := by
  refine ⟨r, _, j, j, rfl, rfl, h, ?_, q⟩
  unfold ixN
  rw [if_pos (by omega), if_pos (by omega), Int.toNat_natCast]
/-! ### fractions of sixths: plain -/
theorem rq_of_cross {x y : Int × Int} (hx : 0 < x.2) (hy : 0 < y.2) (h : x.1 * y.2 = y.1 * x.2) : rq x = rq y := by
  refine Rat.le_antisymm (Rat.not_lt.mp fun c => ?_) (Rat.not_lt.mp fun c => ?_)
  · have := (rq_cross hy hx).mp c; omega
  · have := (rq_cross hx hy).mp c; omega
def S6 (B : Nat) (x : Int × Int) : Prop := 0 < x.2 ∧ x.2 ∣ 6 ∧ Sz B x.1
def Six (B : Nat) (r : Rat) : Prop := (r.den : Int) ∣ 6 ∧ Sz B r.num
theorem six_u {u : Int} (h0 : 0 < u) (h : u ∣ 6) : u ≤ 6 := Int.le_of_dvd (by decide) h
theorem S6.u {B : Nat} {x : Int × Int} (h : S6 B x) : Sz 3 x.2 := by
  have := six_u h.1 h.2.1
  have := h.1
  unfold Sz; omega
theorem S6.mono {a b : Nat} {x : Int × Int} (h : S6 a x) (k : a ≤ b) : S6 b x := ⟨h.1, h.2.1, h.2.2.mono k⟩
theorem Six.mono {a b : Nat} {x : Rat} (h : Six a x) (k : a ≤ b) : Six b x := ⟨h.1, h.2.mono k⟩
theorem Six.s6 {B : Nat} {r : Rat} (h : Six B r) : S6 B (r.num, (r.den : Int)) := ⟨den_pos r, h.1, h.2⟩
theorem Six.sz {B : Nat} {r : Rat} (h : Six B r) (hb : 3 ≤ B) : Sz B r.num ∧ Sz B (r.den : Int) := ⟨h.2, (Six.s6 h).u.mono hb⟩
theorem six_zero {B : Nat} : Six B 0 := ⟨⟨6, rfl⟩, (show Sz 0 0 by unfold Sz; decide).mono (Nat.zero_le _)⟩
theorem six_as {x : Int × Int} (h0 : 0 < x.2) (h : x.2 ∣ 6) : ∃ c, 0 < c ∧ c ≤ 6 ∧ rq x = rq (x.1 * c, 6) := by
  obtain ⟨c, hc⟩ := h
  have c0 : 0 < c := by
    have : 0 < x.2 * c := by omega
    exact Int.pos_of_mul_pos_right this h0
  refine ⟨c, c0, ?_, rq_of_cross h0 (show (0 : Int) < 6 by decide) ?_⟩
  · have : 1 * c ≤ x.2 * c := Int.mul_le_mul_of_nonneg_right (by omega) (by omega)
    omega
  · show x.1 * 6 = x.1 * c * x.2
    rw [hc, Int.mul_assoc, Int.mul_comm c]
theorem six_sum {B : Nat} {x y : Int × Int} (hx : S6 B x) (hy : S6 B y) : Six (B + 4) (rq x + rq y) := by
  obtain ⟨c, c0, c6, ec⟩ := six_as hx.1 hx.2.1
  obtain ⟨d, d0, d6, ed⟩ := six_as hy.1 hy.2.1
  have e : rq x + rq y = rq (x.1 * c + y.1 * d, 6) := by
    rw [ec, ed, ← rq_sum (x := (x.1 * c, 6)) (y := (y.1 * d, 6)) (show (0 : Int) < 6 by decide) (show (0 : Int) < 6 by decide)]
    refine rq_of_cross (show (0 : Int) < 6 * 6 by decide) (show (0 : Int) < 6 by decide) ?_
    show (x.1 * c * 6 + y.1 * d * 6) * 6 = (x.1 * c + y.1 * d) * (6 * 6)
    omega
  have R := (low_of (a := x.1 * c + y.1 * d) (b := 6) (by decide)).red (by decide)
  have k := red_rat (by decide) R
  rw [← e] at k
  refine ⟨?_, ?_⟩
  · rw [k.2]
    exact dvd_cop (t := (x.1 * c + y.1 * d).fdiv (Int.gcd (x.1 * c + y.1 * d) 6)) ⟨x.1 * c + y.1 * d, by rw [R.eq, Int.mul_comm]⟩ R.one
  · rw [k.1]
    refine Sz.le R.tle ?_
    have s1 : Sz (B + 3) (x.1 * c) := hx.2.2.mul (b := 3) (by unfold Sz; omega) (Nat.le_refl _)
    have s2 : Sz (B + 3) (y.1 * d) := hy.2.2.mul (b := 3) (by unfold Sz; omega) (Nat.le_refl _)
    exact Sz.add s1 s2 (by omega) (by omega)
open Classical in
noncomputable def startR (S : Spec) : Option (Nat × List Rat) := if meetG S.mach (stayAt S 0) (vOf (S.watches.map fun _ => (0 : Rat))) then some (0, S.watches.map fun _ => (0 : Rat)) else none
/-- steps, one behind the other -/
noncomputable def runR (S : Spec) : Nat × List Rat → List ((Int × Int) × Option Nat) → Option (Nat × List Rat)
  | s, [] => some s
  | s, (w, k) :: st => (stepR S s (rq w) k).bind fun s' => runR S s' st
theorem runR_app {S : Spec} : ∀ {st : List ((Int × Int) × Option Nat)} {s s' : Nat × List Rat} {x : (Int × Int) × Option Nat}, runR S s st = some s' → runR S s (st ++ [x]) = stepR S s' (rq x.1) x.2
  | [], s, s', (w, k), h => by
    cases h
    show (stepR S s (rq w) k).bind _ = stepR S s (rq w) k
    cases stepR S s (rq w) k <;> rfl
  | (w, k) :: st, s, s', x, h => by
    obtain ⟨s2, h1, h2⟩ := Option.bind_eq_some_iff.mp h
    show (stepR S s (rq w) k).bind _ = _
    rw [h1]
    exact runR_app h2
def NumsB (b : Nat) (ls : List Lq) : Prop := ∀ l ∈ ls, ∃ n : Int, l.2.2 = .int n ∧ 0 ≤ n ∧ Sz b n
theorem NumsB.ok {b : Nat} {ls : List Lq} (h : NumsB b ls) (k : b ≤ 210) : NumsOk ls := fun l hl => by
  obtain ⟨n, e, n0, sz⟩ := h l hl
  exact ⟨n, e, n0, sz.mono k⟩
theorem NumsB.szl {b : Nat} {ls : List Lq} (h : NumsB b ls) (k : b ≤ 250) : SzL ls := fun l hl => by
  obtain ⟨n, e, _, sz⟩ := h l hl
  rw [e]; exact sz.mono k
def spCell_at (K : PySem.W.Frag) : Sp := fun vs H Q _ => ∃ (a : Addr) (ns : List Int) (k : Int), vs = [.ref a, .int k] ∧ SqL K H a (ns.map V.int) ∧ 0 ≤ k ∧ Q (.int (ns.getD k.toNat 0)) H
theorem ok_l_cell_at (T : Top K mg) : FnOk P w K mg base CX0 1 T.f_l_cell_at T.d_l_cell_at ["_law_script", "_law_k"] (spCell_at K) := by
  refine T.F_l_cell_at.ok sc_l_cell_at (fun vs H Q E h => ?_) (fun cdv A outer s H vs Q E hr h => ?_)
  · obtain ⟨a, ns, k, rfl, _⟩ := h; rfl
  · obtain ⟨a, ns, k, rfl, hS, hk, q⟩ := h
    refine ⟨_, (pss_cons (ps_if (pt_cmpR op_lt (pv 1) (pe_callB call_len_seq (by rfl) T.m_len (by decide +kernel) (pa_cons (pv 0) pa_nil)) (nomark _)) (pss_one (ps_ret (pe_ix (ix_listA (K := K) rfl) (pv 0) (pv 1) (fun _ _ => rfl)))) pss_nil)
      (pss_one (ps_ret pe_int))), ?_⟩
    refine seq_step ?_
    walk_at "rd"
    refine ⟨_, .inl hS, ite_d (fun c => ?_) (fun c => ?_)⟩
    · rw [List.length_map] at c
      have hl : k.toNat < ns.length := by omega
      refine ⟨a, _, k, .int (ns[k.toNat]), rfl, rfl, hS, at_of (j := k.toNat) (by omega) (by rw [List.getElem?_map, List.getElem?_eq_getElem hl]; rfl), ?_⟩
      rw [List.getD_eq_getElem?_getD, List.getElem?_eq_getElem hl] at q
      exact q
    · rw [List.length_map] at c
      rw [List.getD_eq_getElem?_getD, List.getElem?_eq_none (by omega)] at q
      exact q
def spStream (K : PySem.W.Frag) : Sp := fun vs H Q _ => ∃ (c : Int) (m : Nat), vs = [.int c, .int m] ∧ m ≤ 60 ∧ ∀ (p : Addr) (H' : Hp) (xs : List Int), Same H H' → H p = none → H' p = some (.lst (xs.map V.int)) → xs.length = m → (∀ x ∈ xs, 0 ≤ x ∧ Sz 150 x) → Q (.ref p) H'
theorem ok_l_stream (T : Top K mg) : FnOk P w K mg base CX0 1 T.f_l_stream T.d_l_stream ["_law_cell", "_law_many"] (spStream K) := by
  refine T.F_l_stream.ok sc_l_stream (fun vs H Q E h => ?_) (fun cdv A outer s H vs Q E hr h => ?_)
  · obtain ⟨c, m, rfl, _⟩ := h; rfl
  · obtain ⟨c, m, rfl, hm, q⟩ := h
    refine ⟨_, (pss_cons (ps_set (i := 2) sc_l_stream.nd rfl (.inl rfl) (pe_lstN pa_nil))
      (pss_cons (ps_if (pt_cmpR op_ge (pv 0) (pe_op op_pow pe_int pe_int) (nomark _)) (pss_cons (ps_set (i := 3) sc_l_stream.nd rfl (.inl rfl) (pe_op op_sub (pv 0) (pe_op op_pow pe_int pe_int)))
      (pss_cons (ps_for PassesOwn.never rfl (pi_range1 (by rfl) T.m_range (pa_cons (pv 1) pa_nil)) (pg_name (i := 4) sc_l_stream.nd rfl (.inl rfl)) (pss_cons (ps_expr (pe_bm PySem.F.plainAttrs_list PySem.F.slot_list_append PySem.F.type_list_append mt_append (pv 2) (pa_cons (pe_op op_modN (pv 3) (pe_op op_pow pe_int pe_int)) pa_nil)))
      (pss_one (ps_set (i := 3) sc_l_stream.nd rfl (.inl rfl) (pe_op op_fdivZ (pv 3) (pe_op op_pow pe_int pe_int))))))
      (pss_one (ps_ret (pv 2))))) pss_nil)
      (pss_cons (ps_set (i := 5) sc_l_stream.nd rfl (.inl rfl) (pe_op op_add (pe_op op_modN (pv 0) (pe_op op_add (pe_op op_pow pe_int pe_int) pe_int)) pe_int))
      (pss_cons (ps_for PassesOwn.never rfl (pi_range1 (by rfl) T.m_range (pa_cons (pe_op op_add (pv 1) pe_int) pa_nil)) (pg_name (i := 4) sc_l_stream.nd rfl (.inl rfl)) (pss_cons (ps_set (i := 5) sc_l_stream.nd rfl (.inl rfl) (pe_op op_modN (pe_op op_add (pe_op op_add (pe_op op_mulW (pv 5) (pv 5)) (pe_op op_mulW pe_int (pv 5))) (pv 4)) (pe_op op_add (pe_op op_pow pe_int pe_int) pe_int)))
      (pss_one (ps_expr (pe_bm PySem.F.plainAttrs_list PySem.F.slot_list_append PySem.F.type_list_append mt_append (pv 2) (pa_cons (pv 5) pa_nil))))))
      (pss_one (ps_ret (pe_slice (sl_listA (K := K) rfl) (pv 2) (po_some pe_int) po_none))))))), ?_⟩
    refine seq_step ?_
    walk_at "rd"
    intro l H1 s1 fl e1
    refine seq_step ?_
    walk_at "rd"
    refine ite_d (fun _ => ?_) (fun _ => ?_)
    · refine seq_step ?_
      walk_at "rd"
      refine seq_step ?_
      refine for_rg ?_
      walk_at "rd"
      refine ⟨(rg_ok (by omega)).1, (rg_ok (by omega)).2, ?_⟩
      rw [Int.toNat_natCast]
      refine forR_by (fun i σ' H' => ∃ (r : Int) (v4 : Option V) (xs : List Int), σ' = [some (.int c), some (.int m), some (.ref l), some (.int r), v4, none] ∧ Same H H' ∧ H' l = some (.lst (xs.map V.int)) ∧ xs.length = i ∧ ∀ x ∈ xs, 0 ≤ x ∧ Sz 150 x) ⟨_, _, [], rfl, s1, e1, rfl, fun x h => by cases h⟩ ?_ ?_
      · rintro i σ' H2 hi ⟨r, v4, xs, rfl, s2, el, hl, hx⟩
        walk_at "rd"
        refine seq_step ?_
        refine ⟨.ref l, rfl, .inl ⟨rfl, _, .of el⟩, ?_⟩
        walk_at "rd"
        refine app_at el (by rw [List.length_map]; omega) ?_
        walk_at "rd"
        have f := fm_pos (c := r) (m := 1000000000000000000000000000000000000000000000) (by decide)
        refine ⟨same_updN fl s2, xs ++ [r.fmod 1000000000000000000000000000000000000000000000], by rw [upd_same, List.map_append]; rfl, by simp [hl], fun x hx' => ?_⟩
        rcases List.mem_append.mp hx' with h | h
        · exact hx x h
        · have : x = r.fmod 1000000000000000000000000000000000000000000000 := by simpa using h
          rw [this]
          exact ⟨f.1, Sz.nn f.1 (Int.le_of_lt f.2) (by unfold Sz; decide +kernel)⟩
      · rintro σ' H2 ⟨r, v4, xs, rfl, s2, el, hl, hx⟩
        walk_at "rd"
        exact q l H2 xs s2 fl el hl hx
    · refine seq_step ?_
      walk_at "rd"
      have f0 := fm_pos (c := c) (m := 1000000000000000009) (by decide)
      refine seq_step ?_
      refine for_rg ?_
      walk_at "rd"
      refine ⟨by omega, by omega, ?_⟩
      rw [show ((m : Int) + 2).toNat = m + 2 by omega]
      refine forR_by (fun i σ' H' => ∃ (r : Int) (v4 : Option V) (xs : List Int), σ' = [some (.int c), some (.int m), some (.ref l), none, v4, some (.int r)] ∧ 0 ≤ r ∧ Sz 62 r ∧ Same H H' ∧ H' l = some (.lst (xs.map V.int)) ∧ xs.length = i ∧ ∀ x ∈ xs, 0 ≤ x ∧ Sz 150 x) ⟨_, _, [], rfl, by omega, by unfold Sz; omega, s1, e1, rfl, fun x h => by cases h⟩ ?_ ?_
      · rintro i σ' H2 hi ⟨r, v4, xs, rfl, r0, sr, s2, el, hl, hx⟩
        walk_at "rd"
        refine seq_step ?_
        walk_at "rd"
        refine ⟨sr.mulW sr (by omega), Sz.mulW (a := 20) (by unfold Sz; decide) sr (by omega), ?_⟩
        have f := fm_pos (c := r * r + 48271 * r + i) (m := 1000000000000000009) (by decide)
        generalize (r * r + 48271 * r + i).fmod 1000000000000000009 = r2 at *
        refine ⟨.ref l, rfl, .inl ⟨rfl, _, .of el⟩, ?_⟩
        walk_at "rd"
        refine app_at el (by rw [List.length_map]; omega) ?_
        walk_at "rd"
        refine ⟨f.1, by unfold Sz; omega, same_updN fl s2, xs ++ [r2], by rw [upd_same, List.map_append]; rfl, by simp [hl], fun x hx' => ?_⟩
        rcases List.mem_append.mp hx' with h | h
        · exact hx x h
        · have : x = r2 := by simpa using h
          rw [this]
          exact ⟨f.1, by unfold Sz; omega⟩
      · rintro σ' H2 ⟨r, v4, xs, rfl, r0, sr, s2, el, hl, hx⟩
        walk_at "rd"
        refine ⟨_, .of el, fun p2 H3 s3 f3 e3 => ?_⟩
        have ec : cutV (xs.map V.int) (some 2) none = (xs.drop 2).map V.int := by
          rw [List.map_drop]
          exact cut_from (k := 2) (by rw [List.length_map]; omega)
        rw [ec] at e3
        exact q p2 H3 (xs.drop 2) (s2.trans s3) (s2.free f3) e3 (by rw [List.length_drop]; omega) fun x h => hx x (List.mem_of_mem_drop h)
theorem ok_l_names (T : Top K mg) : FnOk P w K mg base CX0 1 T.f_l_names T.d_l_names ["_law_cell", "_law_many"] spNames := by
  refine T.F_l_names.ok sc_l_names (fun vs H Q E h => ?_) (fun cdv A outer s H vs Q E hr h => ?_)
  · obtain ⟨c, m, rfl, _⟩ := h; rfl
  · obtain ⟨cell, many, rfl, hm, q⟩ := h
    refine ⟨_, (pss_cons (ps_set (i := 2) sc_l_names.nd rfl (.inr rfl) pe_str)
      (pss_cons (ps_set (i := 3) sc_l_names.nd rfl (.inl rfl) (pe_op op_add pe_int (pe_op op_modN (pv 0) pe_int)))
      (pss_cons (ps_set (i := 4) sc_l_names.nd rfl (.inl rfl) (pe_op op_modN (pe_op op_modN (pe_op op_fdivZ (pv 0) pe_int) pe_int) (pv 3)))
      (pss_cons (ps_set (i := 5) sc_l_names.nd rfl (.inl rfl) (pe_lstN pa_nil))
      (pss_cons (ps_for PassesOwn.never rfl (pi_range1 (by rfl) T.m_range (pa_cons (pv 1) pa_nil)) (pg_name (i := 6) sc_l_names.nd rfl (.inl rfl)) (pss_cons (lc_vsS (vs := [8]) (ps_setLc (i := 7) (own := [("_law_j", 8)]) (g := gName 8) (tt := tYes) rfl sc_l_names.nd rfl rfl (sw_true rfl rfl rfl (by decide +kernel)) (pi_range1 (by rfl) T.m_range (pa_cons (pv 3) pa_nil)) (blkOk_by (own := [("_law_j", 8)]) (N := ["_law_cell", "_law_many", "_law_letters", "_law_size", "_law_at", "_law_names_here", "_law_k", "_law_word", "_law_j"]) (sc := defScope s_l_names) (by decide +kernel)) (fun _ _ _ _ _ => (pg_name (i := 8) sc_l_names.nd rfl (.inl rfl))) (fun _ _ _ _ _ => pts_nil) (fun _ _ _ _ _ => (pe_ix ix_str (pv 2) (pe_op op_modN (pe_op op_fdivZ (pv 0) (pe_op op_add pe_int (pe_op op_mulW pe_int (pv 8)))) pe_int) (fun _ _ => rfl)))) rfl)
      (pss_cons (ps_asg (pe_ix ix_str (pv 2) (pe_op op_modN (pe_op op_add (pe_op op_fdivZ (pv 0) pe_int) (pv 6)) pe_int) (fun _ _ => rfl)) (pg_sub (pv 7) (pv 4) set_list))
      (pss_one (ps_expr (pe_bm PySem.F.plainAttrs_list PySem.F.slot_list_append PySem.F.type_list_append mt_append (pv 5) (pa_cons (pe_join pe_str (pv 7)) pa_nil)))))))
      (pss_one (ps_ret (pv 5)))))))), ?_⟩
    refine seq_step ?_
    walk_at "rt"
    refine seq_step ?_
    walk_at "rt"
    refine seq_step ?_
    walk_at "rt"
    have m8 := fm_pos (c := cell) (m := 8) (by decide)
    refine ⟨by omega, ?_⟩
    generalize hsz : 1 + cell.fmod 8 = szI at *
    generalize hat : Int.fmod _ szI = atv
    have at0 : 0 ≤ atv ∧ atv < szI := by rw [← hat]; exact fm_pos (by omega)
    refine seq_step ?_
    walk_at "rd"
    intro l H1 s1 f1 e1
    refine seq_step ?_
    refine for_rg ?_
    walk_at "rd"
    refine ⟨(rg_ok (by omega)).1, (rg_ok (by omega)).2, ?_⟩
    rw [Int.toNat_natCast]
    obtain ⟨sz, rfl⟩ : ∃ n : Nat, szI = (n : Int) := ⟨szI.toNat, by omega⟩
    obtain ⟨av, rfl⟩ : ∃ n : Nat, atv = (n : Int) := ⟨atv.toNat, by omega⟩
    have fr : ∀ j : Nat, 0 ≤ (cell.fdiv (6720 + 31 * (j : Int))).fmod 26 ∧ (cell.fdiv (6720 + 31 * (j : Int))).fmod 26 < 26 := fun j => fm_pos (by decide)
    have nok : NamesOk ((List.range many).map fun k : Nat => txt (nmC sz av (fun j => (cell.fdiv (6720 + 31 * (j : Int))).fmod 26) ((cell.fdiv 6720 + (k : Int)).fmod 26))) many := names_ok (by omega) (by omega) (by omega) hm fr
    generalize hF : (fun k : Nat => txt (nmC sz av (fun j => (cell.fdiv (6720 + 31 * (j : Int))).fmod 26) ((cell.fdiv 6720 + (k : Int)).fmod 26))) = F at nok
    refine forR_by (fun i σ' H' => (∃ v6 v7 v8, σ' = [some (.int cell), some (.int many), some (.str letters), some (.int sz), some (.int av), some (.ref l), v6, v7, v8]) ∧ Same H H' ∧ H' l = some (.lst (((List.range i).map F).map V.str))) ⟨⟨_, _, _, rfl⟩, s1, e1⟩ ?_ ?_
    · rintro i σ' H2 hi ⟨⟨v6, v7, v8, rfl⟩, s2, e2⟩
      walk_at "rd"
      refine seq_step ?_
      refine lcr_src ?_
      walk_at "rd"
      refine ⟨(rg_ok (by omega)).1, (rg_ok (by omega)).2, ?_⟩
      rw [Int.toNat_natCast]
      refine lcRM (F := fun j => V.str (one (lett ((cell.fdiv (6720 + 31 * (j : Int))).fmod 26)))) (by omega) (fun j H3 Yes hj s3 hy => ?_) (fun wl H3 s3 f3 e3 => ?_)
      · walk_at "rd"
        refine ⟨Sz.mulW (a := 8) (b := 8) (by show (31 : Int).natAbs < 2 ^ 8; decide) (by show (j : Int).natAbs < 2 ^ 8; omega) (by decide), .of (n := 16) (by omega) (by show (6720 + 31 * (j : Int)).natAbs < 2 ^ 16; omega) (by decide), ?_⟩
        exact ⟨letters, _, _, rfl, rfl, small1000' (by decide +kernel), lett_at (fr j), hy _ (Same.refl _)⟩
      · walk_at "rd"
        refine seq_step ?_
        walk_at "rd"
        have fg : 0 ≤ (cell.fdiv 6720 + (i : Int)).fmod 26 ∧ (cell.fdiv 6720 + (i : Int)).fmod 26 < 26 := fm_pos (by decide)
        refine ⟨letters, _, _, rfl, rfl, small1000' (by decide +kernel), lett_at fg, ?_⟩
        walk_at "rd"
        refine ⟨wl, _, _, av, rfl, rfl, e3, (by rw [List.length_map, List.length_range]; unfold ixN; rw [if_pos (by omega), if_pos (by omega)]; simp), ?_⟩
        rw [show (V.str { cps := #[lett ((cell.fdiv 6720 + (i : Int)).fmod 26)] }) = V.str (one (lett ((cell.fdiv 6720 + (i : Int)).fmod 26))) from rfl, nmC_vals]
        have lw : l ≠ wl := fun z => by rw [← z, e2] at f3; cases f3
        refine ⟨_, rfl, .inl ⟨rfl, _, .of (by rw [upd_ne lw]; exact s3 _ _ e2)⟩, ?_⟩
        walk_at "rd"
        refine ⟨⟨_, rfl⟩, _, rfl, _, rfl, wl, rfl, _, .inl (.of upd_same), ?_, ?_⟩
        · rw [sum_one, nmC_len, List.length_map, nmC_len]
          have : (Str.ofString "").length = 0 := by decide +kernel
          rw [this]; omega
        · rw [join_one]
          walk_at "rd"
          refine app_at (by rw [upd_ne lw]; exact s3 _ _ e2) (by rw [List.length_map, List.length_map, List.length_range]; omega) ?_
          walk_at "rd"
          refine ⟨⟨_, rfl⟩, same_updN f1 (same_updN (s2.free f3) (s2.trans s3)), ?_⟩
          rw [upd_same, List.range_succ, List.map_append, List.map_append]
          subst hF
          rfl
    · rintro σ' H2 ⟨⟨v6, v7, v8, rfl⟩, s2, e2⟩
      walk_at "rd"
      exact q l H2 _ s2 f1 e2 nok
def spLNumber : Sp := fun vs H Q _ => ∃ (x unit : Int) (b : Nat), vs = [.int x, .int unit] ∧ b ≤ 215 ∧ 0 ≤ unit ∧ Sz b unit ∧ ∀ (n : Int) (H' : Hp), Same H H' → 0 ≤ n → Sz (b + 20) n → Q (.int n) H'
theorem ok_l_number (T : Top K mg) : FnOk P w K mg base CX0 1 T.f_l_number T.d_l_number ["_law_x", "_law_unit"] spLNumber := by
  refine T.F_l_number.ok sc_l_number (fun vs H Q E h => ?_) (fun cdv A outer s H vs Q E hr h => ?_)
  · obtain ⟨x, unit, b, rfl, _⟩ := h; rfl
  · obtain ⟨x, unit, b, rfl, b215, hu, su, q⟩ := h
    refine ⟨_, (pss_one (ps_ret (pe_op op_add (pe_op op_mulW (pv 1) (pe_op op_modN (pv 0) pe_int)) (pe_ix (ix_listA (K := K) rfl) (pe_lstN (pa_cons pe_int (pa_cons pe_int (pa_cons pe_int (pa_cons (pe_op op_add pe_int (pe_op op_modN (pe_op op_fdivZ (pv 0) pe_int) pe_int)) pa_nil))))) (pe_op op_modN (pe_op op_fdivZ (pv 0) pe_int) pe_int) (fun _ _ => rfl))))), ?_⟩
    have m7 := fm_pos (c := x) (m := 7) (by decide)
    have m4 := fm_pos (c := x.fdiv 7) (m := 4) (by decide)
    have m3 := fm_pos (c := x.fdiv 28) (m := 3) (by decide)
    have s7 : Sz 8 (x.fmod 7) := by show (x.fmod 7).natAbs < 2 ^ 8; omega
    have sm : Sz (b + 8) (unit * x.fmod 7) := Sz.mul su s7 (Nat.le_refl _)
    have n0 : 0 ≤ unit * x.fmod 7 := Int.mul_nonneg hu m7.1
    walk_at "rd"
    refine ⟨Sz.mulW su s7 (by omega), fun l H1 s1 f1 e1 => ?_⟩
    generalize x.fmod 7 = r7 at *
    generalize (x.fdiv 7).fmod 4 = r4 at *
    generalize (x.fdiv 28).fmod 3 = r3 at *
    have key : ∃ z : Int, [V.int 0, V.int 0, V.int 0, V.int (1 + r3)][r4.toNat]? = some (.int z) ∧ 0 ≤ z ∧ z ≤ 3 := by
      obtain rfl | rfl | rfl | rfl : r4 = 0 ∨ r4 = 1 ∨ r4 = 2 ∨ r4 = 3 := by omega
      · exact ⟨_, rfl, by omega, by omega⟩
      · exact ⟨_, rfl, by omega, by omega⟩
      · exact ⟨_, rfl, by omega, by omega⟩
      · exact ⟨_, rfl, by omega, by omega⟩
    obtain ⟨z, hz, z0, z3⟩ := key
    refine ix_l (.of e1) m4.1 hz ?_
    walk_at "rd"
    exact q _ _ s1 (by omega) (Sz.add sm (show Sz 8 z by show z.natAbs < 2 ^ 8; omega) (by omega) (by omega))
def spLGuard (ws : List Str) (most : Nat) : Sp := fun vs H Q _ => ∃ (px pw : Addr) (xs : List Int) (unit : Int) (watches : List Str) (b : Nat), vs = [.ref px, .int unit, .ref pw] ∧ b ≤ 215 ∧ H px = some (.lst (xs.map V.int)) ∧ 5 ≤ xs.length ∧ xs.length ≤ 60 ∧ H pw = some (.lst (watches.map V.str)) ∧ NamesOk watches watches.length ∧ watches.length ≤ 7 ∧ 0 ≤ unit ∧ Sz b unit ∧
  ∀ (q : Addr) (H' : Hp) (ls : List Lq), Same H H' → H q = none → LsAt (newH H H') q ls → ls.length ≤ most → guardOk ws watches ls = true → NumsB (b + 22) ls → Q (.ref q) H'
theorem ok_l_guard (T : Top K mg) : FnOk P w K mg base CX0 2 T.f_l_guard T.d_l_guard ["_law_xs", "_law_unit", "_law_watches"] (spLGuard WORDS 2) := by
  refine T.F_l_guard.ok sc_l_guard (fun vs H Q E h => ?_) (fun cdv A outer s H vs Q E hr h => ?_)
  · obtain ⟨px, pw, xs, unit, watches, b, rfl, _⟩ := h; rfl
  · obtain ⟨px, pw, xs, unit, watches, b, rfl, b215, hx, x5, x60, hw, wok, w7, u0, su, q⟩ := h
    refine ⟨_, (pss_cons (ps_set (i := 3) sc_l_guard.nd rfl (.inl rfl) (pe_lstN pa_nil))
      (pss_cons (ps_for PassesOwn.never rfl (pi_range1 (by rfl) T.m_range (pa_cons (pe_ix (ix_listA (K := K) rfl) (pe_lstN (pa_cons pe_int (pa_cons pe_int (pa_cons pe_int (pa_cons pe_int pa_nil))))) (pe_op op_modN (pe_ix (ix_listA (K := K) rfl) (pv 0) pe_int (fun _ _ => rfl)) pe_int) (fun _ _ => rfl)) pa_nil)) (pg_name (i := 4) sc_l_guard.nd rfl (.inl rfl)) (pss_one (ps_if (pt_cmpR (op_neD hr.units) (pv 2) (pe_lstN pa_nil) (nomark _)) (pss_cons (ps_set (i := 5) sc_l_guard.nd rfl (.inl rfl) (pe_ix (ix_listA (K := K) rfl) (pe_lstN (pa_cons pe_str (pa_cons pe_str (pa_cons pe_str (pa_cons pe_str (pa_cons pe_str (pa_cons pe_str pa_nil))))))) (pe_op op_modN (pe_op op_fdivZ (pe_ix (ix_listA (K := K) rfl) (pv 0) (pe_op op_add pe_int (pe_op op_mulW pe_int (pv 4))) (fun _ _ => rfl)) pe_int) pe_int) (fun _ _ => rfl)))
      (pss_one (ps_expr (pe_bm PySem.F.plainAttrs_list PySem.F.slot_list_append PySem.F.type_list_append mt_append (pv 3) (pa_cons (pe_tupN (pa_cons (pe_ix (ix_listA (K := K) rfl) (pv 2) (pe_op op_modN (pe_ix (ix_listA (K := K) rfl) (pv 0) (pe_op op_add pe_int (pe_op op_mulW pe_int (pv 4))) (fun _ _ => rfl)) (pe_callB call_len_seq (by rfl) T.m_len (by decide +kernel) (pa_cons (pv 2) pa_nil))) (fun _ _ => rfl)) (pa_cons (pv 5) (pa_cons (pe_call (ok_l_number T) (hr.mono (by decide)) rfl T.g_l_number T.F_l_number.kp T.b_l_number .nil pass0 (pa_cons (pe_ix (ix_listA (K := K) rfl) (pv 0) (pe_op op_add pe_int (pe_op op_mulW pe_int (pv 4))) (fun _ _ => rfl)) (pa_cons (pv 1) pa_nil))) pa_nil)))) pa_nil))))) pss_nil)))
      (pss_one (ps_ret (pv 3))))), ?_⟩
    have xat : ∀ i : Nat, i < 5 → ∃ v : Int, (xs.map V.int)[i]? = some (.int v) := fun i h => ⟨xs[i], by rw [List.getElem?_map, List.getElem?_eq_getElem (by omega)]; rfl⟩
    refine seq_step ?_
    walk_at "rd"
    intro g H1 s1 f1 e1
    refine seq_step ?_
    refine for_rg ?_
    walk_at "rd"
    intro l H2 s2 f2 e2
    obtain ⟨x0, h0⟩ := xat 0 (by omega)
    refine ix_l (.of ((s1.trans s2) _ _ hx)) (by decide) h0 ?_
    walk_at "rd"
    have m4 := fm_pos (c := x0) (m := 4) (by decide)
    generalize x0.fmod 4 = r4 at *
    obtain ⟨n, hn, n2⟩ : ∃ n : Nat, [V.int 0, V.int 1, V.int 1, V.int 2][r4.toNat]? = some (.int (n : Int)) ∧ n ≤ 2 := by
      obtain rfl | rfl | rfl | rfl : r4 = 0 ∨ r4 = 1 ∨ r4 = 2 ∨ r4 = 3 := by omega
      · exact ⟨0, rfl, by omega⟩
      · exact ⟨1, rfl, by omega⟩
      · exact ⟨1, rfl, by omega⟩
      · exact ⟨2, rfl, by omega⟩
    refine ix_l (.of e2) m4.1 hn ?_
    walk_at "rd"
    refine ⟨(rg_ok (by omega)).1, (rg_ok (by omega)).2, ?_⟩
    rw [Int.toNat_natCast]
    have s12 := s1.trans s2
    refine forR_by (fun i σ' H' => (∃ v4 v5, σ' = [some (.ref px), some (.int unit), some (.ref pw), some (.ref g), v4, v5]) ∧ Same H H' ∧ ∃ ls, SeqD LqAt (newH H H') g ls ∧ ls.length ≤ i ∧ guardOk WORDS watches ls = true ∧ NumsB (b + 22) ls) ⟨⟨_, _, rfl⟩, s12, [], SeqD.nil (new_at f1 (s2 _ _ e1)), by simp, rfl, fun l h => by cases h⟩ ?_ ?_
    · rintro i σ' H' hi ⟨⟨v4, v5, rfl⟩, s', ls, sd, ll, gk, nk⟩
      walk_at "rd"
      intro l3 H3 s3 f3 e3
      have sh := s'.trans s3
      refine ⟨_, _, names_dp (sh _ _ hw), .lst (.of e3) .nil, shaped_xs fun x h => okName_tx (wok.2.1 x h), rfl, ?_⟩
      by_cases we : watches = []
      · subst we
        walk_at "rd"
        exact ⟨⟨_, rfl⟩, sh, ls, sd.keep lqKeep (new_later s3), by omega, gk, nk⟩
      · have ne : PyData.eqv (.list (watches.map PyData.str)) (.list []) = false := by
          cases watches with
          | nil => exact absurd rfl we
          | cons r rs => rfl
        rw [ne]
        walk_at "rd"
        have wl : 0 < watches.length := List.length_pos_iff.mpr we
        have cm : CMulW 2 (i : Int) := Sz.mulW (a := 8) (b := 8) (by show (2 : Int).natAbs < 2 ^ 8; decide) (by show (i : Int).natAbs < 2 ^ 8; omega) (by decide)
        obtain ⟨v1, hv1⟩ := xat (1 + 2 * i) (by omega)
        obtain ⟨v2, hv2⟩ := xat (2 + 2 * i) (by omega)
        refine seq_step ?_
        walk_at "rd"
        intro l4 H4 s4 f4 e4
        have sh4 := sh.trans s4
        refine ⟨cm, ?_⟩
        refine ix_l (.of (sh4 _ _ hx)) (by omega) (by rw [show (1 + 2 * (i : Int)).toNat = 1 + 2 * i by omega]; exact hv1) ?_
        walk_at "rd"
        have m6 := fm_pos (c := v1.fdiv 8) (m := 6) (by decide)
        obtain ⟨wd, hwd, hwm⟩ := pick_word (ws := ["<", "<=", ">", ">=", ">=", "="]) (i := (v1.fdiv 8).fmod 6) m6
        have hwm : wd ∈ WORDS := (by decide +kernel : ∀ x ∈ (["<", "<=", ">", ">=", ">=", "="] : List Str), x ∈ WORDS) wd hwm
        refine ix_l (.of e4) m6.1 hwd ?_
        walk_at "rd"
        have sd4 := sd.keep lqKeep (new_later (H := H) (s3.trans s4))
        obtain ⟨gqs, gq1, _⟩ := id sd4
        refine ⟨_, rfl, .inl ⟨rfl, _, .of (new_of gq1).2⟩, ?_⟩
        walk_at "rd"
        refine ⟨cm, ?_⟩
        refine ix_l (.of (sh4 _ _ hx)) (by omega) (by rw [show (1 + 2 * (i : Int)).toNat = 1 + 2 * i by omega]; exact hv1) ?_
        walk_at "rd"
        refine ⟨_, .inl (.of (sh4 _ _ hw)), ?_⟩
        rw [List.length_map]
        refine ⟨by omega, ?_⟩
        have mw := fm_pos (c := v1) (m := (watches.length : Int)) (by omega)
        obtain ⟨wn, hwn, hwnm⟩ := pick_word (ws := watches) mw
        refine ix_l (.of (sh4 _ _ hw)) mw.1 hwn ?_
        walk_at "rd"
        refine ⟨cm, ?_⟩
        refine ix_l (.of (sh4 _ _ hx)) (by omega) (by rw [show (2 + 2 * (i : Int)).toNat = 2 + 2 * i by omega]; exact hv2) ?_
        walk_at "rd"
        refine ⟨_, _, b, rfl, b215, u0, su, fun n H5 s5 n0 sn => ?_⟩
        walk_at "rd"
        intro tq H6 s6 f6 e6
        have s46 := s5.trans s6
        have sh6 := sh4.trans s46
        have sd6 := sd4.keep lqKeep (new_later (H := H) s46)
        have tg : tq ≠ g := fun z => by
          rw [z, s5 _ _ (new_of gq1).2] at f6; cases f6
        obtain ⟨items, it1, it2, it3⟩ := sd6.app lqKeep (x := (wn, wd, V.int n)) ⟨del_at tg (new_at ((sh4.trans s5).free f6) e6), rfl⟩
        refine app_at (new_of it1).2 (by omega) ?_
        walk_at "rd"
        rw [← new_upd f1] at it3
        refine ⟨⟨_, rfl⟩, same_updN f1 sh6, _, it3, by rw [List.length_append, List.length_singleton]; omega, ?_, ?_⟩
        · show (ls ++ [(wn, wd, V.int n)]).all (lookOk WORDS watches) = true
          rw [List.all_append, show ls.all (lookOk WORDS watches) = true from gk]
          simp only [List.all_cons, List.all_nil, Bool.and_true, Bool.true_and]
          unfold lookOk numOk
          simp only [decide_eq_true hwnm, decide_eq_true hwm, decide_eq_true n0, Bool.and_true]
        · intro l hl
          rcases List.mem_append.mp hl with h | h
          · exact nk l h
          · have : l = (wn, wd, V.int n) := by simpa using h
            subst this
            exact ⟨n, rfl, n0, sn.mono (by omega)⟩
    · rintro σ' H' ⟨⟨v4, v5, rfl⟩, s', ls, sd, ll, gk, nk⟩
      walk_at "rd"
      exact q g H' ls s' f1 (sd.seq lqKeep) (by omega) gk nk
theorem ok_l_stay (T : Top K mg) : FnOk P w K mg base CX0 2 T.f_l_stay T.d_l_stay ["_law_xs", "_law_unit", "_law_watches"] (spLGuard ["<", "<="] 2) := by
  refine T.F_l_stay.ok sc_l_stay (fun vs H Q E h => ?_) (fun cdv A outer s H vs Q E hr h => ?_)
  · obtain ⟨px, pw, xs, unit, watches, b, rfl, _⟩ := h; rfl
  · obtain ⟨px, pw, xs, unit, watches, b, rfl, b215, hx, x5, x60, hw, wok, w7, u0, su, q⟩ := h
    refine ⟨_, (pss_cons (ps_set (i := 3) sc_l_stay.nd rfl (.inl rfl) (pe_lstN pa_nil))
      (pss_cons (ps_for PassesOwn.never rfl (pi_range1 (by rfl) T.m_range (pa_cons (pe_ix (ix_listA (K := K) rfl) (pe_lstN (pa_cons pe_int (pa_cons pe_int (pa_cons pe_int (pa_cons pe_int pa_nil))))) (pe_op op_modN (pe_ix (ix_listA (K := K) rfl) (pv 0) pe_int (fun _ _ => rfl)) pe_int) (fun _ _ => rfl)) pa_nil)) (pg_name (i := 4) sc_l_stay.nd rfl (.inl rfl)) (pss_one (ps_if (pt_cmpR (op_neD hr.units) (pv 2) (pe_lstN pa_nil) (nomark _)) (pss_cons (ps_set (i := 5) sc_l_stay.nd rfl (.inl rfl) (pe_op op_add (pe_call (ok_l_number T) (hr.mono (by decide)) rfl T.g_l_number T.F_l_number.kp T.b_l_number .nil pass0 (pa_cons (pe_ix (ix_listA (K := K) rfl) (pv 0) (pe_op op_add pe_int (pe_op op_mulW pe_int (pv 4))) (fun _ _ => rfl)) (pa_cons (pv 1) pa_nil))) (pe_op op_mulW (pv 1) (pe_op op_sub pe_int (pe_op op_fdivZ (pe_op op_modN (pe_op op_fdivZ (pe_ix (ix_listA (K := K) rfl) (pv 0) pe_int (fun _ _ => rfl)) pe_int) pe_int) pe_int)))))
      (pss_one (ps_expr (pe_bm PySem.F.plainAttrs_list PySem.F.slot_list_append PySem.F.type_list_append mt_append (pv 3) (pa_cons (pe_tupN (pa_cons (pe_ix (ix_listA (K := K) rfl) (pv 2) (pe_op op_modN (pe_ix (ix_listA (K := K) rfl) (pv 0) (pe_op op_add pe_int (pe_op op_mulW pe_int (pv 4))) (fun _ _ => rfl)) (pe_callB call_len_seq (by rfl) T.m_len (by decide +kernel) (pa_cons (pv 2) pa_nil))) (fun _ _ => rfl)) (pa_cons (pe_ix (ix_listA (K := K) rfl) (pe_lstN (pa_cons pe_str (pa_cons pe_str pa_nil))) (pe_op op_modN (pe_op op_fdivZ (pe_ix (ix_listA (K := K) rfl) (pv 0) (pe_op op_add pe_int (pe_op op_mulW pe_int (pv 4))) (fun _ _ => rfl)) pe_int) pe_int) (fun _ _ => rfl)) (pa_cons (pv 5) pa_nil)))) pa_nil))))) pss_nil)))
      (pss_one (ps_ret (pv 3))))), ?_⟩
    have xat : ∀ i : Nat, i < 5 → ∃ v : Int, (xs.map V.int)[i]? = some (.int v) := fun i h => ⟨xs[i], by rw [List.getElem?_map, List.getElem?_eq_getElem (by omega)]; rfl⟩
    refine seq_step ?_
    walk_at "rd"
    intro g H1 s1 f1 e1
    refine seq_step ?_
    refine for_rg ?_
    walk_at "rd"
    intro l H2 s2 f2 e2
    obtain ⟨x0, h0⟩ := xat 0 (by omega)
    refine ix_l (.of ((s1.trans s2) _ _ hx)) (by decide) h0 ?_
    walk_at "rd"
    have m4 := fm_pos (c := x0) (m := 4) (by decide)
    generalize x0.fmod 4 = r4 at *
    obtain ⟨n, hn, n2⟩ : ∃ n : Nat, [V.int 0, V.int 0, V.int 1, V.int 2][r4.toNat]? = some (.int (n : Int)) ∧ n ≤ 2 := by
      obtain rfl | rfl | rfl | rfl : r4 = 0 ∨ r4 = 1 ∨ r4 = 2 ∨ r4 = 3 := by omega
      · exact ⟨0, rfl, by omega⟩
      · exact ⟨0, rfl, by omega⟩
      · exact ⟨1, rfl, by omega⟩
      · exact ⟨2, rfl, by omega⟩
    refine ix_l (.of e2) m4.1 hn ?_
    walk_at "rd"
    refine ⟨(rg_ok (by omega)).1, (rg_ok (by omega)).2, ?_⟩
    rw [Int.toNat_natCast]
    have s12 := s1.trans s2
    refine forR_by (fun i σ' H' => (∃ v4 v5, σ' = [some (.ref px), some (.int unit), some (.ref pw), some (.ref g), v4, v5]) ∧ Same H H' ∧ ∃ ls, SeqD LqAt (newH H H') g ls ∧ ls.length ≤ i ∧ guardOk ["<", "<="] watches ls = true ∧ NumsB (b + 22) ls) ⟨⟨_, _, rfl⟩, s12, [], SeqD.nil (new_at f1 (s2 _ _ e1)), by simp, rfl, fun l h => by cases h⟩ ?_ ?_
    · rintro i σ' H' hi ⟨⟨v4, v5, rfl⟩, s', ls, sd, ll, gk, nk⟩
      walk_at "rd"
      intro l3 H3 s3 f3 e3
      have sh := s'.trans s3
      refine ⟨_, _, names_dp (sh _ _ hw), .lst (.of e3) .nil, shaped_xs fun x h => okName_tx (wok.2.1 x h), rfl, ?_⟩
      by_cases we : watches = []
      · subst we
        walk_at "rd"
        exact ⟨⟨_, rfl⟩, sh, ls, sd.keep lqKeep (new_later s3), by omega, gk, nk⟩
      · have ne : PyData.eqv (.list (watches.map PyData.str)) (.list []) = false := by
          cases watches with
          | nil => exact absurd rfl we
          | cons r rs => rfl
        rw [ne]
        walk_at "rd"
        have wl : 0 < watches.length := List.length_pos_iff.mpr we
        have cm : CMulW 2 (i : Int) := Sz.mulW (a := 8) (b := 8) (by show (2 : Int).natAbs < 2 ^ 8; decide) (by show (i : Int).natAbs < 2 ^ 8; omega) (by decide)
        obtain ⟨v1, hv1⟩ := xat (1 + 2 * i) (by omega)
        obtain ⟨v2, hv2⟩ := xat (2 + 2 * i) (by omega)
        refine seq_step ?_
        walk_at "rd"
        refine ⟨cm, ?_⟩
        refine ix_l (.of (sh _ _ hx)) (by omega) (by rw [show (2 + 2 * (i : Int)).toNat = 2 + 2 * i by omega]; exact hv2) ?_
        walk_at "rd"
        refine ⟨_, _, b, rfl, b215, u0, su, fun n1 H4 s4 n10 sn1 => ?_⟩
        walk_at "rd"
        have sh4 := sh.trans s4
        refine ix_l (.of (sh4 _ _ hx)) (by decide) h0 ?_
        walk_at "rd"
        have m16 := fm_pos (c := x0.fdiv 4) (m := 16) (by decide)
        have d15 : 0 ≤ ((x0.fdiv 4).fmod 16).fdiv 15 ∧ ((x0.fdiv 4).fmod 16).fdiv 15 ≤ 1 := by
          rw [Int.fdiv_eq_ediv_of_nonneg _ (by decide)]
          omega
        have sn0 : Sz (b + 10) (unit * (1 - ((x0.fdiv 4).fmod 16).fdiv 15)) := Sz.mul su (show Sz 4 _ by show (1 - ((x0.fdiv 4).fmod 16).fdiv 15).natAbs < 2 ^ 4; omega) (by omega)
        have nn0 : 0 ≤ unit * (1 - ((x0.fdiv 4).fmod 16).fdiv 15) := Int.mul_nonneg u0 (by omega)
        refine ⟨Sz.mulW su (show Sz 4 _ by show (1 - ((x0.fdiv 4).fmod 16).fdiv 15).natAbs < 2 ^ 4; omega) (by omega), ?_⟩
        generalize hn : n1 + unit * (1 - ((x0.fdiv 4).fmod 16).fdiv 15) = n at *
        have n0 : 0 ≤ n := by omega
        have sn : Sz (b + 22) n := by rw [← hn]; exact Sz.add sn1 sn0 (by omega) (by omega)
        have sd4 := sd.keep lqKeep (new_later (H := H) (s3.trans s4))
        obtain ⟨gqs, gq1, _⟩ := id sd4
        refine ⟨_, rfl, .inl ⟨rfl, _, .of (new_of gq1).2⟩, ?_⟩
        walk_at "rd"
        refine ⟨cm, ?_⟩
        refine ix_l (.of (sh4 _ _ hx)) (by omega) (by rw [show (1 + 2 * (i : Int)).toNat = 1 + 2 * i by omega]; exact hv1) ?_
        walk_at "rd"
        refine ⟨_, .inl (.of (sh4 _ _ hw)), ?_⟩
        rw [List.length_map]
        refine ⟨by omega, ?_⟩
        have mw := fm_pos (c := v1) (m := (watches.length : Int)) (by omega)
        obtain ⟨wn, hwn, hwnm⟩ := pick_word (ws := watches) mw
        refine ix_l (.of (sh4 _ _ hw)) mw.1 hwn ?_
        walk_at "rd"
        intro l4 H5 s5 f5 e5
        have sh5 := sh4.trans s5
        refine ⟨cm, ?_⟩
        refine ix_l (.of (sh5 _ _ hx)) (by omega) (by rw [show (1 + 2 * (i : Int)).toNat = 1 + 2 * i by omega]; exact hv1) ?_
        walk_at "rd"
        have m2 := fm_pos (c := v1.fdiv 8) (m := 2) (by decide)
        obtain ⟨wd, hwd, hwdm⟩ := pick_word (ws := ["<", "<="]) (i := (v1.fdiv 8).fmod 2) m2
        refine ix_l (.of e5) m2.1 hwd ?_
        walk_at "rd"
        intro tq H6 s6 f6 e6
        have s46 := s5.trans s6
        have sh6 := sh4.trans s46
        have sd6 := sd4.keep lqKeep (new_later (H := H) s46)
        have tg : tq ≠ g := fun z => by
          rw [z, s5 _ _ (new_of gq1).2] at f6; cases f6
        obtain ⟨items, it1, it2, it3⟩ := sd6.app lqKeep (x := (wn, wd, V.int n)) ⟨del_at tg (new_at ((sh4.trans s5).free f6) e6), rfl⟩
        refine app_at (new_of it1).2 (by omega) ?_
        walk_at "rd"
        rw [← new_upd f1] at it3
        refine ⟨⟨_, rfl⟩, same_updN f1 sh6, _, it3, by rw [List.length_append, List.length_singleton]; omega, ?_, ?_⟩
        · show (ls ++ [(wn, wd, V.int n)]).all (lookOk ["<", "<="] watches) = true
          rw [List.all_append, show ls.all (lookOk ["<", "<="] watches) = true from gk]
          simp only [List.all_cons, List.all_nil, Bool.and_true, Bool.true_and]
          unfold lookOk numOk
          simp only [decide_eq_true hwnm, decide_eq_true hwdm, decide_eq_true n0, Bool.and_true]
        · intro l hl
          rcases List.mem_append.mp hl with h | h
          · exact nk l h
          · have : l = (wn, wd, V.int n) := by simpa using h
            subst this
            exact ⟨n, rfl, n0, sn.mono (by omega)⟩
    · rintro σ' H' ⟨⟨v4, v5, rfl⟩, s', ls, sd, ll, gk, nk⟩
      walk_at "rd"
      exact q g H' ls s' f1 (sd.seq lqKeep) (by omega) gk nk
theorem cut_nat {xs : List V} {a b : Nat} (h : a ≤ b) (hb : b ≤ xs.length) : cutV xs (some (a : Int)) (some (b : Int)) = (xs.drop a).take (b - a) := by
  unfold cutV
  rw [HT.sIx_nat, HT.sIx_nat, Nat.min_eq_left hb, Nat.min_eq_left (Nat.le_trans h hb)]
theorem fm_nodup {ws : List Str} (h : ws.Nodup) {n : Nat} {F : Nat → Option Str} (hF : ∀ k x, F k = some x → ws[k]? = some x) : ((List.range n).filterMap F).Nodup ∧ ∀ x ∈ (List.range n).filterMap F, x ∈ ws := by
  constructor
  · unfold List.Nodup
    rw [List.pairwise_filterMap]
    refine List.Pairwise.imp_of_mem (fun {a b} _ _ hne x hx y hy he => hne ?_) List.nodup_range
    have h1 := hF a x hx
    have h2 := hF b y hy
    rw [← he] at h2
    exact (List.getElem?_inj (List.getElem?_eq_some_iff.mp h1).1 h).mp (h1.trans h2.symm)
  · intro x hx
    obtain ⟨k, _, hk⟩ := List.mem_filterMap.mp hx
    exact List.mem_of_getElem? (hF k x hk)
def LDoorOk (watches : List Str) (many : Nat) (d : LDoor) : Prop := d.b < many ∧ d.e < many ∧ guardOk WORDS watches d.gd = true ∧ d.gd.length ≤ 2 ∧ NumsOk d.gd ∧ d.ns.Nodup ∧ (∀ x ∈ d.ns, x ∈ watches) ∧ (d.sg = "" ∨ d.sg = "go!")
def spLDoor : Sp := fun vs H Q _ => ∃ (cell unit : Int) (pw : Addr) (watches : List Str) (many : Nat), vs = [.int cell, .int unit, .ref pw, .int many] ∧ H pw = some (.lst (watches.map V.str)) ∧ NamesOk watches watches.length ∧ watches.length ≤ 7 ∧ 0 ≤ unit ∧ Sz 180 unit ∧ 1 ≤ many ∧
  ∀ (q : Addr) (H' : Hp) (d : LDoor), Same H H' → H q = none → LDoorAt (newH H H') q d → LDoorOk watches many d → Q (.ref q) H'
theorem ok_l_door (T : Top K mg) : FnOk P w K mg base CX0 3 T.f_l_door T.d_l_door ["_law_cell", "_law_unit", "_law_watches", "_law_many"] spLDoor := by
  refine T.F_l_door.ok sc_l_door (fun vs H Q E h => ?_) (fun cdv A outer s H vs Q E hr h => ?_)
  · obtain ⟨cell, unit, pw, watches, many, rfl, _⟩ := h; rfl
  · obtain ⟨cell, unit, pw, watches, many, rfl, hw, wok, w7, u0, su, hm1, q⟩ := h
    refine ⟨_, (pss_cons (ps_set (i := 4) sc_l_door.nd rfl (.inr rfl) (pe_call (ok_l_stream T) (hr.mono (by decide)) rfl T.g_l_stream T.F_l_stream.kp T.b_l_stream .nil pass0 (pa_cons (pv 0) (pa_cons pe_int pa_nil))))
      (pss_cons (lc_vsS (vs := [7]) (ps_setLc (i := 5) (own := [("_law_k", 7)]) (g := gName 7) rfl sc_l_door.nd rfl rfl (sw_true rfl rfl rfl (by decide +kernel)) (pi_range1 (by rfl) T.m_range (pa_cons (pe_callB call_len_seq (by rfl) T.m_len (by decide +kernel) (pa_cons (pv 2) pa_nil)) pa_nil)) (blkOk_by (own := [("_law_k", 7)]) (N := ["_law_cell", "_law_unit", "_law_watches", "_law_many", "_law_xs", "_law_noughts", "_law_sign", "_law_k"]) (sc := defScope s_l_door) (by decide +kernel)) (fun _ _ _ _ _ => (pg_name (i := 7) sc_l_door.nd rfl (.inl rfl))) (fun _ _ _ _ _ => pts_one (pt_cmpR op_eq (pe_op op_modN (pe_op op_fdivZ (pe_op op_fdivZ (pe_ix (ix_listA (K := K) rfl) (pv 4) pe_int (fun _ _ => rfl)) (pe_op op_pow pe_int pe_int)) (pe_op op_add (pv 7) pe_int)) pe_int) pe_int (nomark _))) (fun _ _ _ _ _ => (pe_ix (ix_listA (K := K) rfl) (pv 2) (pv 7) (fun _ _ => rfl)))) rfl)
      (pss_cons (ps_set (i := 6) sc_l_door.nd rfl (.inl rfl) (pe_ix (ix_listA (K := K) rfl) (pe_lstN (pa_cons pe_str (pa_cons pe_str (pa_cons pe_str (pa_cons pe_str pa_nil))))) (pe_op op_mulW (pe_op op_fdivZ (pe_op op_modN (pe_ix (ix_listA (K := K) rfl) (pv 4) pe_int (fun _ _ => rfl)) pe_int) pe_int) (pe_op op_modN (pe_op op_fdivZ (pe_ix (ix_listA (K := K) rfl) (pv 4) pe_int (fun _ _ => rfl)) pe_int) pe_int)) (fun _ _ => rfl)))
      (pss_one (ps_ret (pe_tupN (pa_cons (pe_op op_modN (pe_ix (ix_listA (K := K) rfl) (pv 4) pe_int (fun _ _ => rfl)) (pv 3)) (pa_cons (pe_op op_modN (pe_ix (ix_listA (K := K) rfl) (pv 4) pe_int (fun _ _ => rfl)) (pv 3)) (pa_cons (pe_call (ok_l_guard T) (hr.mono (by decide)) rfl T.g_l_guard T.F_l_guard.kp T.b_l_guard .nil pass0 (pa_cons (pe_slice (sl_listA (K := K) rfl) (pv 4) (po_some pe_int) (po_some pe_int)) (pa_cons (pv 1) (pa_cons (pv 2) pa_nil)))) (pa_cons (pv 5) (pa_cons (pv 6) pa_nil))))))))))), ?_⟩
    refine seq_step ?_
    walk_at "rd"
    refine ⟨cell, 9, rfl, by decide, fun px H1 xs s1 f1 e1 xl xok => ?_⟩
    have xat : ∀ i : Nat, i < 9 → ∃ v : Int, (xs.map V.int)[i]? = some (.int v) := fun i h => ⟨xs[i], by rw [List.getElem?_map, List.getElem?_eq_getElem (by omega)]; rfl⟩
    obtain ⟨x0, h0⟩ := xat 0 (by omega)
    obtain ⟨x1, h1⟩ := xat 1 (by omega)
    obtain ⟨x7, h7⟩ := xat 7 (by omega)
    obtain ⟨x8, h8⟩ := xat 8 (by omega)
    walk_at "rd"
    refine seq_step ?_
    refine lcr_src ?_
    walk_at "rd"
    refine ⟨_, .inl (.of (s1 _ _ hw)), ?_⟩
    rw [List.length_map]
    refine ⟨(rg_ok (by omega)).1, (rg_ok (by omega)).2, ?_⟩
    rw [Int.toNat_natCast]
    generalize hF : (fun k : Nat => if ((x7.fdiv 16).fdiv ((k : Int) + 1)).fmod 2 = 1 then watches[k]? else none) = F
    have fn := fm_nodup wok.2.2.1 (n := watches.length) (F := F) (fun k x h => by
      subst hF
      simp only at h
      split at h
      · exact h
      · cases h)
    refine lcR (F := fun k => (F k).map V.str) (by omega) (fun j H2 Yes No hj s2 hy hno => ?_) (fun nl H2 s2 f2 e2 => ?_)
    · have s12 := s1.trans s2
      walk_at "rd"
      refine ix_l (.of (s2 _ _ e1)) (by decide) h7 ?_
      walk_at "rd"
      refine ⟨.of (n := 8) (by omega) (by show ((j : Int) + 1).natAbs < 2 ^ 8; omega) (by decide), ?_⟩
      have hwj : watches[j]? = some watches[j] := List.getElem?_eq_getElem hj
      refine ite_d (fun c => ?_) (fun c => ?_)
      · refine ix_l (.of (s12 _ _ hw)) (by omega) (by rw [Int.toNat_natCast, List.getElem?_map, hwj]; rfl) (hy _ _ (Same.refl _) ?_)
        subst hF
        simp only
        rw [if_pos c, hwj]; rfl
      · refine hno _ (Same.refl _) ?_
        subst hF
        simp only
        rw [if_neg c]; rfl
    · have e2' : H2 nl = some (.lst (((List.range watches.length).filterMap F).map V.str)) := by rw [e2, List.map_filterMap]
      generalize (List.range watches.length).filterMap F = ns at fn e2'
      walk_at "rd"
      refine seq_step ?_
      walk_at "rd"
      intro sl H3 s3 f3 e3
      have s13 : Same H1 H3 := s2.trans s3
      refine ix_l (.of (s13 _ _ e1)) (by decide) h8 ?_
      walk_at "rd"
      refine ix_l (.of (s13 _ _ e1)) (by decide) h8 ?_
      walk_at "rd"
      have a1 : (x8.fmod 16).fdiv 12 = 0 ∨ (x8.fmod 16).fdiv 12 = 1 := by
        have := fm_pos (c := x8) (m := 16) (by decide)
        rw [Int.fdiv_eq_ediv_of_nonneg _ (by decide)]
        omega
      have a2 := fm_pos (c := x8.fdiv 16) (m := 4) (by decide)
      generalize (x8.fmod 16).fdiv 12 = r1 at *
      generalize (x8.fdiv 16).fmod 4 = r2 at *
      have a3 : 0 ≤ r1 * r2 ∧ r1 * r2 < 4 := by rcases a1 with rfl | rfl <;> omega
      refine ⟨Sz.mulW (a := 4) (b := 4) (by show r1.natAbs < 2 ^ 4; omega) (by show r2.natAbs < 2 ^ 4; omega) (by decide), ?_⟩
      generalize r1 * r2 = r at *
      obtain ⟨sg, hsg, sgm⟩ := pick_word (ws := ["", "", "", "go!"]) (i := r) a3
      have sgo : sg = "" ∨ sg = "go!" := by simpa using sgm
      refine ix_l (.of e3) a3.1 hsg ?_
      walk_at "rd"
      refine ix_l (.of (s13 _ _ e1)) (by decide) h0 ?_
      walk_at "rd"
      refine ⟨by omega, ?_⟩
      refine ix_l (.of (s13 _ _ e1)) (by decide) h1 ?_
      walk_at "rd"
      refine ⟨by omega, ?_⟩
      refine ⟨_, .of (s13 _ _ e1), fun gx H4 s4 f4 e4 => ?_⟩
      have s04 := (s1.trans s13).trans s4
      have ec : H4 gx = some (.lst (((xs.drop 2).take 5).map V.int)) := by
        rw [e4, show (some (2 : Int)) = some ((2 : Nat) : Int) from rfl, show (some (7 : Int)) = some ((7 : Nat) : Int) from rfl, cut_nat (by decide) (by rw [List.length_map]; omega), List.map_take, List.map_drop]
      have m0 := fm_pos (c := x0) (m := (many : Int)) (by omega)
      have m1 := fm_pos (c := x1) (m := (many : Int)) (by omega)
      obtain ⟨bn, hb⟩ : ∃ n : Nat, x0.fmod many = (n : Int) := ⟨(x0.fmod many).toNat, by omega⟩
      obtain ⟨en, he⟩ : ∃ n : Nat, x1.fmod many = (n : Int) := ⟨(x1.fmod many).toNat, by omega⟩
      rw [hb, he]
      rw [hb] at m0
      rw [he] at m1
      refine ⟨gx, pw, (xs.drop 2).take 5, unit, watches, 180, rfl, by decide, ec, by simp; omega, by simp; omega, s04 _ _ hw, wok, w7, u0, su, fun g H5 ls s5 f5 e5 l2 gk nk => ?_⟩
      walk_at "rd"
      intro t H6 s6 f6 e6
      have s46 := s5.trans s6
      refine q t H6 ⟨bn, en, ls, ns, sg⟩ (s04.trans s46) ((s04.trans s5).free f6) ⟨g, nl, new_at ((s04.trans s5).free f6) e6, e5.keep (new_mono s04 s6), new_at (s1.free f2) (((s3.trans s4).trans s46) _ _ e2')⟩ ⟨by show bn < many; omega, by show en < many; omega, gk, l2, nk.ok (by decide), fn.1, fn.2, sgo⟩
theorem cut_ints {cs : List Int} {a b : Nat} (h : a ≤ b) : ∃ ds : List Int, cutV (cs.map V.int) (some (a : Int)) (some (b : Int)) = ds.map V.int ∧ ds.length ≤ b - a := by
  refine ⟨(cs.drop (min a cs.length)).take (min b cs.length - min a cs.length), ?_, ?_⟩
  · unfold cutV
    rw [HT.sIx_nat, HT.sIx_nat, List.length_map, List.map_take, List.map_drop]
  · rw [List.length_take]; omega
theorem LDoorAt.keep' : ∀ (H H' : Hp) (q : Addr) (x : LDoor), Same H H' → LDoorAt H q x → LDoorAt H' q x := fun _ _ _ _ s h => LDoorAt.keep s h
def spLMachine (K : PySem.W.Frag) : Sp := fun vs H Q _ => ∃ (ps : Addr) (cs : List Int), vs = [.ref ps] ∧ SqL K H ps (cs.map V.int) ∧ cs.length ≤ 63 ∧ ∀ (q : Addr) (H' : Hp) (S : Spec), Same H H' → SpecAt H' q S → SpecOk S → Q (.ref q) H'
theorem ok_l_machine (T : Top K mg) : FnOk P w K mg base CX0 4 T.f_l_machine T.d_l_machine ["_law_script"] (spLMachine K) := by
  refine T.F_l_machine.ok sc_l_machine (fun vs H Q E h => ?_) (fun cdv A outer s H vs Q E hr h => ?_)
  · obtain ⟨ps, cs, rfl, _⟩ := h; rfl
  · obtain ⟨ps, cs, rfl, hc, c63, q⟩ := h
    refine ⟨_, (pss_cons (ps_set (i := 1) sc_l_machine.nd rfl (.inl rfl) (pe_call (ok_l_cell_at T) (hr.mono (by decide)) rfl T.g_l_cell_at T.F_l_cell_at.kp T.b_l_cell_at .nil pass0 (pa_cons (pv 0) (pa_cons pe_int pa_nil))))
      (pss_cons (ps_set (i := 2) sc_l_machine.nd rfl (.inl rfl) (pe_call (ok_l_cell_at T) (hr.mono (by decide)) rfl T.g_l_cell_at T.F_l_cell_at.kp T.b_l_cell_at .nil pass0 (pa_cons (pv 0) (pa_cons pe_int pa_nil))))
      (pss_cons (ps_set (i := 3) sc_l_machine.nd rfl (.inr rfl) (pe_op op_add pe_int (pe_op op_modN (pe_op op_fdivZ (pv 1) pe_int) (pe_ix (ix_listA (K := K) rfl) (pe_lstN (pa_cons pe_int (pa_cons pe_int (pa_cons (pe_op op_pow pe_int pe_int) (pa_cons (pe_op op_pow pe_int pe_int) pa_nil))))) (pe_op op_modN (pv 1) pe_int) (fun _ _ => rfl)))))
      (pss_cons (ps_set (i := 4) sc_l_machine.nd rfl (.inr rfl) (pe_call (ok_l_names T) (hr.mono (by decide)) rfl T.g_l_names T.F_l_names.kp T.b_l_names .nil pass0 (pa_cons (pe_op op_fdivZ (pv 1) pe_int) (pa_cons (pe_ix (ix_listA (K := K) rfl) (pe_lstN (pa_cons pe_int (pa_cons pe_int (pa_cons pe_int (pa_cons pe_int (pa_cons pe_int (pa_cons pe_int pa_nil))))))) (pe_op op_modN (pv 2) pe_int) (fun _ _ => rfl)) pa_nil))))
      (pss_cons (ps_set (i := 5) sc_l_machine.nd rfl (.inr rfl) (pe_call (ok_l_names T) (hr.mono (by decide)) rfl T.g_l_names T.F_l_names.kp T.b_l_names .nil pass0 (pa_cons (pe_op op_fdivZ (pv 2) pe_int) (pa_cons (pe_op op_add pe_int (pe_op op_modN (pe_op op_fdivZ (pv 2) pe_int) pe_int)) pa_nil))))
      (pss_cons (ps_set (i := 6) sc_l_machine.nd rfl (.inl rfl) (pe_lstN pa_nil))
      (pss_cons (ps_for PassesOwn.never rfl (pi_range1 (by rfl) T.m_range (pa_cons (pe_callB call_len_seq (by rfl) T.m_len (by decide +kernel) (pa_cons (pv 5) pa_nil)) pa_nil)) (pg_name (i := 7) sc_l_machine.nd rfl (.inl rfl)) (pss_cons (ps_set (i := 8) sc_l_machine.nd rfl (.inl rfl) (pe_call (ok_l_stream T) (hr.mono (by decide)) rfl T.g_l_stream T.F_l_stream.kp T.b_l_stream .nil pass0 (pa_cons (pe_op op_add (pe_call (ok_l_cell_at T) (hr.mono (by decide)) rfl T.g_l_cell_at T.F_l_cell_at.kp T.b_l_cell_at .nil pass0 (pa_cons (pv 0) (pa_cons (pe_op op_add pe_int (pv 7)) pa_nil))) (pv 7)) (pa_cons pe_int pa_nil))))
      (pss_one (ps_expr (pe_bm PySem.F.plainAttrs_list PySem.F.slot_list_append PySem.F.type_list_append mt_append (pv 6) (pa_cons (pe_tupN (pa_cons (pe_ix (ix_listA (K := K) rfl) (pv 5) (pv 7) (fun _ _ => rfl)) (pa_cons (pe_call (ok_l_stay T) (hr.mono (by decide)) rfl T.g_l_stay T.F_l_stay.kp T.b_l_stay .nil pass0 (pa_cons (pv 8) (pa_cons (pv 3) (pa_cons (pv 4) pa_nil)))) pa_nil))) pa_nil))))))
      (pss_cons (lc_vsS (vs := [10]) (ps_setLc (i := 9) (own := [("_law_cell", 10)]) (g := gName 10) (tt := tYes) rfl sc_l_machine.nd rfl rfl (sw_true rfl rfl rfl (by decide +kernel)) (pi_listA (K := K) rfl (pe_slice (sl_listA (K := K) rfl) (pv 0) (po_some pe_int) (po_some pe_int))) (blkOk_by (own := [("_law_cell", 10)]) (N := ["_law_script", "_law_first", "_law_second", "_law_unit", "_law_watches", "_law_names_here", "_law_rooms", "_law_k", "_law_xs", "_law_doors", "_law_cell"]) (sc := defScope s_l_machine) (by decide +kernel)) (fun _ _ _ _ _ => (pg_name (i := 10) sc_l_machine.nd rfl (.inl rfl))) (fun _ _ _ _ _ => pts_nil) (fun _ _ _ _ _ => (pe_call (ok_l_door T) (hr.mono (by decide)) rfl T.g_l_door T.F_l_door.kp T.b_l_door .nil pass0 (pa_cons (pv 10) (pa_cons (pv 3) (pa_cons (pv 4) (pa_cons (pe_callB (call_len_seqA (K := K) rfl) (by rfl) T.m_len (by decide +kernel) (pa_cons (pv 5) pa_nil)) pa_nil))))))) rfl)
      (pss_one (ps_ret (pe_tupN (pa_cons (pv 4) (pa_cons (pv 6) (pa_cons (pv 9) pa_nil)))))))))))))), ?_⟩
    refine seq_step ?_
    walk_at "rd"
    refine ⟨ps, cs, 0, rfl, hc, by decide, ?_⟩
    generalize cs.getD (0 : Int).toNat 0 = first
    walk_at "rd"
    refine seq_step ?_
    walk_at "rd"
    refine ⟨ps, cs, 1, rfl, hc, by decide, ?_⟩
    generalize cs.getD (1 : Int).toNat 0 = second
    walk_at "rd"
    refine seq_step ?_
    walk_at "rd"
    intro ul H1 s1 f1 e1
    have m4 := fm_pos (c := first) (m := 4) (by decide)
    obtain ⟨z, hz, z1, zs⟩ : ∃ z : Int, [V.int 1, V.int 3, V.int (10 ^ 15), V.int (10 ^ 40)][(first.fmod 4).toNat]? = some (.int z) ∧ 1 ≤ z ∧ z ≤ 10 ^ 40 := by
      generalize first.fmod 4 = r4 at *
      obtain rfl | rfl | rfl | rfl : r4 = 0 ∨ r4 = 1 ∨ r4 = 2 ∨ r4 = 3 := by omega
      · exact ⟨_, rfl, by decide, by decide⟩
      · exact ⟨_, rfl, by decide, by decide⟩
      · exact ⟨_, rfl, by decide, by decide⟩
      · exact ⟨_, rfl, by decide, by decide⟩
    refine ix_l (.of e1) m4.1 hz ?_
    walk_at "rd"
    refine ⟨by omega, ?_⟩
    have mz := fm_pos (c := first.fdiv 4) (m := z) (by omega)
    generalize hun : 1 + (first.fdiv 4).fmod z = unit
    have u0 : 0 ≤ unit := by omega
    have su : Sz 180 unit := Sz.nn (j := 10 ^ 40) u0 (by omega) (by show (10 ^ 40 : Int).natAbs < 2 ^ 180; decide +kernel)
    refine seq_step ?_
    walk_at "rd"
    intro wl H2 s2 f2 e2
    have m6 := fm_pos (c := second) (m := 6) (by decide)
    obtain ⟨wn, hwn, wn2⟩ : ∃ n : Nat, [V.int 0, V.int 1, V.int 1, V.int 2, V.int 2, V.int 2][(second.fmod 6).toNat]? = some (.int (n : Int)) ∧ n ≤ 2 := by
      generalize second.fmod 6 = r6 at *
      obtain rfl | rfl | rfl | rfl | rfl | rfl : r6 = 0 ∨ r6 = 1 ∨ r6 = 2 ∨ r6 = 3 ∨ r6 = 4 ∨ r6 = 5 := by omega
      · exact ⟨0, rfl, by decide⟩
      · exact ⟨1, rfl, by decide⟩
      · exact ⟨1, rfl, by decide⟩
      · exact ⟨2, rfl, by decide⟩
      · exact ⟨2, rfl, by decide⟩
      · exact ⟨2, rfl, by decide⟩
    refine ix_l (.of e2) m6.1 hwn ?_
    walk_at "rd"
    refine ⟨_, wn, rfl, by omega, fun pw H3 ws s3 f3 e3 wok => ?_⟩
    have s13 := (s1.trans s2).trans s3
    walk_at "rd"
    refine seq_step ?_
    walk_at "rd"
    have m24 := fm_pos (c := second.fdiv 6) (m := 4) (by decide)
    obtain ⟨rn, hrn⟩ : ∃ n : Nat, 1 + (second.fdiv 6).fmod 4 = (n : Int) := ⟨(1 + (second.fdiv 6).fmod 4).toNat, by omega⟩
    rw [hrn]
    refine ⟨_, rn, rfl, by omega, fun pn H4 ns s4 f4 e4 nok => ?_⟩
    have s14 := s13.trans s4
    walk_at "rd"
    refine seq_step ?_
    walk_at "rd"
    intro rl H5 s5 f5 e5
    have s15 := s14.trans s5
    have w2 : ws.length ≤ 2 := by rw [wok.1]; exact wn2
    have wok : NamesOk ws ws.length := ⟨rfl, wok.2⟩
    have nl : ns.length = rn := nok.1
    refine seq_step ?_
    refine for_rg ?_
    walk_at "rd"
    refine ⟨_, .inl (.of (s5 _ _ e4)), ?_⟩
    rw [List.length_map, Int.toNat_natCast]
    refine ⟨(rg_ok (by omega)).1, (rg_ok (by omega)).2, ?_⟩
    refine forR_by (fun i σ' H' => (∃ v7 v8, σ' = [some (.ref ps), some (.int first), some (.int second), some (.int unit), some (.ref pw), some (.ref pn), some (.ref rl), v7, v8, none, none]) ∧ Same H4 H' ∧ ∃ rs : List Rq, SeqD RqAt (newH H H') rl rs ∧ rs.map (·.1) = ns.take i ∧ ∀ r ∈ rs, guardOk ["<", "<="] ws r.2 = true ∧ r.2.length ≤ 2 ∧ NumsOk r.2) ⟨⟨_, _, rfl⟩, s5, [], SeqD.nil (new_at (s14.free f5) e5), rfl, fun r h => by cases h⟩ ?_ ?_
    · rintro i σ' H' hi ⟨⟨v7, v8, rfl⟩, s', rs, sd, hnm, hok⟩
      have s0' := s14.trans s'
      walk_at "rd"
      refine seq_step ?_
      walk_at "rd"
      refine ⟨ps, cs, 2 + (i : Int), rfl, s0'.seq hc, by omega, ?_⟩
      generalize cs.getD (2 + (i : Int)).toNat 0 = cell
      walk_at "rd"
      refine ⟨_, 5, rfl, by decide, fun px H6 xs s6 f6 e6 xl xok => ?_⟩
      walk_at "rd"
      obtain ⟨gqs, gq1, _⟩ := id sd
      have s06 := s0'.trans s6
      refine ⟨_, rfl, .inl ⟨rfl, _, .of (s6 _ _ (new_of gq1).2)⟩, ?_⟩
      walk_at "rd"
      have hni := List.getElem?_eq_getElem (l := ns) (i := i) hi
      generalize hnm2 : ns[i] = nm at *
      refine ix_l (.of ((s'.trans s6) _ _ e4)) (by omega) (by rw [Int.toNat_natCast, List.getElem?_map, hni]; rfl) ?_
      walk_at "rd"
      refine ⟨px, pw, xs, unit, ws, 180, rfl, by decide, e6, by omega, by omega, ((s4.trans s').trans s6) _ _ e3, wok, by omega, u0, su, fun g H7 ls s7 f7 e7 l2 gk nk => ?_⟩
      walk_at "rd"
      intro t H8 s8 f8 e8
      have s68 := s7.trans s8
      have sd8 := sd.keep RqAt.keep' (new_later (H := H) (s6.trans s68))
      have tr : t ≠ rl := fun y => by rw [y, (s6.trans s7) _ _ (new_of gq1).2] at f8; cases f8
      have lg : LsAt (newH H H8) g ls := e7.keep (new_mono s06 s8)
      have gr : g ≠ rl := fun y => by rw [y, s6 _ _ (new_of gq1).2] at f7; cases f7
      obtain ⟨dqs, dq1, _⟩ := id sd8
      obtain ⟨items, it1, it2, it3⟩ := sd8.app RqAt.keep' (q := t) (x := (nm, ls)) ⟨g, del_at tr (new_at ((s06.trans s7).free f8) e8), lg.del gr dq1⟩
      have ll : rs.length = i := by
        have := congrArg List.length hnm
        rw [List.length_map, List.length_take] at this
        omega
      refine app_at (new_of it1).2 (by omega) ?_
      walk_at "rd"
      have frl : H rl = none := s14.free f5
      rw [← new_upd frl] at it3
      refine ⟨⟨_, rfl⟩, same_updN f5 ((s'.trans s6).trans s68), _, it3, ?_, ?_⟩
      · rw [List.map_append, hnm, List.take_add_one, hni]; rfl
      · intro r hr
        rcases List.mem_append.mp hr with h | h
        · exact hok r h
        · have : r = (nm, ls) := by simpa using h
          subst this
          exact ⟨gk, l2, nk.ok (by decide)⟩
    · rintro σ' H' ⟨⟨v7, v8, rfl⟩, s', rs, sd, hnm, hok⟩
      rw [List.take_length] at hnm
      have s0' := s14.trans s'
      walk_at "rd"
      refine seq_step ?_
      refine lcg_src ?_
      walk_at "rd"
      refine ⟨_, s0'.seq hc, fun cl H6 s6 f6 e6 => ?_⟩
      obtain ⟨ds, hds, dl6⟩ := cut_ints (cs := cs) (a := 6) (b := 12) (by decide)
      have e6' : H6 cl = some (.lst (ds.map V.int)) := by rw [← hds]; exact e6
      refine ⟨⟨_, .of e6'⟩, ?_⟩
      refine lcMP (R := LDoorAt) (P := fun (_ : Int) d => LDoorOk ws ns.length d) LDoorAt.keep' (zs := ds) e6' (by simp) (by simp; omega) (fun i x z H7 Yes hx hz s7 hy => ?_) (fun dq H7 dd s7 f7 e7 dl dp => ?_)
      · rw [List.getElem?_map, hz] at hx
        obtain rfl : x = .int z := by simpa using hx.symm
        have s47 := (s'.trans s6).trans s7
        walk_at "rd"
        refine ⟨_, .inl (.of (s47 _ _ e4)), ?_⟩
        rw [List.length_map]
        refine ⟨z, unit, pw, ws, ns.length, rfl, (s4.trans s47) _ _ e3, wok, by omega, u0, su, by omega, fun q H8 d s8 f8 e8 ok8 => ?_⟩
        exact hy q H8 d s8 ok8 fun D acc fD eD => e8.keep (new_del eD)
      · walk_at "rd"
        intro t H8 s8 f8 e8
        have s48 := ((s'.trans s6).trans s7).trans s8
        have rq : RsAt H' rl rs := (sd.keep RqAt.keep' new_sub |>.seq RqAt.keep')
        have lr : rs.length = ns.length := by rw [← hnm, List.length_map]
        refine q t H8 ⟨ws, rs, dd⟩ (s14.trans s48) ⟨pw, rl, dq, e8, (s4.trans s48) _ _ e3, rq.keep ((s6.trans s7).trans s8), (e7.seq LDoorAt.keep').keep (fun _ _ => LDoorAt.keep s8) s8⟩ ⟨wok, w2, ?_, by show 1 ≤ rs.length; omega, by show rs.length ≤ 4; omega, hok, by show dd.length ≤ 6; omega, fun d hd => ?_⟩
        · show NamesOk (rs.map (·.1)) rs.length
          rw [hnm, lr]
          exact ⟨rfl, nok.2⟩
        · obtain ⟨i, hi, e⟩ := List.mem_iff_getElem.mp hd
          have hi : i < dd.length := hi
          have hy := List.getElem?_eq_getElem hi
          have hz := List.getElem?_eq_getElem (l := ds) (i := i) (by omega)
          have := dp i _ _ hz hy
          rw [e] at this
          show LDoorOk ws rs.length d
          rw [lr]; exact this
abbrev doorKeep {C : Addr} : ∀ (H H' : Hp) (q : Addr) (x : DoorD), Same H H' → DoorAt C H q x → DoorAt C H' q x := fun _ _ _ _ s h => DoorAt.keep s h
def spLMade (CM CD : Addr) : Sp := fun vs H Q _ => ∃ (ps : Addr) (S : Spec), vs = [.ref ps] ∧ SpecAt H ps S ∧ SpecOk S ∧ ∀ (q : Addr) (H' : Hp), Same H H' → MachAt CM CD H' q S.mach → Q (.ref q) H'
theorem ok_l_made (T : Top K mg) : FnOk P w K mg base CX0 8 T.f_l_made T.d_l_made ["_law_spec"] (spLMade T.C_Machine T.C_Door) := by
  refine T.F_l_made.ok sc_l_made (fun vs H Q E h => ?_) (fun cdv A outer s H vs Q E hr h => ?_)
  · obtain ⟨ps, S, rfl, _⟩ := h; rfl
  · obtain ⟨ps, S, rfl, hs, ok, q⟩ := h
    refine ⟨_, (pss_cons (ps_asg (pv 0) (pg_tupA (K := K) (n := 3) rfl (by rfl) (pgs_cons (pg_name (i := 1) sc_l_made.nd rfl (.inl rfl)) (pgs_cons (pg_name (i := 2) sc_l_made.nd rfl (.inl rfl)) (pgs_cons (pg_name (i := 3) sc_l_made.nd rfl (.inl rfl)) pgs_nil)))))
      (pss_cons (ps_set (i := 4) sc_l_made.nd rfl (.inl rfl) (pe_lstN pa_nil))
      (pss_cons (ps_for PassesOwn.never rfl (pi_listA (K := K) rfl (pv 3)) (pg_tupA (K := K) (n := 5) rfl (by rfl) (pgs_cons (pg_name (i := 5) sc_l_made.nd rfl (.inl rfl)) (pgs_cons (pg_name (i := 6) sc_l_made.nd rfl (.inl rfl)) (pgs_cons (pg_name (i := 7) sc_l_made.nd rfl (.inl rfl)) (pgs_cons (pg_name (i := 8) sc_l_made.nd rfl (.inl rfl)) (pgs_cons (pg_name (i := 9) sc_l_made.nd rfl (.inl rfl)) pgs_nil)))))) (pss_one (ps_expr (pe_bm PySem.F.plainAttrs_list PySem.F.slot_list_append PySem.F.type_list_append mt_append (pv 4) (pa_cons (pe_makeN T.mk_Door (ok_Door_init T) (hr.mono (by decide)) rfl T.g_Door T.b_Door_init .nil pass0 (pa_cons (pe_ix (ix_tupA (K := K) rfl) (pe_ix (ix_listA (K := K) rfl) (pv 2) (pv 5) (fun _ _ => rfl)) pe_int (fun _ _ => rfl)) (pa_cons (pe_ix (ix_tupA (K := K) rfl) (pe_ix (ix_listA (K := K) rfl) (pv 2) (pv 6) (fun _ _ => rfl)) pe_int (fun _ _ => rfl)) (pa_cons (pe_callTy (call_listA (K := K) rfl) (by rfl) T.m_list (by decide +kernel) (pa_cons (pv 7) pa_nil)) (pa_cons (pe_callTy (call_listA (K := K) rfl) (by rfl) T.m_list (by decide +kernel) (pa_cons (pv 8) pa_nil)) (pa_cons (pv 9) pa_nil)))))) pa_nil)))))
      (pss_one (ps_ret (pe_makeN T.mk_Machine (ok_Machine_init T) (hr.mono (by decide)) rfl T.g_Machine T.b_Machine_init .nil passL (pa_cons (pe_callTy (call_listA (K := K) rfl) (by rfl) T.m_list (by decide +kernel) (pa_cons (pv 1) pa_nil)) (pa_cons (lc_vs (vs := [10, 11]) (pe_lc (own := [("_law_name", 10), ("_law_stay_here", 11)]) (tt := tYes) rfl sc_l_made.nd (pi_listA (K := K) rfl (pv 2)) (blkOk_by (own := [("_law_name", 10), ("_law_stay_here", 11)]) (N := ["_law_spec", "_law_watches", "_law_rooms", "_law_doors", "_law_built", "_law_begin", "_law_end", "_law_guard_here", "_law_noughts", "_law_sign", "_law_name", "_law_stay_here"]) (sc := defScope s_l_made) (by decide +kernel)) (fun _ _ _ _ _ => (pg_tupA (K := K) (n := 2) rfl (by rfl) (pgs_cons (pg_name (i := 10) sc_l_made.nd rfl (.inl rfl)) (pgs_cons (pg_name (i := 11) sc_l_made.nd rfl (.inl rfl)) pgs_nil)))) (fun _ _ _ _ _ => pts_nil) (fun _ _ _ _ _ => (pe_tupN (pa_cons (pv 10) (pa_cons (pe_callTy (call_listA (K := K) rfl) (by rfl) T.m_list (by decide +kernel) (pa_cons (pv 11) pa_nil)) pa_nil))))) rfl) (pa_cons (pv 4) pa_nil))))))))), ?_⟩
    obtain ⟨pw, pr, pd, es, hw, hr', hd⟩ := id hs
    obtain ⟨rqs, r1, r2, r3⟩ := id hr'
    obtain ⟨dqs, d1, d2, d3⟩ := id hd
    have r4 := ok.r4
    have d6 := ok.d6
    refine seq_step ?_
    walk_at "rd"
    refine gTup_of (sqt es) rfl ?_
    walk_at "rd"
    refine seq_step ?_
    walk_at "rd"
    intro bl H1 s1 f1 e1
    refine seq_step ?_
    refine for_li ?_
    walk_at "rd"
    have bne : ∀ b o, H b = some o → b ≠ bl := fun b o e z => by rw [← z, e] at f1; cases f1
    refine forL_by (xs := dqs.map V.ref) (fun i σ' H' => (∃ v5 v6 v7 v8 v9, σ' = [some (.ref ps), some (.ref pw), some (.ref pr), some (.ref pd), some (.ref bl), v5, v6, v7, v8, v9, none, none]) ∧ Same H H' ∧ SeqD (DoorAt T.C_Door) H' bl ((S.doors.take i).map S.door)) ⟨⟨_, _, _, _, _, rfl⟩, s1, SeqD.nil e1⟩ (fun i σ H' _ ⟨_, k, _⟩ => .of (k _ _ d1)) ?_ ?_
    · rintro i x σ' H2 hi ⟨⟨v5, v6, v7, v8, v9, rfl⟩, s2, sd⟩
      rw [List.getElem?_map] at hi
      obtain ⟨qi, h1, rfl⟩ := Option.map_eq_some_iff.mp hi
      have hil := (List.getElem?_eq_some_iff.mp h1).1
      have hz := List.getElem?_eq_getElem (l := S.doors) (i := i) (by omega)
      have okz := ok.d _ (List.mem_of_getElem? hz)
      obtain ⟨g, n, e, hg, hn⟩ := d3 i qi _ h1 hz
      generalize S.doors[i] = z at *
      obtain ⟨gs, g1, g2, g3⟩ := id hg
      obtain ⟨rb, hb1, hb2⟩ := name_at okz.1
      obtain ⟨re, he1, he2⟩ := name_at okz.2.1
      obtain ⟨bqs, w1, w2, w3⟩ := id sd
      have hqb := List.getElem?_eq_getElem (l := rqs) (i := z.b) (by rw [r2]; exact okz.1)
      have hqe := List.getElem?_eq_getElem (l := rqs) (i := z.e) (by rw [r2]; exact okz.2.1)
      obtain ⟨gb, tb, _⟩ := r3 _ _ _ hqb hb1
      obtain ⟨ge, te', _⟩ := r3 _ _ _ hqe he1
      refine gTup_of (sqt (s2 _ _ e)) rfl ?_
      walk_at "rd"
      refine ⟨_, rfl, .inl ⟨rfl, _, .of w1⟩, ?_⟩
      walk_at "rd"
      simp only [tMakeN]
      walk_at "rd"
      refine ix_l (.of (s2 _ _ r1)) (by omega) (by rw [Int.toNat_natCast, List.getElem?_map, hqb]; rfl) ?_
      walk_at "rd"
      refine ix_t (sqt (s2 _ _ tb)) (by decide) rfl ?_
      walk_at "rd"
      refine ix_l (.of (s2 _ _ r1)) (by omega) (by rw [Int.toNat_natCast, List.getElem?_map, hqe]; rfl) ?_
      walk_at "rd"
      refine ix_t (sqt (s2 _ _ te')) (by decide) rfl ?_
      walk_at "rd"
      refine ⟨_, .inl (.of (s2 _ _ g1)), fun g' H3 s3 f3 e3 => ?_⟩
      walk_at "rd"
      refine ⟨_, .inl (.of ((s2.trans s3) _ _ hn)), fun n' H4 s4 f4 e4 => ?_⟩
      walk_at "rd"
      intro p dx H5 s5 f5 e5
      refine ⟨p, dx, g', n', rb.1, re.1, z.sg, _, _, rfl, e5, s5 _ _ (s4 _ _ e3), s5 _ _ e4, fun g2' n2' H6 k6 fg fn e6 eg en => ?_⟩
      walk_at "rd"
      have s24 := s3.trans s4
      have s46 : Same H4 H6 := fun b o e => k6 b o (s5 _ _ e) (fun z => by rw [z, f5] at e; cases e)
      have s06 : Same H H6 := (s2.trans s24).trans s46
      have bl4 := s24 _ _ w1
      have sdel : Same H (delH bl H6) := fun b o e => del_at (bne b o e) (s06 _ _ e)
      have dz : DoorAt T.C_Door (delH bl H6) p (S.door z) := by
        refine ⟨dx, g2', n2', del_at (fun y => by rw [y, bl4] at f5; cases f5) ?_, ⟨gs, del_at (fun y => by rw [y, s5 _ _ bl4] at fg; cases fg) eg, g2, fun i q x h1 h2 => (g3 i q x h1 h2).keep sdel⟩, del_at (fun y => by rw [y, s5 _ _ bl4] at fn; cases fn) en⟩
        show H6 p = some (.ins T.C_Door dx (doorF (S.name z.b) (S.name z.e) z.sg g2' n2'))
        rw [hb2, he2]; exact e6
      obtain ⟨items, it1, it2, it3⟩ := (sd.keep doorKeep (s24.trans s46)).app doorKeep dz
      refine app_at it1 (by rw [it2, List.length_map, List.length_take]; omega) ?_
      walk_at "rd"
      refine ⟨⟨_, rfl⟩, same_updN f1 s06, ?_⟩
      rw [List.take_add_one, hz, List.map_append]
      exact it3
    · rintro σ' H2 ⟨⟨v5, v6, v7, v8, v9, rfl⟩, s2, sd⟩
      rw [List.length_map, d2, List.take_length] at sd
      walk_at "rd"
      simp only [tMakeN]
      walk_at "rd"
      refine ⟨_, .inl (.of (s2 _ _ hw)), fun w' H3 s3 f3 e3 => ?_⟩
      walk_at "rd"
      refine lcg_src ?_
      walk_at "rd"
      have s03 := s2.trans s3
      refine ⟨⟨_, .of (s03 _ _ r1)⟩, ?_⟩
      refine lcM (R := RqAt) RqAt.keep' (F := id) (zs := S.rooms) (s03 _ _ r1) (by simp [r2]) (by simp; omega) (fun i x z H4 Yes hx hz s4 hy => ?_) (fun rq H4 s4 f4 e4 => ?_)
      · rw [List.getElem?_map] at hx
        obtain ⟨qi, h1, rfl⟩ := Option.map_eq_some_iff.mp hx
        have s04 := s03.trans s4
        obtain ⟨g, e, gs, g1, g2, g3⟩ := r3 i qi z h1 hz
        refine gTup_of (sqt (s04 _ _ e)) rfl ?_
        walk_at "rd"
        refine ⟨_, .inl (.of (s04 _ _ g1)), fun l H5 s5 f5 e5 => ?_⟩
        walk_at "rd"
        intro t H6 s6 f6 e6
        have sc : Same H (cutH H3 H4 H6) := s03.trans (cut_same (s4.trans (s5.trans s6)))
        refine hy t H6 (s5.trans s6) ⟨l, cut_new (s5.free f6) e6, gs, cut_new f5 (s6 _ _ e5), g2, fun i q x h1 h2 => (g3 i q x h1 h2).keep sc⟩
      · have e4' : RsAt H4 rq S.rooms := by simpa using e4
        walk_at "rd"
        intro p dx H5 s5 f5 e5
        have s25 := (s3.trans s4).trans s5
        refine ⟨p, dx, w', rq, bl, S.mach, rfl, e5, (s4.trans s5) _ _ e3, e4'.keep s5, ((sd.seq doorKeep).keep (fun _ _ h => DoorAt.keep s25 h) s25), ok.mach, fun H6 off mach _ => ?_⟩
        walk_at "rd"
        refine q p H6 (fun b o e => off.2 b o ((s2.trans s25) _ _ e) fun y => ?_) mach
        have := (s2.trans (s3.trans s4)) _ _ e
        rw [y, f5] at this; cases this
/-! ### steps on the heap -/
abbrev StepD := (Int × Int) × Option Nat
def StAt (H : Hp) (q : Addr) (x : StepD) : Prop := ∃ pw, H q = some (.tup [.ref pw, frV x.2]) ∧ H pw = some (.tup [.int x.1.1, .int x.1.2])
theorem StAt.keep : ∀ (H H' : Hp) (q : Addr) (x : StepD), Same H H' → StAt H q x → StAt H' q x := fun _ _ _ _ s ⟨pw, a, b⟩ => ⟨pw, s _ _ a, s _ _ b⟩
instance : Kp2 StAt := ⟨StAt.keep⟩
def StepsOk (S : Spec) (B : Nat) (st : List StepD) : Prop := ∀ x ∈ st, S6 B x.1 ∧ 0 ≤ x.1.1 ∧ ∀ t, x.2 = some t → t < S.doors.length
/-- a stand's values are of sixths, from 0 on -/
structure StandOk (S : Spec) (B : Nat) (s : Nat × List Rat) : Prop where
  room : s.1 < S.rooms.length
  len : s.2.length = S.watches.length
  val : ∀ r ∈ s.2, 0 ≤ r ∧ Six B r
theorem StandOk.mono {S : Spec} {a b : Nat} {s : Nat × List Rat} (h : StandOk S a s) (k : a ≤ b) : StandOk S b s := ⟨h.room, h.len, fun r hr => ⟨(h.val r hr).1, (h.val r hr).2.mono k⟩⟩
theorem rq_nn0 {x : Int × Int} (h0 : 0 < x.2) (h : 0 ≤ x.1) : 0 ≤ rq x := (rq_nn h0).mpr h
theorem stepR_some {S : Spec} {s s' : Nat × List Rat} {w : Rat} {k : Option Nat} (ok : SpecOk S) (hs : s.1 < S.rooms.length) (e : stepR S s w k = some s') : s'.1 < S.rooms.length ∧ s'.2.length = s.2.length ∧ ∀ r ∈ s'.2, r = 0 ∨ ∃ x ∈ s.2, r = x + w := by
  unfold stepR at e
  split at e
  · cases k with
    | none =>
      have e : some (s.1, s.2.map (· + w)) = some s' := e
      cases e
      refine ⟨hs, by simp, fun r hr => ?_⟩
      obtain ⟨x, hx, rfl⟩ := List.mem_map.mp hr
      exact .inr ⟨x, hx, rfl⟩
    | some t =>
      obtain ⟨d, hd, e⟩ := Option.bind_eq_some_iff.mp e
      split at e
      · cases e
        refine ⟨(ok.d d (List.mem_of_getElem? hd)).2.1, by show (backV _ _ _).length = _; unfold backV; rw [lstF_len, List.length_map], fun r hr => ?_⟩
        have hr : r ∈ lstF _ _ := hr
        unfold lstF at hr
        obtain ⟨j, hj, rfl⟩ := List.mem_map.mp hr
        have hj := List.mem_range.mp hj
        split
        · exact .inl rfl
        · rw [List.getD_eq_getElem?_getD, List.getElem?_eq_getElem hj]
          have := List.getElem_mem hj
          obtain ⟨x, hx, e2⟩ := List.mem_map.mp this
          exact .inr ⟨x, hx, e2.symm⟩
      · cases e
  · cases e
theorem step_ok {S : Spec} {B : Nat} {s s' : Nat × List Rat} {w : Int × Int} {k : Option Nat} (ok : SpecOk S) (hs : StandOk S B s) (hw : S6 B w) (w0 : 0 ≤ w.1) (e : stepR S s (rq w) k = some s') : StandOk S (B + 4) s' := by
  obtain ⟨a, b, c⟩ := stepR_some ok hs.room e
  refine ⟨a, b.trans hs.len, fun r hr => ?_⟩
  rcases c r hr with rfl | ⟨x, hx, rfl⟩
  · exact ⟨Rat.le_refl, six_zero⟩
  · obtain ⟨x0, x6⟩ := hs.val x hx
    have k := six_sum x6.s6 hw
    rw [rq_num] at k
    refine ⟨?_, k⟩
    have := rq_nn0 hw.1 w0
    grind
theorem start_ok {S : Spec} {s : Nat × List Rat} {B : Nat} (ok : SpecOk S) (e : startR S = some s) : StandOk S B s := by
  unfold startR at e
  split at e
  · cases e
    refine ⟨ok.r1, by simp, fun r hr => ?_⟩
    obtain ⟨x, _, rfl⟩ := List.mem_map.mp hr
    exact ⟨Rat.le_refl, six_zero⟩
  · cases e
/-- a stand on the heap -/
def SdAt (H : Hp) (q : Addr) (s : Nat × List Rat) : Prop := ∃ pv, H q = some (.tup [.int s.1, .ref pv]) ∧ VR H pv s.2
theorem SdAt.keep : ∀ (H H' : Hp) (q : Addr) (s : Nat × List Rat), Same H H' → SdAt H q s → SdAt H' q s := fun _ _ _ _ s ⟨pv, a, b⟩ => ⟨pv, s _ _ a, VR.keep s b⟩
instance : Kp2 SdAt := ⟨SdAt.keep⟩
theorem vr_del {H : Hp} {D p : Addr} {xs : List Rat} {l : List V} (h : VR H p xs) (n : p ≠ D) (e : H D = some (.lst l)) : VR (delH D H) p xs := by
  obtain ⟨qs, a, b, c⟩ := vr_seq.mp h
  refine vr_seq.mpr ⟨qs, del_at n a, b, fun i q r h1 h2 => ?_⟩
  have k : H q = some (.tup [.int r.num, .int (r.den : Int)]) := c i q r h1 h2
  exact del_at (fun y => by rw [y, e] at k; cases k) k
theorem list_eqv {ds : List PyData} : PyData.eqv (.list ds) (.list []) = decide (ds = []) := by
  cases ds with
  | nil => rfl
  | cons x xs => rfl
/-! ### values in papers: plain -/
theorem vOf_later {xs : List Rat} {w : Rat} {i : Nat} (h : i < xs.length + 1) : vOf (xs.map (· + w)) i = laterV (vOf xs) w i := by
  unfold vOf laterV
  cases i with
  | zero => rfl
  | succ i =>
    rw [if_neg (by omega), List.getD_cons_succ]
    show _ = (0 :: xs).getD (i + 1) 0 + w
    rw [List.getD_cons_succ, List.getD_eq_getElem?_getD, List.getD_eq_getElem?_getD, List.getElem?_map, List.getElem?_eq_getElem (by omega)]
    rfl
theorem putsV_at : ∀ {ps : List Nat} {v : Nat → Rat} {i : Nat}, putsV ps v i = if i ∈ ps then 0 else v i
  | [], v, i => by rw [if_neg List.not_mem_nil]; rfl
  | p :: ps, v, i => by
    show putsV ps (putV p v) i = _
    rw [putsV_at]
    unfold putV
    by_cases h1 : i ∈ ps
    · rw [if_pos h1, if_pos (List.mem_cons_of_mem _ h1)]
    · rw [if_neg h1]
      by_cases h2 : i = p
      · rw [if_pos h2, if_pos (by rw [h2]; exact List.mem_cons_self)]
      · rw [if_neg h2, if_neg fun h => by rcases List.mem_cons.mp h with h | h; exact h2 h; exact h1 h]
theorem liesR_congr {n : Nat} {M : Mx} {u v : Nat → Rat} (h : ∀ i, i < n → u i = v i) (k : LiesR n M u) : LiesR n M v := fun i j hi hj => by
  rw [← h i hi, ← h j hj]; exact k i j hi hj
theorem inP_congr {M : MachD} {paper : List (Str × Mx)} {r : Str} {u v : Nat → Rat} (h : ∀ i, i < dimM M → u i = v i) (k : InP M paper r u) : InP M paper r v := by
  obtain ⟨Z, hZ, k⟩ := k
  exact ⟨Z, hZ, liesR_congr h k⟩
theorem meetG_congr {M : MachD} {ls : List Lq} {u v : Nat → Rat} (gk : guardOk WORDS M.watches ls = true) (h : ∀ i, i < dimM M → u i = v i) (k : meetG M ls u) : meetG M ls v := fun l hl => by
  have := k l hl
  rw [h _ (lks_pl gk l hl)] at this
  exact this
theorem room_guard {M : MachD} {r : Rq} (ok : MachOk M) (hr : r ∈ M.rooms) : guardOk WORDS M.watches r.2 = true := by
  have := List.all_eq_true.mp ok.rok r hr
  unfold roomOk at this
  exact guard_words (Bool.and_eq_true_iff.mp this).2
theorem vOf_backM {M : MachD} {d : DoorD} {xs : List Rat} {i : Nat} (nd : M.watches.Nodup) (sub : ∀ x ∈ d.backs, x ∈ M.watches) (xl : xs.length = M.watches.length) (hi : i < M.watches.length + 1) : vOf (backV M.watches d.backs xs) i = putsV (backsN M d) (vOf xs) i := by
  rw [putsV_at]
  cases i with
  | zero =>
    have : (0 : Nat) ∉ backsN M d := fun h => by
      obtain ⟨x, _, e⟩ := List.mem_map.mp h
      omega
    rw [if_neg this]; rfl
  | succ i =>
    have e1 : vOf (backV M.watches d.backs xs) (i + 1) = if M.watches.getD i "" ∈ d.backs then 0 else xs.getD i 0 := by
      unfold vOf
      rw [List.getD_cons_succ, List.getD_eq_getElem?_getD]
      unfold backV
      rw [lstF_get (by omega)]; rfl
    rw [e1]
    have key : M.watches.getD i "" ∈ d.backs ↔ i + 1 ∈ backsN M d := by
      rw [List.getD_eq_getElem?_getD, List.getElem?_eq_getElem (show i < M.watches.length by omega)]
      show M.watches[i] ∈ d.backs ↔ i + 1 ∈ d.backs.map fun x => M.watches.idxOf x + 1
      constructor
      · intro h
        exact List.mem_map.mpr ⟨_, h, by rw [nd.idxOf_getElem i (by omega)]⟩
      · intro h
        obtain ⟨x, hx, e⟩ := List.mem_map.mp h
        have e : M.watches.idxOf x = i := by omega
        have hl := List.idxOf_lt_length_iff.mpr (sub x hx)
        have : M.watches[i] = x := by
          have k := List.getElem_idxOf hl
          simp only [e] at k
          exact k
        rw [this]; exact hx
    by_cases h : M.watches.getD i "" ∈ d.backs
    · rw [if_pos h, if_pos (key.mp h)]
    · rw [if_neg h, if_neg fun k => h (key.mpr k)]; rfl
theorem room_at {S : Spec} {i : Nat} (h : i < S.rooms.length) : ∃ r ∈ S.mach.rooms, r.1 = S.name i ∧ stayAt S i = r.2 := by
  have hr := List.getElem?_eq_getElem h
  refine ⟨S.rooms[i], List.getElem_mem h, ?_, ?_⟩
  · unfold Spec.name; rw [List.getD_eq_getElem?_getD, List.getElem?_map, hr]; rfl
  · unfold stayAt; rw [hr]; rfl
/-! ### roads: plain -/
theorem letsR_nar {x y : Option Int} {q : Rat} : letsR (narO x y) q ↔ letsR x q ∧ letsR y q := by
  constructor
  · intro h
    exact ⟨letsR_mono (narO_le1 x y) h, letsR_mono (narO_le2 x y) h⟩
  · rintro ⟨h1, h2⟩
    rcases narO_cases x y with e | e <;> rw [e]
    · exact h1
    · exact h2
theorem lies_nar {n i j : Nat} {Z : Mx} {b : Option Int} {T : Nat → Rat} (hi : i < n) (hj : j < n) : LiesR n (up2 Z i j (narO (Z i j) b)) T ↔ LiesR n Z T ∧ letsR b (T i - T j) := by
  constructor
  · intro h
    refine ⟨fun a c ha hc => ?_, ?_⟩
    · have k := h a c ha hc
      unfold up2 at k
      split at k
      · rename_i e
        rw [e.1, e.2] at k ⊢
        exact (letsR_nar.mp k).1
      · exact k
    · have k := h i j hi hj
      unfold up2 at k
      rw [if_pos ⟨rfl, rfl⟩] at k
      exact (letsR_nar.mp k).2
  · rintro ⟨h, k⟩ a c ha hc
    unfold up2
    split
    · rename_i e
      rw [e.1, e.2]
      exact letsR_nar.mpr ⟨h i j hi hj, k⟩
    · exact h a c ha hc
/-- a look at the difference of two places -/
def lookZ (s t : Nat) (Z : Mx) (l : Look) : Mx := match l.2.1 with
  | .lt => up2 Z t s (narO (Z t s) (some (2 * l.2.2)))
  | .le => up2 Z t s (narO (Z t s) (some (2 * l.2.2 + 1)))
  | .gt => up2 Z s t (narO (Z s t) (some (2 * (0 - l.2.2))))
  | .ge => up2 Z s t (narO (Z s t) (some (2 * (0 - l.2.2) + 1)))
  | .eq => up2 (up2 Z t s (narO (Z t s) (some (2 * l.2.2 + 1)))) s t (narO (up2 Z t s (narO (Z t s) (some (2 * l.2.2 + 1))) s t) (some (2 * (0 - l.2.2) + 1)))
theorem lets_le2 {k : Int} {q : Rat} : letsR (some (2 * k + 1)) q ↔ q ≤ (k : Rat) := by
  show (q < (((2 * k + 1) / 2 : Int) : Rat) ∨ (q = (((2 * k + 1) / 2 : Int) : Rat) ∧ (2 * k + 1) % 2 = 1)) ↔ _
  rw [show (2 * k + 1) / 2 = k by omega]
  constructor
  · rintro (h | ⟨h, _⟩) <;> grind
  · intro h
    rcases Rat.le_iff_lt_or_eq.mp h with h | h
    · exact .inl h
    · exact .inr ⟨h, by omega⟩
theorem lets_lt2 {k : Int} {q : Rat} : letsR (some (2 * k)) q ↔ q < (k : Rat) := by
  show (q < (((2 * k) / 2 : Int) : Rat) ∨ (q = (((2 * k) / 2 : Int) : Rat) ∧ (2 * k) % 2 = 1)) ↔ _
  rw [show (2 * k) / 2 = k by omega]
  constructor
  · rintro (h | ⟨_, h⟩)
    · exact h
    · omega
  · exact .inl
theorem neg_cast (k : Int) : (((0 - k : Int)) : Rat) = -(k : Rat) := by rw [Rat.intCast_sub]; grind
theorem look_lies {n s t : Nat} {Z : Mx} {l : Look} {T : Nat → Rat} (hs : s < n) (ht : t < n) : LiesR n (lookZ s t Z l) T ↔ LiesR n Z T ∧ meetQ l (T t - T s) := by
  obtain ⟨p, w, k⟩ := l
  have e : (((0 - k : Int)) : Rat) = -(k : Rat) := neg_cast k
  cases w with
  | lt => exact (lies_nar ht hs).trans (and_congr Iff.rfl lets_lt2)
  | le => exact (lies_nar ht hs).trans (and_congr Iff.rfl lets_le2)
  | gt =>
    refine (lies_nar hs ht).trans (and_congr Iff.rfl (lets_lt2.trans ?_))
    show _ < _ ↔ (k : Rat) < _
    rw [e]; constructor <;> intro h <;> grind
  | ge =>
    refine (lies_nar hs ht).trans (and_congr Iff.rfl (lets_le2.trans ?_))
    show _ ≤ _ ↔ (k : Rat) ≤ _
    rw [e]; constructor <;> intro h <;> grind
  | eq =>
    refine (lies_nar hs ht).trans ?_
    rw [lies_nar ht hs, and_assoc]
    refine and_congr Iff.rfl ?_
    rw [lets_le2, lets_le2, e]
    show _ ↔ _ = (k : Rat)
    constructor
    · rintro ⟨h1, h2⟩
      exact Rat.le_antisymm h1 (by grind)
    · intro h
      rw [h]
      exact ⟨Rat.le_refl, by grind⟩
def guardZ (since : Nat → Nat) (now : Nat) (Z : Mx) (ls : List Look) : Mx := ls.foldl (fun Z l => lookZ (since l.1) now Z l) Z
theorem guard_lies {n now : Nat} {since : Nat → Nat} {T : Nat → Rat} (ht : now < n) : ∀ (ls : List Look) (Z : Mx), (∀ l ∈ ls, since l.1 < n) → (LiesR n (guardZ since now Z ls) T ↔ LiesR n Z T ∧ ∀ l ∈ ls, meetQ l (T now - T (since l.1)))
  | [], Z, _ => ⟨fun h => ⟨h, fun l k => by cases k⟩, fun h => h.1⟩
  | l :: ls, Z, hs => by
    show LiesR n (guardZ since now (lookZ (since l.1) now Z l) ls) T ↔ _
    rw [guard_lies ht ls _ fun x hx => hs x (List.mem_cons_of_mem _ hx), look_lies (hs l List.mem_cons_self) ht, and_assoc]
    refine and_congr Iff.rfl ?_
    rw [List.forall_mem_cons]
/-- how far a road's zone has come: the room, since when each watch runs, the zone -/
structure RS where
  room : Str
  since : Nat → Nat
  zone : Mx
def rs0 (M : MachD) : RS := ⟨room0 M, fun _ => 0, evM⟩
def doorAt (M : MachD) (road : List Int) (i : Nat) : Option DoorD := (road[i]?).bind fun k => M.doors[k.toNat]?
def rsA (M : MachD) (i : Nat) (s : RS) : Mx := guardZ s.since (i + 1) (up2 s.zone i (i + 1) (narO (s.zone i (i + 1)) (some 1))) (lks M.watches (stayOf M s.room))
def rsStep (M : MachD) (road : List Int) (i : Nat) (s : RS) : RS := match doorAt M road i with
  | some d => ⟨d.en, fun p => if p + 1 ∈ backsN M d then i + 1 else s.since p, guardZ s.since (i + 1) (rsA M i s) (lks M.watches d.looks)⟩
  | none => ⟨s.room, s.since, rsA M i s⟩
def rsAt (M : MachD) (road : List Int) : Nat → RS
  | 0 => rs0 M
  | i + 1 => rsStep M road i (rsAt M road i)
def roadM (M : MachD) (road : List Int) (G : List Lq) : Mx := guardZ (rsAt M road (road.length + 1)).since (road.length + 1) (rsAt M road (road.length + 1)).zone (lks M.watches G)
/-- where a road leads -/
def goRd (M : MachD) : Str → List Int → Option Str
  | r, [] => some r
  | r, k :: ks => if 0 ≤ k then (match M.doors[k.toNat]? with
    | some d => if d.sg = "" ∧ d.st = r then goRd M d.en ks else none
    | none => none) else none
theorem goRd_app {M : MachD} : ∀ (ks : List Int) (r : Str) (ls : List Int), goRd M r (ks ++ ls) = (goRd M r ks).bind fun r2 => goRd M r2 ls
  | [], _, _ => rfl
  | k :: ks, r, ls => by
    show (if 0 ≤ k then (match M.doors[k.toNat]? with | some d => if d.sg = "" ∧ d.st = r then goRd M d.en (ks ++ ls) else none | none => none) else none) = Option.bind (if 0 ≤ k then (match M.doors[k.toNat]? with | some d => if d.sg = "" ∧ d.st = r then goRd M d.en ks else none | none => none) else none) _
    split
    · cases hd : M.doors[k.toNat]? with
      | none => rfl
      | some d =>
        show (if d.sg = "" ∧ d.st = r then goRd M d.en (ks ++ ls) else none) = Option.bind (if d.sg = "" ∧ d.st = r then goRd M d.en ks else none) _
        split
        · exact goRd_app ks _ ls
        · rfl
    · rfl
/-- what a road is that leads somewhere -/
theorem goRd_at {M : MachD} {ks : List Int} {r e : Str} (h : goRd M r ks = some e) {i : Nat} (hi : i < ks.length) : ∃ r1 d k, goRd M r (ks.take i) = some r1 ∧ ks[i]? = some k ∧ 0 ≤ k ∧ M.doors[k.toNat]? = some d ∧ d.sg = "" ∧ d.st = r1 ∧ goRd M r (ks.take (i + 1)) = some d.en := by
  have hk := List.getElem?_eq_getElem hi
  generalize ks[i] = k at hk
  have e1 : ks = ks.take i ++ (k :: ks.drop (i + 1)) := by
    conv => lhs; rw [← List.take_append_drop i ks]
    rw [List.drop_eq_getElem_cons hi]
    congr 2
    rw [List.getElem?_eq_getElem hi] at hk
    exact Option.some.inj hk
  have h2 := h
  rw [e1, goRd_app] at h2
  obtain ⟨r1, h3, h4⟩ := Option.bind_eq_some_iff.mp h2
  have h4 : (if 0 ≤ k then (match M.doors[k.toNat]? with | some d => if d.sg = "" ∧ d.st = r1 then goRd M d.en (ks.drop (i + 1)) else none | none => none) else none) = some e := h4
  split at h4
  · rename_i k0
    cases hd : M.doors[k.toNat]? with
    | none => rw [hd] at h4; cases h4
    | some d =>
      rw [hd] at h4
      have h4 : (if d.sg = "" ∧ d.st = r1 then goRd M d.en (ks.drop (i + 1)) else none) = some e := h4
      split at h4
      · rename_i c
        refine ⟨r1, d, k, h3, hk, k0, hd, c.1, c.2, ?_⟩
        rw [List.take_add_one, hk, goRd_app, h3]
        show (if 0 ≤ k then (match M.doors[k.toNat]? with | some d => if d.sg = "" ∧ d.st = r1 then goRd M d.en [] else none | none => none) else none) = _
        rw [if_pos k0, hd]
        show (if d.sg = "" ∧ d.st = r1 then some d.en else none) = _
        rw [if_pos c]
      · cases h4
  · cases h4
section
variable {M : MachD} {road : List Int} {e : Str}
theorem doorAt_in (h : goRd M (room0 M) road = some e) {i : Nat} (hi : i < road.length) : ∃ d k, road[i]? = some k ∧ 0 ≤ k ∧ M.doors[k.toNat]? = some d ∧ d ∈ M.doors ∧ doorAt M road i = some d ∧ d.sg = "" := by
  obtain ⟨r1, d, k, _, hk, k0, hd, sg, _, _⟩ := goRd_at h hi
  exact ⟨d, k, hk, k0, hd, List.mem_of_getElem? hd, by unfold doorAt; rw [hk]; exact hd, sg⟩
theorem doorAt_out {i : Nat} (hi : road.length ≤ i) : doorAt M road i = none := by
  unfold doorAt; rw [List.getElem?_eq_none hi]; rfl
theorem rs_room (h : goRd M (room0 M) road = some e) : ∀ {i : Nat}, i ≤ road.length → goRd M (room0 M) (road.take i) = some (rsAt M road i).room
  | 0, _ => rfl
  | i + 1, hi => by
    obtain ⟨r1, d, k, h1, hk, k0, hd, sg, st, h2⟩ := goRd_at h (show i < road.length by omega)
    rw [h2]
    show some d.en = some (rsStep M road i (rsAt M road i)).room
    unfold rsStep doorAt
    rw [hk]
    show some d.en = some (match M.doors[k.toNat]? with | some d => _ | none => _ : RS).room
    rw [hd]
theorem rs_start (h : goRd M (room0 M) road = some e) {i : Nat} {d : DoorD} (hd : doorAt M road i = some d) : d.st = (rsAt M road i).room := by
  have hi : i < road.length := by
    rcases Nat.lt_or_ge i road.length with c | c
    · exact c
    · rw [doorAt_out c] at hd; cases hd
  obtain ⟨r1, d', k, h1, hk, k0, hd', sg, st, h2⟩ := goRd_at h hi
  have : doorAt M road i = some d' := by unfold doorAt; rw [hk]; exact hd'
  rw [hd] at this
  cases this
  have := rs_room h (show i ≤ road.length by omega)
  rw [h1] at this
  rw [st]; exact Option.some.inj this
theorem rs_since : ∀ (i p : Nat), (rsAt M road i).since p ≤ i
  | 0, _ => Nat.le_refl _
  | i + 1, p => by
    show (rsStep M road i (rsAt M road i)).since p ≤ _
    unfold rsStep
    split
    · show (if _ then _ else _) ≤ _
      split
      · exact Nat.le_refl _
      · have := rs_since i p; omega
    · have := rs_since i p
      show (rsAt M road i).since p ≤ _
      omega
theorem rs_last : rsAt M road (road.length + 1) = ⟨(rsAt M road road.length).room, (rsAt M road road.length).since, rsA M road.length (rsAt M road road.length)⟩ := by
  show rsStep M road road.length _ = _
  unfold rsStep
  rw [doorAt_out (Nat.le_refl _)]
/-- the values at a time, by the places of the times at which the watches were set -/
def valsT (since : Nat → Nat) (T : Nat → Rat) (t : Rat) : Nat → Rat := fun p => match p with
  | 0 => 0
  | p + 1 => t - T (since p)
/-- what is asked of times at a place -/
def AskT (M : MachD) (road : List Int) (T : Nat → Rat) (i : Nat) : Prop := T i ≤ T (i + 1) ∧ meetG M (stayOf M (rsAt M road i).room) (valsT (rsAt M road i).since T (T (i + 1))) ∧ ∀ d, doorAt M road i = some d → meetG M d.looks (valsT (rsAt M road i).since T (T (i + 1)))
theorem rsA_lies {n i : Nat} {T : Nat → Rat} (hi : i + 1 < n) (s : RS) (hs : ∀ p, s.since p ≤ i) : LiesR n (rsA M i s) T ↔ LiesR n s.zone T ∧ T i ≤ T (i + 1) ∧ meetG M (stayOf M s.room) (valsT s.since T (T (i + 1))) := by
  unfold rsA
  rw [guard_lies hi _ _ fun l _ => by have := hs l.1; omega, lies_nar (by omega) hi, and_assoc]
  refine and_congr Iff.rfl (and_congr ?_ Iff.rfl)
  have := lets_le2 (k := 0) (q := T i - T (i + 1))
  rw [show (2 * (0 : Int) + 1) = 1 from rfl] at this
  rw [this]
  show _ - _ ≤ (0 : Rat) ↔ _
  constructor <;> intro h <;> grind
theorem rs_lies {n : Nat} {T : Nat → Rat} : ∀ (i : Nat), i < n → (LiesR n (rsAt M road i).zone T ↔ LiesR n evM T ∧ ∀ j, j < i → AskT M road T j)
  | 0, _ => ⟨fun h => ⟨h, fun j hj => by omega⟩, fun h => h.1⟩
  | i + 1, hi => by
    have ih := rs_lies (n := n) (T := T) i (by omega)
    have hA := rsA_lies (M := M) (T := T) hi (rsAt M road i) (rs_since i)
    have key : LiesR n (rsAt M road (i + 1)).zone T ↔ LiesR n (rsAt M road i).zone T ∧ AskT M road T i := by
      show LiesR n (rsStep M road i (rsAt M road i)).zone T ↔ _
      unfold rsStep AskT
      cases hd : doorAt M road i with
      | none =>
        show LiesR n (rsA M i _) T ↔ _
        rw [hA]
        exact ⟨fun ⟨a, b, c⟩ => ⟨a, b, c, fun d h => by cases h⟩, fun ⟨a, b, c, _⟩ => ⟨a, b, c⟩⟩
      | some d =>
        show LiesR n (guardZ _ _ _ _) T ↔ _
        rw [guard_lies hi _ _ fun l _ => by have := rs_since (M := M) (road := road) i l.1; omega, hA]
        constructor
        · rintro ⟨⟨a, b, c⟩, k⟩
          exact ⟨a, b, c, fun d' h => by cases h; exact k⟩
        · rintro ⟨a, b, c, k⟩
          exact ⟨⟨a, b, c⟩, k d rfl⟩
    rw [key, ih, and_assoc]
    refine and_congr Iff.rfl ⟨fun ⟨a, b⟩ j hj => ?_, fun h => ⟨fun j hj => h j (by omega), h i (by omega)⟩⟩
    by_cases c : j = i
    · subst c; exact b
    · exact a j (by omega)
theorem ev_lies {n : Nat} {T : Nat → Rat} (hn : 0 < n) (h0 : T 0 = 0) : LiesR n evM T ↔ ∀ j, j < n → 0 ≤ T j := by
  have one : ∀ {q : Rat}, letsR (some 1) q ↔ q ≤ 0 := fun {q} => by
    have := lets_le2 (k := 0) (q := q)
    rw [show (2 * (0 : Int) + 1) = 1 from rfl] at this
    exact this
  constructor
  · intro h j hj
    have := h 0 j hn hj
    unfold evM at this
    rw [if_pos (.inl rfl)] at this
    have := one.mp this
    grind
  · intro h i j hi hj
    unfold evM
    split
    · rename_i c
      rcases c with c | c
      · subst c
        have := h j hj
        exact one.mpr (by grind)
      · subst c
        exact one.mpr (by grind)
    · trivial
/-- the zone of a road's good times -/
theorem road_lies {T : Nat → Rat} (h0 : T 0 = 0) {G : List Lq} : LiesR (road.length + 2) (roadM M road G) T ↔ (∀ i, i ≤ road.length → AskT M road T i) ∧ meetG M G (valsT (rsAt M road road.length).since T (T (road.length + 1))) := by
  unfold roadM
  rw [guard_lies (by omega) _ _ fun l _ => by have := rs_since (M := M) (road := road) (road.length + 1) l.1; omega, rs_lies _ (by omega), ev_lies (by omega) h0, and_assoc]
  have es : (rsAt M road (road.length + 1)).since = (rsAt M road road.length).since := by rw [rs_last]
  rw [es]
  constructor
  · rintro ⟨_, a, b⟩
    exact ⟨fun i hi => a i (by omega), b⟩
  · rintro ⟨a, b⟩
    refine ⟨fun j hj => ?_, fun j hj => a j (by omega), b⟩
    have : ∀ j, j ≤ road.length + 1 → 0 ≤ T j := by
      intro j
      induction j with
      | zero => intro _; rw [h0]; exact Rat.le_refl
      | succ j ih =>
        intro hj
        have h1 := ih (by omega)
        have h2 := (a j (by omega)).1
        exact Rat.le_trans h1 h2
    exact this j (by omega)
end
def spRoomOf (K : PySem.W.Frag) (CM CD CN : Addr) : Sp := fun vs H Q E => ∃ (pm pr : Addr) (M : MachD) (road : List Int), vs = [.ref pm, .ref pr] ∧ MachAt CM CD H pm M ∧ MachOk M ∧ SqL K H pr (road.map V.int) ∧
  (∀ e, goRd M (room0 M) road = some e → road.length ≤ 200 → ∀ H', Same H H' → Q (.str e) H') ∧ ((goRd M (room0 M) road = none ∨ 200 < road.length) → ∀ H', Same H H' → E (.ref CN) none H')
theorem ok_room_of (T : Top K mg) : FnOk P w K mg base (L2.CX P w) 2 T.f_room_of T.d_room_of ["machine", "road"] (spRoomOf K T.C_Machine T.C_Door T.C_NoRoad) := by
  refine T.F_room_of.okX sc_room_of (fun vs H Q E h => ?_) (fun cdv A outer s H vs Q E hr h => ?_)
  · obtain ⟨pm, pr, M, road, rfl, _⟩ := h; rfl
  · obtain ⟨pm, pr, M, road, rfl, hm, ok, hroad, q1, q2⟩ := h
    refine ⟨_, (pss_cons (ps_set (i := 2) sc_room_of.nd rfl (.inl rfl) (pe_meth0 (pv 0) T.cl_Machine T.m_Machine_doors (ok_Machine_doors T) (hr.mono (by decide)) T.b_Machine_doors .nil pass0))
      (pss_cons (ps_set (i := 3) sc_room_of.nd rfl (.inl rfl) (pe_ix (ix_listA (K := K) rfl) (pe_meth0 (pv 0) T.cl_Machine T.m_Machine_rooms (ok_Machine_rooms T) (hr.mono (by decide)) T.b_Machine_rooms .nil pass0) pe_int (fun _ _ => rfl)))
      (pss_cons (ps_if (pt_cmpR op_gt (pe_callB call_len_seq (by rfl) T.m_len (by decide +kernel) (pa_cons (pv 1) pa_nil)) (pe_glob (v := .int 200) rfl T.g_MOST_DOORS_roads ⟨_, rfl⟩) (nomark _)) (pss_one (ps_raise rfl (takes_of rfl rfl rfl rfl) (pmk_own PySem.F.excBase_ValueError T.x_NoRoad T.g_NoRoad T.k_NoRoad (raises_own T.b_NoRoad T.t_NoRoad) rfl))) pss_nil)
      (pss_cons (ps_for (passes_of rfl) rfl (pi_listA (K := K) rfl (pv 1)) (pg_name (i := 4) sc_room_of.nd rfl (.inl rfl)) (pss_cons (ps_if (PW.pt (pw_or (pt_not (pt_chain op_le op_lt pe_int (pv 4) (pe_callB call_len_seq (by rfl) T.m_len (by decide +kernel) (pa_cons (pv 2) pa_nil)))) (pw_or (pt_cmpR op_ne (pe_fldA (K := K) rfl (pe_ix (ix_listA (K := K) rfl) (pv 2) (pv 4) (fun _ _ => rfl)) rfl) pe_str (nomark _)) (pw_or1 (pt_cmpR op_ne (pe_fldA (K := K) rfl (pe_ix (ix_listA (K := K) rfl) (pv 2) (pv 4) (fun _ _ => rfl)) rfl) (pv 3) (nomark _)))))) (pss_one (ps_raise rfl (takes_of rfl rfl rfl rfl) (pmk_own PySem.F.excBase_ValueError T.x_NoRoad T.g_NoRoad T.k_NoRoad (raises_own T.b_NoRoad T.t_NoRoad) rfl))) pss_nil)
      (pss_one (ps_set (i := 3) sc_room_of.nd rfl (.inl rfl) (pe_fldA (K := K) rfl (pe_ix (ix_listA (K := K) rfl) (pv 2) (pv 4) (fun _ _ => rfl)) rfl)))))
      (pss_one (ps_ret (pv 3))))))), ?_⟩
    obtain ⟨dx, wn, rn, sl, dl, a, _⟩ := id hm
    have rpos : 0 < M.rooms.length := List.length_pos_iff.mpr ok.rne
    refine seq_step ?_
    walk_at "rd"
    refine ⟨_, rfl, pm, dx, _, rfl, a, mach_no (by decide +kernel) (by decide +kernel) (by decide +kernel) (by decide +kernel), ?_⟩
    walk_at "rd"
    refine ⟨pm, M, rfl, hm, fun dq H1 dqs s1 f1 e1 l1 d1 => ?_⟩
    have d1 := d1 H (Same.refl _) hm
    walk_at "rd"
    refine seq_step ?_
    walk_at "rd"
    refine ⟨_, rfl, pm, dx, _, rfl, s1 _ _ a, mach_no (by decide +kernel) (by decide +kernel) (by decide +kernel) (by decide +kernel), ?_⟩
    walk_at "rd"
    refine ⟨pm, M, rfl, hm.keep s1, fun rq H2 s2 f2 e2 => ?_⟩
    obtain ⟨r0, hr0⟩ : ∃ r0, M.rooms[0]? = some r0 := ⟨_, List.getElem?_eq_getElem rpos⟩
    have e0 : r0.1 = room0 M := by
      unfold room0
      rw [List.headD_eq_head?_getD, List.head?_eq_getElem?, hr0]; rfl
    refine ix_l (.of e2) (by decide) (by show ((M.rooms.map (·.1)).map V.str)[0]? = _; rw [List.getElem?_map, List.getElem?_map, hr0]; rfl) ?_
    rw [show (fun x : Rq => x.1) r0 = room0 M from e0]
    have s02 := s1.trans s2
    refine seq_step ?_
    walk_at "rd"
    refine ⟨_, .inl ((s02.seq hroad)), ?_⟩
    rw [List.length_map]
    refine ite_d (fun c => q2 (.inr (by omega)) _ s02) (fun c => ?_)
    have c200 : road.length ≤ 200 := by omega
    refine seq_step ?_
    refine for_li ?_
    walk_at "rd"
    obtain ⟨Iv, hIv⟩ : ∃ Iv : Nat → L2.St → Hp → Prop, ∀ i σ' H', Iv i σ' H' ↔ (∃ v4 r, σ' = [some (.ref pm), some (.ref pr), some (.ref dq), some (.str r), v4] ∧ Same H2 H' ∧ goRd M (room0 M) (road.take i) = some r) := ⟨_, fun _ _ _ => Iff.rfl⟩
    refine forL_by (xs := road.map V.int) Iv ((hIv _ _ _).mpr ⟨_, _, rfl, Same.refl _, rfl⟩) (fun i σ H' _ h => (fun (⟨_, _, _, k, _⟩ : ∃ _ _, _ ∧ Same _ _ ∧ _) => (s02.trans k).seq hroad) ((hIv _ _ _).mp h)) ?_ ?_
    · rintro i x σ' H3 hi hinv
      obtain ⟨v4, r, rfl, s3, hgo⟩ := (hIv _ _ _).mp hinv
      rw [List.getElem?_map] at hi
      obtain ⟨k, hk, rfl⟩ := Option.map_eq_some_iff.mp hi
      have hil := (List.getElem?_eq_some_iff.mp hk).1
      walk_at "rd"
      refine seq_step ?_
      walk_at "rt"
      have s03 := s02.trans s3
      have bad : (¬ ∃ d, 0 ≤ k ∧ M.doors[k.toNat]? = some d ∧ d.sg = "" ∧ d.st = r) → goRd M (room0 M) road = none := fun h => by
        cases e : goRd M (room0 M) road with
        | none => rfl
        | some z =>
          exfalso
          obtain ⟨r1, d, k', h1, hk', k0, hd, sg, st, _⟩ := goRd_at e hil
          rw [hk] at hk'; cases hk'
          rw [hgo] at h1; cases h1
          exact h ⟨d, k0, hd, sg, st⟩
      refine ite_d (fun c0 => ?_) (fun c0 => ?_)
      rotate_left
      · exact q2 (.inl (bad fun ⟨d, h, _⟩ => c0 h)) _ s03
      have edq := (s2.trans s3) _ _ e1
      refine ⟨_, .inl (.of edq), ?_⟩
      rw [List.length_map, l1]
      by_cases c1 : k < (M.doors.length : Int)
      rotate_left
      · refine if_t (by rw [decide_eq_false c1]; rfl) (q2 (.inl (bad fun ⟨d, _, hd, _⟩ => ?_)) _ s03)
        have := (List.getElem?_eq_some_iff.mp hd).1
        omega
      refine if_f (by rw [decide_eq_true c1]; rfl) ?_
      obtain ⟨d, hd⟩ : ∃ d, M.doors[k.toNat]? = some d := ⟨_, List.getElem?_eq_getElem (by omega)⟩
      obtain ⟨qd, hqd⟩ : ∃ qd, dqs[k.toNat]? = some qd := ⟨_, List.getElem?_eq_getElem (by omega)⟩
      obtain ⟨ddx, dg, dn, da, _⟩ := (d1 _ qd d hqd hd).keep s03
      simp only [L2.tFld]
      walk_at "rd"
      have hx : (dqs.map V.ref)[k.toNat]? = some (.ref qd) := by rw [List.getElem?_map, hqd]; rfl
      refine ix_l (.of edq) c0 hx ?_
      refine ⟨qd, rfl, _, ddx, _, da, T.cl_Door, T.n_Door_sign, _, door_sign, rfl, ?_⟩
      by_cases c2 : d.sg = ""
      rotate_left
      · refine if_t (by rw [decide_eq_false fun h => c2 (by injection h)]; rfl) (q2 (.inl (bad fun ⟨d', _, hd', sg, _⟩ => ?_)) _ s03)
        rw [hd] at hd'; cases hd'; exact c2 sg
      refine if_f (by rw [decide_eq_true (by rw [c2])]; rfl) ?_
      refine ix_l (.of edq) c0 hx ?_
      refine ⟨qd, rfl, _, ddx, _, da, T.cl_Door, T.n_Door_start, _, door_start, rfl, ?_⟩
      by_cases c3 : d.st = r
      rotate_left
      · refine if_t (by rw [decide_eq_false fun h => c3 (by injection h)]; rfl) (q2 (.inl (bad fun ⟨d', _, hd', _, st⟩ => ?_)) _ s03)
        rw [hd] at hd'; cases hd'; exact c3 st
      refine if_f (by rw [decide_eq_true (by rw [c3])]; rfl) ?_
      walk_at "rd"
      refine ix_l (.of edq) c0 hx ?_
      refine ⟨qd, rfl, _, ddx, _, da, T.cl_Door, T.n_Door_end, _, door_end, ?_⟩
      refine (hIv _ _ _).mpr ⟨_, d.en, rfl, s3, ?_⟩
      rw [List.take_add_one, hk, goRd_app, hgo]
      show (if 0 ≤ k then (match M.doors[k.toNat]? with | some d => if d.sg = "" ∧ d.st = r then goRd M d.en [] else none | none => none) else none) = _
      rw [if_pos c0, hd]
      show (if d.sg = "" ∧ d.st = r then some d.en else none) = _
      rw [if_pos ⟨c2, c3⟩]
    · rintro σ' H3 hinv
      obtain ⟨v4, r, rfl, s3, hgo⟩ := (hIv _ _ _).mp hinv
      rw [List.length_map, List.take_length] at hgo
      walk_at "rd"
      exact q1 r hgo c200 H3 (s02.trans s3)
theorem kp_upd {Hb H : Hp} {as : List Addr} {i : Nat} {r : Addr} {o : HO} (er : as[i]? = some r) (kp : ∀ b o, b ∉ as → Hb b = some o → H b = some o) : ∀ b x, b ∉ as → Hb b = some x → (upd H r o) b = some x := fun b x hb e => by
  rw [upd_ne (fun z => hb (by rw [z]; exact List.mem_of_getElem? er))]; exact kp b x hb e
theorem ZAt.setK {Hb H : Hp} {p a : Addr} {as : List Addr} {n i j : Nat} {M : Mx} (z : ZAt H p as n M) (kp : ∀ b o, b ∉ as → Hb b = some o → H b = some o) (c : Int) (ha : as[i]? = some a) : ZAt (upd H a (.lst ((zrow n (M i)).set j (oV (narO (M i j) (some c)))))) p as n (up2 M i j (narO (M i j) (some c))) ∧ ∀ b x, b ∉ as → Hb b = some x → (upd H a (.lst ((zrow n (M i)).set j (oV (narO (M i j) (some c)))))) b = some x := ⟨z.set _ ha, kp_upd ha kp⟩
theorem kp_same {Hb H H' : Hp} {as : List Addr} (s : Same H H') (kp : ∀ b o, b ∉ as → Hb b = some o → H b = some o) : ∀ b x, b ∉ as → Hb b = some x → H' b = some x := fun b x hb e => s _ _ (kp b x hb e)
/-- the two halves of a look at the difference of two places -/
def look1 (s t : Nat) (Z : Mx) (l : Look) : Mx := match l.2.1 with
  | .lt => up2 Z t s (narO (Z t s) (some (2 * l.2.2)))
  | .le => up2 Z t s (narO (Z t s) (some (2 * l.2.2 + 1)))
  | .eq => up2 Z t s (narO (Z t s) (some (2 * l.2.2 + 1)))
  | _ => Z
def look2 (s t : Nat) (Z : Mx) (l : Look) : Mx := match l.2.1 with
  | .gt => up2 Z s t (narO (Z s t) (some (2 * (0 - l.2.2))))
  | .ge => up2 Z s t (narO (Z s t) (some (2 * (0 - l.2.2) + 1)))
  | .eq => up2 Z s t (narO (Z s t) (some (2 * (0 - l.2.2) + 1)))
  | _ => Z
theorem look12 (s t : Nat) (Z : Mx) (l : Look) : lookZ s t Z l = look2 s t (look1 s t Z l) l := by
  obtain ⟨p, w, k⟩ := l
  cases w <;> rfl
def spPutLook (K : PySem.W.Frag) : Sp := fun vs H Q _ => ∃ (pz pl : Addr) (az : List Addr) (n s t : Nat) (Z : Mx) (l : Look), vs = [.ref pz, .ref pl, .int s, .int t] ∧ ZAt H pz az n Z ∧ n ≤ 60 ∧ s < n ∧ t < n ∧ H pl = some (.tup [.int ((l.1 + 1 : Nat) : Int), .str l.2.1.s, .int l.2.2]) ∧ Sz 250 l.2.2 ∧
  ∀ H', ZAt H' pz az n (lookZ s t Z l) → (∀ b o, b ∉ az → H b = some o → H' b = some o) → Q .non H'
theorem ok_put_look (T : Top K mg) : FnOk P w K mg base CX0 2 T.f_put_look T.d_put_look ["zone", "look", "since", "now"] (spPutLook K) := by
  refine T.F_put_look.ok sc_put_look (fun vs H Q E h => ?_) (fun cdv A outer s H vs Q E hr h => ?_)
  · obtain ⟨pz, pl, az, n, s, t, Z, l, rfl, _⟩ := h; rfl
  · obtain ⟨pz, pl, az, n, si, t, Z, l, rfl, z, n60, hs, ht, el, sk, q⟩ := h
    refine ⟨_, (pss_cons (ps_asg (pv 1) (pg_tupA (K := K) (n := 3) rfl (by rfl) (pgs_cons (pg_name (i := 4) sc_put_look.nd rfl (.inl rfl)) (pgs_cons (pg_name (i := 5) sc_put_look.nd rfl (.inl rfl)) (pgs_cons (pg_name (i := 6) sc_put_look.nd rfl (.inl rfl)) pgs_nil)))))
      (pss_cons (ps_if (PW.pt (pw_or (pt_cmpR op_eq (pv 5) pe_str (nomark _)) (pw_or (pt_cmpR op_eq (pv 5) pe_str (nomark _)) (pw_or1 (pt_cmpR op_eq (pv 5) pe_str (nomark _)))))) (pss_cons (ps_set (i := 7) sc_put_look.nd rfl (.inl rfl) (pe_call (ok_at_most T) (hr.mono (by decide)) rfl T.g_at_most T.F_at_most.kp T.b_at_most .nil pass0 (pa_cons (pv 6) pa_nil)))
      (pss_cons (ps_if (pt_cmpR op_eq (pv 5) pe_str (nomark _)) (pss_one (ps_set (i := 7) sc_put_look.nd rfl (.inl rfl) (pe_call (ok_below T) (hr.mono (by decide)) rfl T.g_below T.F_below.kp T.b_below .nil pass0 (pa_cons (pv 6) pa_nil)))) pss_nil)
      (pss_one (ps_asg (pe_call (ok_narrower T) (hr.mono (by decide)) rfl T.g_narrower T.F_narrower.kp T.b_narrower .nil pass0 (pa_cons (pe_ix (ix_listA (K := K) rfl) (pe_ix (ix_listA (K := K) rfl) (pv 0) (pv 3) (fun _ _ => rfl)) (pv 2) (fun _ _ => rfl)) (pa_cons (pv 7) pa_nil))) (pg_sub (pe_ix (ix_listA (K := K) rfl) (pv 0) (pv 3) (fun _ _ => rfl)) (pv 2) set_list))))) pss_nil)
      (pss_one (ps_if (PW.pt (pw_or (pt_cmpR op_eq (pv 5) pe_str (nomark _)) (pw_or (pt_cmpR op_eq (pv 5) pe_str (nomark _)) (pw_or1 (pt_cmpR op_eq (pv 5) pe_str (nomark _)))))) (pss_cons (ps_set (i := 7) sc_put_look.nd rfl (.inl rfl) (pe_call (ok_at_most T) (hr.mono (by decide)) rfl T.g_at_most T.F_at_most.kp T.b_at_most .nil pass0 (pa_cons (pe_op op_sub pe_int (pv 6)) pa_nil)))
      (pss_cons (ps_if (pt_cmpR op_eq (pv 5) pe_str (nomark _)) (pss_one (ps_set (i := 7) sc_put_look.nd rfl (.inl rfl) (pe_call (ok_below T) (hr.mono (by decide)) rfl T.g_below T.F_below.kp T.b_below .nil pass0 (pa_cons (pe_op op_sub pe_int (pv 6)) pa_nil)))) pss_nil)
      (pss_one (ps_asg (pe_call (ok_narrower T) (hr.mono (by decide)) rfl T.g_narrower T.F_narrower.kp T.b_narrower .nil pass0 (pa_cons (pe_ix (ix_listA (K := K) rfl) (pe_ix (ix_listA (K := K) rfl) (pv 0) (pv 2) (fun _ _ => rfl)) (pv 3) (fun _ _ => rfl)) (pa_cons (pv 7) pa_nil))) (pg_sub (pe_ix (ix_listA (K := K) rfl) (pv 0) (pv 2) (fun _ _ => rfl)) (pv 3) set_list))))) pss_nil)))), ?_⟩
    refine seq_step ?_
    walk_at "rd"
    refine gTup_of (sqt el) rfl ?_
    walk_at "rd"
    rw [look12] at q
    obtain ⟨lp, w, k⟩ := l
    have sk : Sz 250 k := sk
    refine join_op (fun σ' H' => ∃ v7, σ' = [some (.ref pz), some (.ref pl), some (.int si), some (.int t), some (.int ((lp + 1 : Nat) : Int)), some (.str w.s), some (.int k), v7] ∧ ZAt H' pz az n (look1 si t Z (lp, w, k)) ∧ ∀ b o, b ∉ az → H b = some o → H' b = some o) ?r1 (fun R' way => ?_)
    case r1 =>
      rintro σ' H1 ⟨v7, rfl, z1, kp⟩
      generalize look1 si t Z (lp, w, k) = Z1 at *
      walk_at "rd"
      cases w with
      | lt =>
        refine if_f (by decide +kernel) ?_
        refine if_f (by decide +kernel) ?_
        refine if_f (by decide +kernel) ?_
        exact q H1 z1 kp
      | le =>
        refine if_f (by decide +kernel) ?_
        refine if_f (by decide +kernel) ?_
        refine if_f (by decide +kernel) ?_
        exact q H1 z1 kp
      | gt =>
        refine if_t (by decide +kernel) ?_
        refine seq_step ?_
        walk_at "rd"
        refine ⟨_, rfl, (Sz.le (j := k) (by omega) (sk.mono (by omega))), ?_⟩
        walk_at "rd"
        refine seq_step ?_
        walk_at "rd"
        refine if_t (by decide +kernel) ?_
        walk_at "rd"
        refine ⟨_, rfl, (Sz.le (j := k) (by omega) (sk.mono (by omega))), ?_⟩
        walk_at "rd"
        refine ix_top (i := si) z1 hs fun r er hr1 => ?_
        refine ix_row (j := t) hr1 ht ?_
        walk_at "rd"
        refine ⟨_, some (2 * (0 - k)), rfl, ?_⟩
        refine ix_top (i := si) z1 hs fun r' er' hr' => ?_
        obtain rfl : r = r' := Option.some.inj (er.symm.trans er')
        refine set_at (K := K) (j := t) hr1 ht ?_
        obtain ⟨z2, kp2⟩ := z1.setK (j := t) kp (2 * (0 - k)) er
        exact q _ z2 kp2
      | ge =>
        refine if_f (by decide +kernel) ?_
        refine if_t (by decide +kernel) ?_
        refine seq_step ?_
        walk_at "rd"
        refine ⟨_, rfl, (Sz.le (j := k) (by omega) (sk.mono (by omega))), ?_⟩
        walk_at "rd"
        refine seq_step ?_
        walk_at "rd"
        refine if_f (by decide +kernel) ?_
        refine ix_top (i := si) z1 hs fun r er hr1 => ?_
        refine ix_row (j := t) hr1 ht ?_
        walk_at "rd"
        refine ⟨_, some (2 * (0 - k) + 1), rfl, ?_⟩
        refine ix_top (i := si) z1 hs fun r' er' hr' => ?_
        obtain rfl : r = r' := Option.some.inj (er.symm.trans er')
        refine set_at (K := K) (j := t) hr1 ht ?_
        obtain ⟨z2, kp2⟩ := z1.setK (j := t) kp (2 * (0 - k) + 1) er
        exact q _ z2 kp2
      | eq =>
        refine if_f (by decide +kernel) ?_
        refine if_f (by decide +kernel) ?_
        refine if_t (by decide +kernel) ?_
        refine seq_step ?_
        walk_at "rd"
        refine ⟨_, rfl, (Sz.le (j := k) (by omega) (sk.mono (by omega))), ?_⟩
        walk_at "rd"
        refine seq_step ?_
        walk_at "rd"
        refine if_f (by decide +kernel) ?_
        refine ix_top (i := si) z1 hs fun r er hr1 => ?_
        refine ix_row (j := t) hr1 ht ?_
        walk_at "rd"
        refine ⟨_, some (2 * (0 - k) + 1), rfl, ?_⟩
        refine ix_top (i := si) z1 hs fun r' er' hr' => ?_
        obtain rfl : r = r' := Option.some.inj (er.symm.trans er')
        refine set_at (K := K) (j := t) hr1 ht ?_
        obtain ⟨z2, kp2⟩ := z1.setK (j := t) kp (2 * (0 - k) + 1) er
        exact q _ z2 kp2
    refine seq_step ?_
    walk_at "rd"
    cases w with
    | lt =>
      refine if_t (by decide +kernel) ?_
      refine seq_step ?_
      walk_at "rd"
      refine ⟨_, rfl, (sk.mono (by omega)), ?_⟩
      walk_at "rd"
      refine seq_step ?_
      walk_at "rd"
      refine if_t (by decide +kernel) ?_
      walk_at "rd"
      refine ⟨_, rfl, (sk.mono (by omega)), ?_⟩
      walk_at "rd"
      refine ix_top (i := t) z ht fun r er hr1 => ?_
      refine ix_row (j := si) hr1 hs ?_
      walk_at "rd"
      refine ⟨_, some (2 * k), rfl, ?_⟩
      refine ix_top (i := t) z ht fun r' er' hr' => ?_
      obtain rfl : r = r' := Option.some.inj (er.symm.trans er')
      refine set_at (K := K) (j := si) hr1 hs ?_
      obtain ⟨z2, kp2⟩ := z.setK (j := si) (fun _ _ _ e => e) (2 * k) er
      exact way _ _ ⟨_, rfl, z2, kp2⟩
    | le =>
      refine if_f (by decide +kernel) ?_
      refine if_t (by decide +kernel) ?_
      refine seq_step ?_
      walk_at "rd"
      refine ⟨_, rfl, (sk.mono (by omega)), ?_⟩
      walk_at "rd"
      refine seq_step ?_
      walk_at "rd"
      refine if_f (by decide +kernel) ?_
      refine ix_top (i := t) z ht fun r er hr1 => ?_
      refine ix_row (j := si) hr1 hs ?_
      walk_at "rd"
      refine ⟨_, some (2 * k + 1), rfl, ?_⟩
      refine ix_top (i := t) z ht fun r' er' hr' => ?_
      obtain rfl : r = r' := Option.some.inj (er.symm.trans er')
      refine set_at (K := K) (j := si) hr1 hs ?_
      obtain ⟨z2, kp2⟩ := z.setK (j := si) (fun _ _ _ e => e) (2 * k + 1) er
      exact way _ _ ⟨_, rfl, z2, kp2⟩
    | gt =>
      refine if_f (by decide +kernel) ?_
      refine if_f (by decide +kernel) ?_
      refine if_f (by decide +kernel) ?_
      exact way _ _ ⟨_, rfl, z, fun _ _ _ e => e⟩
    | ge =>
      refine if_f (by decide +kernel) ?_
      refine if_f (by decide +kernel) ?_
      refine if_f (by decide +kernel) ?_
      exact way _ _ ⟨_, rfl, z, fun _ _ _ e => e⟩
    | eq =>
      refine if_f (by decide +kernel) ?_
      refine if_f (by decide +kernel) ?_
      refine if_t (by decide +kernel) ?_
      refine seq_step ?_
      walk_at "rd"
      refine ⟨_, rfl, (sk.mono (by omega)), ?_⟩
      walk_at "rd"
      refine seq_step ?_
      walk_at "rd"
      refine if_f (by decide +kernel) ?_
      refine ix_top (i := t) z ht fun r er hr1 => ?_
      refine ix_row (j := si) hr1 hs ?_
      walk_at "rd"
      refine ⟨_, some (2 * k + 1), rfl, ?_⟩
      refine ix_top (i := t) z ht fun r' er' hr' => ?_
      obtain rfl : r = r' := Option.some.inj (er.symm.trans er')
      refine set_at (K := K) (j := si) hr1 hs ?_
      obtain ⟨z2, kp2⟩ := z.setK (j := si) (fun _ _ _ e => e) (2 * k + 1) er
      exact way _ _ ⟨_, rfl, z2, kp2⟩
/-- since when each watch runs, on the heap -/
def SiAt (H : Hp) (p : Addr) (m : Nat) (since : Nat → Nat) : Prop := H p = some (.lst ((List.range m).map fun i => V.int (since i : Nat)))
theorem si_get {m i : Nat} {since : Nat → Nat} (h : i < m) : ((List.range m).map fun i => V.int (since i : Nat))[i]? = some (V.int (since i : Nat)) := by
  rw [List.getElem?_map, List.getElem?_range h]; rfl
theorem si_set {m k x : Nat} {since : Nat → Nat} : ((List.range m).map fun i => V.int (since i : Nat)).set k (V.int (x : Nat)) = (List.range m).map fun i => V.int ((if i = k then x else since i : Nat) : Nat) := by
  refine List.ext_getElem? fun i => ?_
  by_cases h : i < m
  · rw [List.getElem?_set, List.getElem?_map, List.getElem?_map, List.getElem?_range h]
    by_cases c : k = i
    · subst c
      rw [if_pos rfl, if_pos (by simpa using h)]
      show _ = some (V.int ((if k = k then x else since k : Nat) : Nat))
      rw [if_pos rfl]
    · rw [if_neg c]
      show some (V.int (since i : Nat)) = some (V.int ((if i = k then x else since i : Nat) : Nat))
      rw [if_neg fun e => c e.symm]
  · rw [List.getElem?_eq_none (by simp; omega), List.getElem?_eq_none (by simp; omega)]
theorem guardZ_snoc {since : Nat → Nat} {now : Nat} {Z : Mx} {ls : List Look} {i : Nat} {l : Look} (h : ls[i]? = some l) : guardZ since now Z (ls.take (i + 1)) = lookZ (since l.1) now (guardZ since now Z (ls.take i)) l := by
  unfold guardZ
  rw [take_snocP h, List.foldl_append]; rfl
def spPutGuard (K : PySem.W.Frag) (CM CD : Addr) : Sp := fun vs H Q _ => ∃ (pz pm pg ps : Addr) (az : List Addr) (n t : Nat) (Z : Mx) (M : MachD) (ls : List Lq) (since : Nat → Nat), vs = [.ref pz, .ref pm, .ref pg, .ref ps, .int t] ∧ ZAt H pz az n Z ∧ n ≤ 60 ∧ t < n ∧ MachAt CM CD H pm M ∧ LsAt H pg ls ∧ ls.length ≤ 60 ∧ guardOk WORDS M.watches ls = true ∧ SzL ls ∧ SiAt H ps M.watches.length since ∧ (∀ p, since p < n) ∧ ps ∉ az ∧
  ∀ H', ZAt H' pz az n (guardZ since t Z (lks M.watches ls)) → (∀ b o, b ∉ az → H b = some o → H' b = some o) → Q .non H'
theorem ok_put_guard (T : Top K mg) : FnOk P w K mg base (L2.CX P w) 5 T.f_put_guard T.d_put_guard ["zone", "machine", "guard", "since", "now"] (spPutGuard K T.C_Machine T.C_Door) := by
  refine T.F_put_guard.okX sc_put_guard (fun vs H Q E h => ?_) (fun cdv A outer s H vs Q E hr h => ?_)
  · obtain ⟨pz, pm, pg, ps, az, n, t, Z, M, ls, since, rfl, _⟩ := h; rfl
  · obtain ⟨pz, pm, pg, ps, az, n, t, Z, M, ls, since, rfl, z, n60, ht, hm, hg, l60, gk, sz, hs, sn, nps, q⟩ := h
    refine ⟨_, (pss_one (ps_for (passes_of rfl) rfl (pi_listA (K := K) rfl (pe_call (ok_placed T) (hr.mono (by decide)) rfl T.g_placed T.F_placed.kp T.b_placed .nil (passes_call (takes_of rfl rfl rfl rfl) (fun _ _ _ _ z => z)) (pa_cons (pv 1) (pa_cons (pv 2) pa_nil)))) (pg_name (i := 5) sc_put_guard.nd rfl (.inl rfl)) (pss_one (ps_expr (pe_call (ok_put_look T) (hr.mono (by decide)) rfl T.g_put_look T.F_put_look.kp T.b_put_look .nil pass0 (pa_cons (pv 0) (pa_cons (pv 5) (pa_cons (pe_ix (ix_listA (K := K) rfl) (pv 3) (pe_op op_sub (pe_ix (ix_tupA (K := K) rfl) (pv 5) pe_int (fun _ _ => rfl)) pe_int) (fun _ _ => rfl)) (pa_cons (pv 4) pa_nil))))))))), ?_⟩
    refine for_li ?_
    walk_at "rd"
    refine .inl ⟨pm, pg, M, ls, rfl, hm, hg, l60, .inl ⟨gk, fun D H1 s1 fD hD => ?_⟩⟩
    obtain ⟨qs, la, lb, lc⟩ := lk_of hD gk
    obtain ⟨L, hL⟩ : ∃ L, L = lks M.watches ls := ⟨_, rfl⟩
    have lok := lks_ok gk sz
    rw [← hL] at lb lc lok q
    have z1 := z.keep s1
    have nD : D ∉ az := fun h => by
      obtain ⟨i, hi, e⟩ := List.mem_iff_getElem.mp h
      have := z.row i D (by rw [List.getElem?_eq_getElem hi, e])
      rw [fD] at this; cases this
    have nq : ∀ {q : Addr} {ys : List V}, H1 q = some (.tup ys) → q ∉ az := fun {q ys} e h => by
      obtain ⟨i, hi, e2⟩ := List.mem_iff_getElem.mp h
      have := z1.row i q (by rw [List.getElem?_eq_getElem hi, e2])
      rw [e] at this; cases this
    obtain ⟨Iv, hIv⟩ : ∃ Iv : Nat → L2.St → Hp → Prop, ∀ i σ' H', Iv i σ' H' ↔ (∃ v5, σ' = [some (.ref pz), some (.ref pm), some (.ref pg), some (.ref ps), some (.int t), v5] ∧ ZAt H' pz az n (guardZ since t Z (L.take i)) ∧ ∀ b o, b ∉ az → H1 b = some o → H' b = some o) := ⟨_, fun _ _ _ => Iff.rfl⟩
    refine ⟨_, rfl, forL_by (xs := qs.map V.ref) Iv ((hIv _ _ _).mpr ⟨_, rfl, z1, fun _ _ _ e => e⟩) (fun i σ H' _ h => (fun (⟨_, _, _, k⟩ : ∃ _, _ ∧ ZAt _ _ _ _ _ ∧ _) => .of (k _ _ nD la)) ((hIv _ _ _).mp h)) ?_ ?_⟩
    · rintro i x σ' H2 hi hinv
      obtain ⟨v5, rfl, z2, kp⟩ := (hIv _ _ _).mp hinv
      rw [List.getElem?_map] at hi
      obtain ⟨qa, hqa, rfl⟩ := Option.map_eq_some_iff.mp hi
      obtain ⟨l, hl⟩ : ∃ l, L[i]? = some l := ⟨_, List.getElem?_eq_getElem (by rw [← lb]; exact (List.getElem?_eq_some_iff.mp hqa).1)⟩
      have ea := lc i qa l hqa hl
      have ea2 := kp _ _ (nq ea) ea
      obtain ⟨lw, lsz⟩ := lok l (List.mem_of_getElem? hl)
      walk_at "rd"
      refine ix_t (sqt ea2) (by decide) rfl ?_
      refine ⟨_, rfl, ?_⟩
      rw [show ((l.1 + 1 : Nat) : Int) - 1 = (l.1 : Nat) by omega]
      have es2 := kp _ _ nps (s1 _ _ hs)
      refine ix_l (.of es2) (by omega) (by rw [Int.toNat_natCast]; exact si_get (by omega)) ?_
      refine ⟨pz, qa, az, n, since l.1, t, _, l, rfl, z2, n60, sn _, ht, ea2, lsz, fun H3 z3 k3 => ?_⟩
      refine (hIv _ _ _).mpr ⟨_, rfl, by rw [guardZ_snoc hl]; exact z3, fun b o hb e => k3 b o hb (kp b o hb e)⟩
    · rintro σ' H2 hinv
      obtain ⟨v5, rfl, z2, kp⟩ := (hIv _ _ _).mp hinv
      rw [List.length_map, lb, List.take_length] at z2
      exact q H2 z2 fun b o hb e => kp b o hb (s1 _ _ e)
theorem set_si {K : PySem.W.Frag} {H : Hp} {p : Addr} {m k x : Nat} {since : Nat → Nat} {Q : Hp → Prop} (h : SiAt H p m since) (hk : k < m) (q : Q (upd H p (.lst ((List.range m).map fun i => V.int ((if i = k then x else since i : Nat) : Nat))))) : rSetL (.ref p) (.int k) (.int (x : Nat)) H Q := by
  rw [← si_set] at q
  refine ⟨p, _, k, k, rfl, rfl, h, ?_, q⟩
  rw [List.length_map, List.length_range]
  unfold ixN
  rw [if_pos (by omega), if_pos (by omega), Int.toNat_natCast]
theorem lookZ_sz {s t B : Nat} {Z : Mx} {l : Look} (h : SzM B Z) (hl : Sz 250 l.2.2) (hB : 260 ≤ B) : SzM B (lookZ s t Z l) := by
  obtain ⟨p, w, k⟩ := l
  have hk : Sz 250 k := hl
  have two : Sz 2 2 := by unfold Sz; decide
  have one : Sz 2 1 := by unfold Sz; decide
  have n0 : Sz 250 (0 - k) := Sz.le (by omega) hk
  have a1 : Sz B (2 * k) := (two.mul hk (show 2 + 250 ≤ 252 by decide)).mono (by omega)
  have a2 : Sz B (2 * k + 1) := (Sz.add (two.mul hk (show 2 + 250 ≤ 252 by decide)) one (show 252 + 1 ≤ 253 by decide) (by decide)).mono (by omega)
  have a3 : Sz B (2 * (0 - k)) := (two.mul n0 (show 2 + 250 ≤ 252 by decide)).mono (by omega)
  have a4 : Sz B (2 * (0 - k) + 1) := (Sz.add (two.mul n0 (show 2 + 250 ≤ 252 by decide)) one (show 252 + 1 ≤ 253 by decide) (by decide)).mono (by omega)
  cases w with
  | lt => exact up2_sz1 h a1
  | le => exact up2_sz1 h a2
  | gt => exact up2_sz1 h a3
  | ge => exact up2_sz1 h a4
  | eq => exact up2_sz1 (up2_sz1 h a2) a4
theorem guardZ_sz {since : Nat → Nat} {now B : Nat} (hB : 260 ≤ B) : ∀ (ls : List Look) (Z : Mx), SzM B Z → (∀ l ∈ ls, Sz 250 l.2.2) → SzM B (guardZ since now Z ls)
  | [], _, h, _ => h
  | l :: ls, Z, h, k => guardZ_sz hB ls _ (lookZ_sz h (k l List.mem_cons_self) hB) fun x hx => k x (List.mem_cons_of_mem _ hx)
theorem stay_in {M : MachD} (ok : MachOk M) (msz : MSz M) {nm : Str} (h : nm ∈ M.rooms.map (·.1)) : ∃ r ∈ M.rooms, r.1 = nm ∧ stayOf M nm = r.2 ∧ guardOk WORDS M.watches r.2 = true ∧ SzL r.2 ∧ r.2.length ≤ 60 := by
  obtain ⟨r, hr, rfl⟩ := List.mem_map.mp h
  exact ⟨r, hr, rfl, stayOf_at ok.rnd hr, room_guard ok hr, msz.1 r hr, ok.rsz r hr⟩
theorem rs_in {M : MachD} {road : List Int} {e : Str} (ok : MachOk M) (h : goRd M (room0 M) road = some e) : ∀ i, i ≤ road.length → (rsAt M road i).room ∈ M.rooms.map (·.1)
  | 0, _ => by
    have rpos : 0 < M.rooms.length := List.length_pos_iff.mpr ok.rne
    show room0 M ∈ _
    unfold room0
    rw [List.headD_eq_head?_getD, List.head?_eq_getElem?, List.getElem?_eq_getElem rpos]
    exact List.mem_map_of_mem (List.getElem_mem rpos)
  | i + 1, hi => by
    obtain ⟨d, k, _, _, _, hd, hda, _⟩ := doorAt_in h (show i < road.length by omega)
    show (rsStep M road i (rsAt M road i)).room ∈ _
    unfold rsStep
    rw [hda]
    exact (ok.door hd).2.2.1
theorem rsA_sz {M : MachD} {i B : Nat} {s : RS} (hB : 260 ≤ B) (h : SzM B s.zone) (hl : ∀ l ∈ lks M.watches (stayOf M s.room), Sz 250 l.2.2) : SzM B (rsA M i s) := guardZ_sz hB _ _ (up2_sz1 h ((show Sz 2 1 by unfold Sz; decide).mono (by omega))) hl
theorem rs_sz {M : MachD} {road : List Int} {e : Str} (ok : MachOk M) (msz : MSz M) (h : goRd M (room0 M) road = some e) : ∀ i, i ≤ road.length + 1 → SzM 260 (rsAt M road i).zone
  | 0, _ => ev_szD.mono (by decide)
  | i + 1, hi => by
    have ih := rs_sz ok msz h i (by omega)
    obtain ⟨r, hr, er, es, gk, sz, _⟩ := stay_in ok msz (rs_in ok h i (by omega))
    have hA : SzM 260 (rsA M i (rsAt M road i)) := rsA_sz (by decide) ih (by rw [es]; exact fun l hl => (lks_ok gk sz l hl).2)
    show SzM 260 (rsStep M road i (rsAt M road i)).zone
    unfold rsStep
    split
    · rename_i d hd
      obtain ⟨hdm, _⟩ : d ∈ M.doors ∧ True := by
        unfold doorAt at hd
        obtain ⟨k, _, hk⟩ := Option.bind_eq_some_iff.mp hd
        exact ⟨List.mem_of_getElem? hk, trivial⟩
      exact guardZ_sz (by decide) _ _ hA fun l hl => (lks_ok (ok.door hdm).2.2.2.1 (msz.2 d hdm) l hl).2
    · exact hA
theorem road_sz {M : MachD} {road : List Int} {e : Str} {G : List Lq} (ok : MachOk M) (msz : MSz M) (h : goRd M (room0 M) road = some e) (gk : guardOk WORDS M.watches G = true) (gs : SzL G) : SzM 260 (roadM M road G) :=
  guardZ_sz (by decide) _ _ (rs_sz ok msz h _ (Nat.le_refl _)) fun l hl => (lks_ok gk gs l hl).2
def spRoadZone (K : PySem.W.Frag) (CM CD CG CR : Addr) : Sp := fun vs H Q E => ∃ (pm pr : Addr) (gv : V) (M : MachD) (road : List Int), vs = [.ref pm, .ref pr, gv] ∧ MachAt CM CD H pm M ∧ MachOk M ∧ MSz M ∧ SqL K H pr (road.map V.int) ∧
  (((goRd M (room0 M) road = none ∨ 200 < road.length) ∧ ∀ H', Same H H' → E (.ref CR) none H') ∨
   (road.length ≤ 14 ∧ (∃ e, goRd M (room0 M) road = some e) ∧ NoGuard K H WORDS M.watches gv ∧ ∀ H', Same H H' → E (.ref CG) none H') ∨
   (∃ pg G, gv = .ref pg ∧ road.length ≤ 14 ∧ (∃ e, goRd M (room0 M) road = some e) ∧ LsAt H pg G ∧ G.length ≤ 60 ∧ guardOk WORDS M.watches G = true ∧ SzL G ∧
     (nrwO (road.length + 2) (roadM M road G) = none → ∀ H', Same H H' → Q .non H') ∧
     ∀ X, nrwO (road.length + 2) (roadM M road G) = some X → ∀ p as H', Same H H' → H p = none → (∀ a ∈ as, H a = none) → ZAt H' p as (road.length + 2) X → Q (.ref p) H'))
theorem ok_road_zone (T : Top K mg) : FnOk P w K mg base (L2.CX P w) 6 T.f_road_zone T.d_road_zone ["machine", "road", "guard"] (spRoadZone K T.C_Machine T.C_Door T.C_NoMark T.C_NoRoad) := by
  refine T.F_road_zone.okX sc_road_zone (fun vs H Q E h => ?_) (fun cdv A outer s H vs Q E hr h => ?_)
  · obtain ⟨pm, pr, gv, M, road, rfl, _⟩ := h; rfl
  · obtain ⟨pm, pr, gv, M, road, rfl, hm, ok, msz, hroad, hc⟩ := h
    refine ⟨_, (pss_cons (ps_expr (pe_call (ok_room_of T) (hr.mono (by decide)) rfl T.g_room_of T.F_room_of.kp T.b_room_of .nil (passes_call (takes_of rfl rfl rfl rfl) (fun _ _ _ _ z => z)) (pa_cons (pv 0) (pa_cons (pv 1) pa_nil))))
      (pss_cons (ps_set (i := 3) sc_road_zone.nd rfl (.inl rfl) (pe_meth0 (pv 0) T.cl_Machine T.m_Machine_doors (ok_Machine_doors T) (hr.mono (by decide)) T.b_Machine_doors .nil pass0))
      (pss_cons (ps_set (i := 4) sc_road_zone.nd rfl (.inl rfl) (pe_call (ok_everywhere T) (hr.mono (by decide)) rfl T.g_everywhere T.F_everywhere.kp T.b_everywhere .nil pass0 (pa_cons (pe_op op_add (pe_callB call_len_seq (by rfl) T.m_len (by decide +kernel) (pa_cons (pv 1) pa_nil)) pe_int) pa_nil)))
      (pss_cons (lc_vsS (vs := [5]) (ps_setLc (i := 6) (own := [("watch", 5)]) (g := gName 5) (tt := tYes) rfl sc_road_zone.nd rfl rfl (sw_true rfl rfl rfl (by decide +kernel)) (pi_listA (K := K) rfl (pe_meth0 (pv 0) T.cl_Machine T.m_Machine_watches (ok_Machine_watches T) (hr.mono (by decide)) T.b_Machine_watches .nil pass0)) (blkOk_by (own := [("watch", 5)]) (N := ["machine", "road", "guard", "doors", "zone", "watch", "since", "room", "now", "door"]) (sc := defScope s_road_zone) (by decide +kernel)) (fun _ _ _ _ _ => (pg_name (i := 5) sc_road_zone.nd rfl (.inl rfl))) (fun _ _ _ _ _ => pts_nil) (fun _ _ _ _ _ => pe_int)) rfl)
      (pss_cons (ps_set (i := 7) sc_road_zone.nd rfl (.inl rfl) (pe_ix (ix_listA (K := K) rfl) (pe_meth0 (pv 0) T.cl_Machine T.m_Machine_rooms (ok_Machine_rooms T) (hr.mono (by decide)) T.b_Machine_rooms .nil pass0) pe_int (fun _ _ => rfl)))
      (pss_cons (ps_expr (pe_call (ok_placed T) (hr.mono (by decide)) rfl T.g_placed T.F_placed.kp T.b_placed .nil (passes_call (takes_of rfl rfl rfl rfl) (fun _ _ _ _ z => z)) (pa_cons (pv 0) (pa_cons (pv 2) pa_nil))))
      (pss_cons (ps_for (passes_of rfl) rfl (pi_range2 (by rfl) T.m_range (pa_cons pe_int (pa_cons (pe_op op_add (pe_callB call_len_seq (by rfl) T.m_len (by decide +kernel) (pa_cons (pv 1) pa_nil)) pe_int) pa_nil))) (pg_name (i := 8) sc_road_zone.nd rfl (.inl rfl)) (pss_cons (ps_asg (pe_call (ok_narrower T) (hr.mono (by decide)) rfl T.g_narrower T.F_narrower.kp T.b_narrower .nil pass0 (pa_cons (pe_ix (ix_listA (K := K) rfl) (pe_ix (ix_listA (K := K) rfl) (pv 4) (pe_op op_sub (pv 8) pe_int) (fun _ _ => rfl)) (pv 8) (fun _ _ => rfl)) (pa_cons (pe_call (ok_at_most T) (hr.mono (by decide)) rfl T.g_at_most T.F_at_most.kp T.b_at_most .nil pass0 (pa_cons pe_int pa_nil)) pa_nil))) (pg_sub (pe_ix (ix_listA (K := K) rfl) (pv 4) (pe_op op_sub (pv 8) pe_int) (fun _ _ => rfl)) (pv 8) set_list))
      (pss_cons (ps_expr (pe_call (ok_put_guard T) (hr.mono (by decide)) rfl T.g_put_guard T.F_put_guard.kp T.b_put_guard .nil (passes_call (takes_of rfl rfl rfl rfl) (fun _ _ _ _ z => z)) (pa_cons (pv 4) (pa_cons (pv 0) (pa_cons (pe_meth (pv 0) T.cl_Machine T.m_Machine_stay (ok_Machine_stay T) (hr.mono (by decide)) T.b_Machine_stay .nil pass0 (pa_cons (pv 7) pa_nil)) (pa_cons (pv 6) (pa_cons (pv 8) pa_nil)))))))
      (pss_one (ps_if (pt_cmpR op_le (pv 8) (pe_callB call_len_seq (by rfl) T.m_len (by decide +kernel) (pa_cons (pv 1) pa_nil)) (nomark _)) (pss_cons (ps_set (i := 9) sc_road_zone.nd rfl (.inl rfl) (pe_ix (ix_listA (K := K) rfl) (pv 3) (pe_ix (ix_listA (K := K) rfl) (pv 1) (pe_op op_sub (pv 8) pe_int) (fun _ _ => rfl)) (fun _ _ => rfl)))
      (pss_cons (ps_expr (pe_call (ok_put_guard T) (hr.mono (by decide)) rfl T.g_put_guard T.F_put_guard.kp T.b_put_guard .nil (passes_call (takes_of rfl rfl rfl rfl) (fun _ _ _ _ z => z)) (pa_cons (pv 4) (pa_cons (pv 0) (pa_cons (pe_meth0 (pv 9) T.cl_Door T.m_Door_asks (ok_Door_asks T) (hr.mono (by decide)) T.b_Door_asks .nil pass0) (pa_cons (pv 6) (pa_cons (pv 8) pa_nil)))))))
      (pss_cons (ps_for (passes_of rfl) rfl (pi_listA (K := K) rfl (pe_meth0 (pv 9) T.cl_Door T.m_Door_sets (ok_Door_sets T) (hr.mono (by decide)) T.b_Door_sets .nil pass0)) (pg_name (i := 5) sc_road_zone.nd rfl (.inl rfl)) (pss_one (ps_asg (pv 8) (pg_sub (pv 6) (pe_op op_sub (pe_meth (pv 0) T.cl_Machine T.m_Machine_watch_number (ok_Machine_watch_number T) (hr.mono (by decide)) T.b_Machine_watch_number .nil pass0 (pa_cons (pv 5) pa_nil)) pe_int) set_list))))
      (pss_one (ps_set (i := 7) sc_road_zone.nd rfl (.inl rfl) (pe_fldA (K := K) rfl (pv 9) rfl)))))) pss_nil)))))
      (pss_cons (ps_expr (pe_call (ok_put_guard T) (hr.mono (by decide)) rfl T.g_put_guard T.F_put_guard.kp T.b_put_guard .nil (passes_call (takes_of rfl rfl rfl rfl) (fun _ _ _ _ z => z)) (pa_cons (pv 4) (pa_cons (pv 0) (pa_cons (pv 2) (pa_cons (pv 6) (pa_cons (pe_op op_add (pe_callB call_len_seq (by rfl) T.m_len (by decide +kernel) (pa_cons (pv 1) pa_nil)) pe_int) pa_nil)))))))
      (pss_one (ps_ret (pe_call (ok_narrowest T) (hr.mono (by decide)) rfl T.g_narrowest T.F_narrowest.kp T.b_narrowest .nil pass0 (pa_cons (pv 4) pa_nil)))))))))))), ?_⟩
    obtain ⟨dx, wn, rn, sl, dl, a, _⟩ := id hm
    have w7 := ok.w7
    refine seq_step ?_
    walk_at "rd"
    refine ⟨pm, pr, M, road, rfl, hm, ok, hroad, fun e he h200 H1 s1 => ?_, fun hbad H1 s1 => ?_⟩
    rotate_left
    · rcases hc with ⟨_, q⟩ | ⟨h14, ⟨e, he⟩, _⟩ | ⟨pg, G, _, h14, ⟨e, he⟩, _⟩
      · exact q H1 s1
      · rcases hbad with h | h
        · rw [he] at h; cases h
        · omega
      · rcases hbad with h | h
        · rw [he] at h; cases h
        · omega
    have hc : road.length ≤ 14 ∧ ((NoGuard K H WORDS M.watches gv ∧ ∀ H', Same H H' → E (.ref T.C_NoMark) none H') ∨ (∃ pg G, gv = .ref pg ∧ LsAt H pg G ∧ G.length ≤ 60 ∧ guardOk WORDS M.watches G = true ∧ SzL G ∧
     (nrwO (road.length + 2) (roadM M road G) = none → ∀ H', Same H H' → Q .non H') ∧
     ∀ X, nrwO (road.length + 2) (roadM M road G) = some X → ∀ p as H', Same H H' → H p = none → (∀ a ∈ as, H a = none) → ZAt H' p as (road.length + 2) X → Q (.ref p) H')) := by
      rcases hc with ⟨h, _⟩ | ⟨h14, _, h1, h2⟩ | ⟨pg, G, e1, h14, _, h⟩
      · exfalso
        rcases h with h | h
        · rw [he] at h; cases h
        · omega
      · exact ⟨h14, .inl ⟨h1, h2⟩⟩
      · exact ⟨h14, .inr ⟨pg, G, e1, h⟩⟩
    obtain ⟨h14, hc⟩ := hc
    refine seq_step ?_
    walk_at "rd"
    refine ⟨_, rfl, pm, dx, _, rfl, s1 _ _ a, mach_no (by decide +kernel) (by decide +kernel) (by decide +kernel) (by decide +kernel), ?_⟩
    walk_at "rd"
    refine ⟨pm, M, rfl, hm.keep s1, fun dq H2 dqs s2 f2 e2 l2 d2 => ?_⟩
    have s02 := s1.trans s2
    have d2 := d2 H s1 hm
    walk_at "rd"
    refine seq_step ?_
    walk_at "rd"
    refine ⟨_, .inl (s02.seq hroad), ?_⟩
    rw [List.length_map]
    refine ⟨road.length + 1, by congr 1, by omega, fun pz az H3 s3 z3 fz fza => ?_⟩
    have s03 := s02.trans s3
    refine seq_step ?_
    refine lcg_src ?_
    walk_at "rd"
    refine ⟨_, rfl, pm, dx, _, rfl, s03 _ _ a, mach_no (by decide +kernel) (by decide +kernel) (by decide +kernel) (by decide +kernel), ?_⟩
    walk_at "rd"
    refine ⟨pm, M, rfl, hm.keep s03, fun wq H4 s4 f4 e4 => ?_⟩
    have s04 := s03.trans s4
    refine ⟨_, rfl, ⟨_, .of e4⟩, ?_⟩
    refine lcF (F := fun _ : Str => V.int 0) (zs := M.watches) e4 (by simp) (by simp; omega) (fun i x z H5 Yes hx hz s5 hy => ?_) (fun ps H5 s5 f5 e5 => ?_)
    · walk_at "rd"
      exact hy _ (Same.refl _)
    have s05 := s04.trans s5
    have hs5 : SiAt H5 ps M.watches.length (fun _ => 0) := by
      show _ = _
      rw [e5]
      refine congrArg (fun x => some (HO.lst x)) ?_
      rw [List.map_const', List.map_const', List.length_range]; rfl
    walk_at "rd"
    refine seq_step ?_
    walk_at "rd"
    refine ⟨_, rfl, pm, dx, _, rfl, s05 _ _ a, mach_no (by decide +kernel) (by decide +kernel) (by decide +kernel) (by decide +kernel), ?_⟩
    walk_at "rd"
    refine ⟨pm, M, rfl, hm.keep s05, fun rq H6 s6 f6 e6 => ?_⟩
    have rpos : 0 < M.rooms.length := List.length_pos_iff.mpr ok.rne
    obtain ⟨r0, hr0⟩ : ∃ r0, M.rooms[0]? = some r0 := ⟨_, List.getElem?_eq_getElem rpos⟩
    have e0 : r0.1 = room0 M := by
      unfold room0
      rw [List.headD_eq_head?_getD, List.head?_eq_getElem?, hr0]; rfl
    refine ix_l (.of e6) (by decide) (by show ((M.rooms.map (·.1)).map V.str)[0]? = _; rw [List.getElem?_map, List.getElem?_map, hr0]; rfl) ?_
    rw [show (fun x : Rq => x.1) r0 = room0 M from e0]
    have s06 := s05.trans s6
    refine seq_step ?_
    walk_at "rd"
    rcases hc with ⟨hno, q⟩ | ⟨pg, G, rfl, hg, g60, gk, gsz, q1, q2⟩
    · refine .inr ⟨pm, gv, M, rfl, hm.keep s06, hno.keep s06, fun H7 s7 => ?_⟩
      exact q H7 (s06.trans s7)
    refine .inl ⟨pm, pg, M, G, rfl, hm.keep s06, hg.keep s06, g60, .inl ⟨gk, fun D H7 s7 fD hD => ?_⟩⟩
    walk_at "rd"
    refine seq_step ?_
    refine for_rg2 ?_
    walk_at "rd"
    have s07 := s06.trans s7
    have s37 := s4.trans (s5.trans (s6.trans s7))
    refine ⟨_, .inl (s07.seq hroad), ?_⟩
    rw [List.length_map]
    refine ⟨by omega, by omega, ?_⟩
    rw [show ((road.length : Int) + 2 - 1).toNat = road.length + 1 by omega]
    obtain ⟨n, hn⟩ : ∃ n, n = road.length + 2 := ⟨_, rfl⟩
    have z7 : ZAt H7 pz az n evM := by rw [hn]; exact z3.keep s37
    have faz : ∀ b ∈ az, H b = none := fun b hb => s02.free (fza b hb)
    have fps : H ps = none := s04.free f5
    have nps : ps ∉ az := fun h => by
      obtain ⟨i, hi, e⟩ := List.mem_iff_getElem.mp h
      have := s4 _ _ (z3.row i ps (by rw [List.getElem?_eq_getElem hi, e]))
      rw [f5] at this; cases this
    have hs7 : SiAt H7 ps M.watches.length (fun _ => 0) := (s6.trans s7) _ _ hs5
    have same : ∀ {J : Hp}, (∀ b o, b ∉ az → b ≠ ps → H7 b = some o → J b = some o) → Same H J := fun k b o e => k b o (fun h => by rw [faz b h] at e; cases e) (fun h => by rw [h, fps] at e; cases e) (s07 _ _ e)
    have dq7 := ((s3.trans s37) _ _ e2)
    have ndq1 : dq ∉ az := fun h => by
      have := fza dq h
      rw [e2] at this; cases this
    have ndq2 : dq ≠ ps := fun h => by
      rw [← h, (s3.trans s4) _ _ e2] at f5; cases f5
    obtain ⟨Iv, hIv⟩ : ∃ Iv : Nat → L2.St → Hp → Prop, ∀ i σ' H', Iv i σ' H' ↔ (∃ v5 v8 v9, σ' = [some (.ref pm), some (.ref pr), some (.ref pg), some (.ref dq), some (.ref pz), v5, some (.ref ps), some (.str (rsAt M road i).room), v8, v9] ∧ ZAt H' pz az n (rsAt M road i).zone ∧ SiAt H' ps M.watches.length (rsAt M road i).since ∧ ∀ b o, b ∉ az → b ≠ ps → H7 b = some o → H' b = some o) := ⟨_, fun _ _ _ => Iff.rfl⟩
    refine forR2_by Iv ((hIv _ _ _).mpr ⟨_, _, _, rfl, z7, hs7, fun _ _ _ _ e => e⟩) ?_ ?_
    · rintro i σ' H8 hi hinv
      obtain ⟨v5, v8, v9, rfl, z8, hs8, k8⟩ := (hIv _ _ _).mp hinv
      rw [show (1 : Int) + (i : Int) = ((i + 1 : Nat) : Int) by omega]
      have sle := rs_since (M := M) (road := road) i
      obtain ⟨r, hr, er, est, rgk, rsz, r60⟩ := stay_in ok msz (rs_in ok he i (by omega))
      have hstep : rsAt M road (i + 1) = rsStep M road i (rsAt M road i) := rfl
      have hsz := rs_sz ok msz he i (by omega)
      walk_at "rd"
      refine seq_step ?_
      walk_at "rd"
      rw [show ((i + 1 : Nat) : Int) - 1 = (i : Nat) by omega]
      refine ix_top (i := i) z8 (by omega) fun r0 er0 hr0 => ?_
      refine ix_row (j := i + 1) hr0 (by omega) ?_
      refine ⟨0, rfl, (show Sz 0 0 by unfold Sz; decide).mono (by decide), ?_⟩
      refine ⟨_, some 1, rfl, ?_⟩
      refine ix_top (i := i) z8 (by omega) fun r' er' hr' => ?_
      obtain rfl : r0 = r' := Option.some.inj (er0.symm.trans er')
      refine set_at (K := K) (j := i + 1) hr0 (by omega) ?_
      obtain ⟨z9, k9⟩ := z8.setK (j := i + 1) (fun _ _ _ e => e) 1 er0
      have hs9 := k9 ps _ nps hs8
      have k9 : ∀ b o, b ∉ az → b ≠ ps → H7 b = some o → _ := fun b o h1 h2 e => k9 b o h1 (k8 b o h1 h2 e)
      generalize upd H8 r0 (.lst ((zrow n ((rsAt M road i).zone i)).set (i + 1) (oV (narO ((rsAt M road i).zone i (i + 1)) (some 1))))) = H9 at *
      have s09 := same k9
      rw [← er]
      walk_at "rd"
      refine seq_step ?_
      walk_at "rd"
      refine ⟨_, rfl, pm, dx, _, rfl, s09 _ _ a, mach_no (by decide +kernel) (by decide +kernel) (by decide +kernel) (by decide +kernel), ?_⟩
      walk_at "rd"
      refine ⟨pm, M, r, rfl, hm.keep s09, hr, ok.rnd, fun gq Ha sa fa ea => ?_⟩
      refine ⟨pz, pm, gq, ps, az, n, i + 1, _, M, r.2, (rsAt M road i).since, rfl, z9.keep sa, by omega, by omega, hm.keep (s09.trans sa), ea, r60, rgk, rsz, sa _ _ hs9, fun p => by have := sle p; omega, nps, fun Hb zb kb => ?_⟩
      have hsb := kb ps _ nps (sa _ _ hs9)
      have kb : ∀ b o, b ∉ az → b ≠ ps → H7 b = some o → Hb b = some o := fun b o h1 h2 e => kb b o h1 (sa _ _ (k9 b o h1 h2 e))
      have zb : ZAt Hb pz az n (rsA M i (rsAt M road i)) := by unfold rsA; rw [est]; exact zb
      clear z8 z9 hs8 hs9 k8 k9 hr0 er0 s09 sa ea fa hr' er'
      have s0b := same kb
      walk_at "rd"
      refine ⟨_, .inl (s0b.seq hroad), ?_⟩
      rw [List.length_map]
      by_cases hil : i < road.length
      rotate_left
      · refine if_f (decide_eq_false (by omega)) ?_
        have ei : i = road.length := by omega
        have hl : rsAt M road (i + 1) = ⟨(rsAt M road i).room, (rsAt M road i).since, rsA M i (rsAt M road i)⟩ := by rw [ei]; exact rs_last
        refine (hIv _ _ _).mpr ⟨v5, some (.int ((i + 1 : Nat) : Int)), v9, by rw [hl, er], by rw [hl]; exact zb, by rw [hl]; exact hsb, kb⟩
      refine if_t (decide_eq_true (by omega)) ?_
      obtain ⟨d, k, hk, k0, hd, hdm, hda, sg⟩ := doorAt_in he hil
      refine seq_step ?_
      walk_at "rd"
      rw [show ((i + 1 : Nat) : Int) - 1 = (i : Nat) by omega]
      obtain ⟨qd, hqd⟩ : ∃ qd, dqs[k.toNat]? = some qd := ⟨_, List.getElem?_eq_getElem (by rw [l2]; exact (List.getElem?_eq_some_iff.mp hd).1)⟩
      have dat := d2 _ qd d hqd hd
      refine ix_l (s0b.seq hroad) (by omega) (by rw [Int.toNat_natCast, List.getElem?_map, hk]; rfl) ?_
      refine ix_l (.of (kb _ _ ndq1 ndq2 dq7)) k0 (by rw [List.getElem?_map, hqd]; rfl) ?_
      have dk := ok.door hdm
      have dnob : ∀ {ddx : Addr} {dg dn : Addr} {m : Str}, ¬ m = "start" → ¬ m = "end" → ¬ m = "sign" → ¬ m = "looks" → ¬ m = "backs" → (doorF d.st d.en d.sg dg dn).lookup m = none := fun {_ dg dn m} h1 h2 h3 h4 h5 => door_no h1 h2 h3 h4 h5
      obtain ⟨ddx, dg, dn, da, _⟩ := id dat
      refine seq_step ?_
      walk_at "rd"
      refine ⟨_, rfl, qd, ddx, _, rfl, s0b _ _ da, door_no (by decide +kernel) (by decide +kernel) (by decide +kernel) (by decide +kernel) (by decide +kernel), qd, d, rfl, dat.keep s0b, fun gq2 Hc sc fc ec => ?_⟩
      refine ⟨pz, pm, gq2, ps, az, n, i + 1, _, M, d.looks, (rsAt M road i).since, rfl, zb.keep sc, by omega, by omega, hm.keep (s0b.trans sc), ec, ok.dsz d hdm, dk.2.2.2.1, msz.2 d hdm, sc _ _ hsb, fun p => by have := sle p; omega, nps, fun Hd zd kd => ?_⟩
      have hsd := kd ps _ nps (sc _ _ hsb)
      have kd : ∀ b o, b ∉ az → b ≠ ps → H7 b = some o → Hd b = some o := fun b o h1 h2 e => kd b o h1 (sc _ _ (kb b o h1 h2 e))
      clear zb hsb kb sc ec fc
      have s0d := same kd
      walk_at "rd"
      refine seq_step ?_
      refine for_li ?_
      walk_at "rd"
      refine ⟨_, rfl, qd, ddx, _, rfl, s0d _ _ da, door_no (by decide +kernel) (by decide +kernel) (by decide +kernel) (by decide +kernel) (by decide +kernel), qd, d, rfl, dat.keep s0d, fun bq He se fe ee => ?_⟩
      have nbq : bq ∉ az := fun h => by
        obtain ⟨j, hj, e⟩ := List.mem_iff_getElem.mp h
        have := zd.row j bq (by rw [List.getElem?_eq_getElem hj, e])
        rw [fe] at this; cases this
      have nbq2 : bq ≠ ps := fun h => by rw [h, hsd] at fe; cases fe
      obtain ⟨si, hsi⟩ : ∃ si : Nat → Nat → Nat, si = fun j p => if p + 1 ∈ (backsN M d).take j then i + 1 else (rsAt M road i).since p := ⟨_, rfl⟩
      have hse : SiAt He ps M.watches.length (si 0) := by
        have : si 0 = (rsAt M road i).since := by
          rw [hsi]; funext p
          exact if_neg (by rw [List.take_zero]; exact List.not_mem_nil)
        rw [this]; exact se _ _ hsd
      obtain ⟨Iw, hIw⟩ : ∃ Iv : Nat → L2.St → Hp → Prop, ∀ j σ' H', Iv j σ' H' ↔ (∃ v5, σ' = [some (.ref pm), some (.ref pr), some (.ref pg), some (.ref dq), some (.ref pz), v5, some (.ref ps), some (.str r.1), some (.int ((i + 1 : Nat) : Int)), some (.ref qd)] ∧ SiAt H' ps M.watches.length (si j) ∧ ∀ b o, b ≠ ps → He b = some o → H' b = some o) := ⟨_, fun _ _ _ => Iff.rfl⟩
      refine ⟨bq, rfl, forL_by (xs := d.backs.map V.str) Iw ((hIw _ _ _).mpr ⟨_, rfl, hse, fun _ _ _ e => e⟩) (fun j σ H' _ h => (fun (⟨_, _, _, k⟩ : ∃ _, _ ∧ SiAt _ _ _ _ ∧ _) => .of (k _ _ nbq2 ee)) ((hIw _ _ _).mp h)) ?_ ?_⟩
      · rintro j x σ' Hf hj hinw
        obtain ⟨v5, rfl, hsf, kf⟩ := (hIw _ _ _).mp hinw
        rw [List.getElem?_map] at hj
        obtain ⟨wn, hwn, rfl⟩ := Option.map_eq_some_iff.mp hj
        have wm := dk.2.2.2.2.1 wn (List.mem_of_getElem? hwn)
        have wl := List.idxOf_lt_length_iff.mpr wm
        have s0f : Same H Hf := fun b o e => kf b o (fun h => by rw [h, fps] at e; cases e) (se _ _ (s0d _ _ e))
        walk_at "rd"
        refine ⟨_, rfl, pm, dx, _, rfl, s0f _ _ a, mach_no (by decide +kernel) (by decide +kernel) (by decide +kernel) (by decide +kernel), ?_⟩
        walk_at "rd"
        refine ⟨pm, M, wn, rfl, hm.keep s0f, wm, ?_⟩
        refine ⟨_, rfl, ?_⟩
        rw [show ((M.watches.idxOf wn + 1 : Nat) : Int) - 1 = (M.watches.idxOf wn : Nat) by omega]
        refine set_si (K := K) hsf wl ?_
        refine (hIw _ _ _).mpr ⟨_, rfl, ?_, fun b o h e => by rw [upd_ne h]; exact kf b o h e⟩
        have : si (j + 1) = fun q => if q = M.watches.idxOf wn then i + 1 else si j q := by
          rw [hsi]; funext p
          have ht : (backsN M d).take (j + 1) = (backsN M d).take j ++ [M.watches.idxOf wn + 1] := by
            refine take_snocP ?_
            unfold backsN
            rw [List.getElem?_map, hwn]; rfl
          show (if p + 1 ∈ (backsN M d).take (j + 1) then i + 1 else (rsAt M road i).since p) = if p = M.watches.idxOf wn then i + 1 else (if p + 1 ∈ (backsN M d).take j then i + 1 else (rsAt M road i).since p)
          rw [ht]
          by_cases c : p = M.watches.idxOf wn
          · rw [if_pos c, if_pos (List.mem_append_right _ (by rw [c]; exact List.mem_singleton.mpr rfl))]
          · rw [if_neg c]
            by_cases c2 : p + 1 ∈ (backsN M d).take j
            · rw [if_pos c2, if_pos (List.mem_append_left _ c2)]
            · rw [if_neg c2, if_neg fun h => (List.mem_append.mp h).elim c2 fun h => c (by have := List.mem_singleton.mp h; omega)]
        rw [this]
        exact upd_same
      · rintro σ' Hf hinw
        obtain ⟨v5, rfl, hsf, kf⟩ := (hIw _ _ _).mp hinw
        rw [List.length_map] at hsf
        have s0f : Same H Hf := fun b o e => kf b o (fun h => by rw [h, fps] at e; cases e) (se _ _ (s0d _ _ e))
        walk_at "rd"
        simp only [L2.tFld]
        walk_at "rd"
        refine ⟨_, ddx, _, s0f _ _ da, T.cl_Door, T.n_Door_end, _, door_end, ?_⟩
        have hst : rsAt M road (i + 1) = ⟨d.en, si d.backs.length, guardZ (rsAt M road i).since (i + 1) (rsA M i (rsAt M road i)) (lks M.watches d.looks)⟩ := by
          rw [hstep]
          unfold rsStep
          rw [hda, hsi]
          show RS.mk _ _ _ = RS.mk _ _ _
          congr 1
          funext p
          have : (backsN M d).take d.backs.length = backsN M d := List.take_of_length_le (by unfold backsN; simp)
          show _ = if p + 1 ∈ (backsN M d).take d.backs.length then i + 1 else (rsAt M road i).since p
          rw [this]
        have npz : pz ≠ ps := fun h => by
          have := s4 _ _ z3.top
          rw [h, f5] at this; cases this
        have ze := zd.keep se
        refine (hIv _ _ _).mpr ⟨v5, some (.int ((i + 1 : Nat) : Int)), some (.ref qd), by rw [hst], ?_, by rw [hst]; exact hsf, fun b o h1 h2 e => kf b o h2 (se _ _ (kd b o h1 h2 e))⟩
        rw [hst]
        exact ⟨kf _ _ npz ze.top, ze.len, fun j b h => kf _ _ (fun e => nps (by rw [← e]; exact List.mem_of_getElem? h)) (ze.row j b h), ze.nd⟩
    · rintro σ' H8 hinv
      obtain ⟨v5, v8, v9, rfl, z8, hs8, k8⟩ := (hIv _ _ _).mp hinv
      have s08 := same k8
      walk_at "rd"
      refine seq_step ?_
      walk_at "rd"
      refine ⟨_, .inl (s08.seq hroad), ?_⟩
      rw [List.length_map]
      have sle := rs_since (M := M) (road := road) (road.length + 1)
      refine ⟨pz, pm, pg, ps, az, n, road.length + 1, _, M, G, (rsAt M road (road.length + 1)).since, rfl, z8, by omega, by omega, hm.keep s08, hg.keep s08, g60, gk, gsz, hs8, fun p => by have := sle p; omega, nps, fun H9 z9 k9 => ?_⟩
      have z9 : ZAt H9 pz az n (roadM M road G) := z9
      have k9 := same fun b o h1 h2 e => k9 b o h1 (k8 b o h1 h2 e)
      refine ⟨pz, az, n, _, 260, rfl, z9, by omega, by decide, road_sz ok msz he gk gsz, ?_, fun hno Ha sa => ?_, fun hyes p' as' Ha sa za fp fa => ?_⟩
      · have : 2 * n * n * n ≤ 2 * 16 * 16 * 16 := Nat.mul_le_mul (Nat.mul_le_mul (Nat.mul_le_mul_left 2 (by omega)) (by omega)) (by omega)
        omega
      · rw [hn] at hno
        refine q1 (nrwO_no fun c => ?_) Ha (k9.trans sa)
        obtain ⟨i, d, hi, hd, d1⟩ := hno
        obtain ⟨d', hd', d2⟩ := pos_get hi (c i hi)
        rw [hd] at hd'; cases hd'; omega
      · rw [hn] at hyes za
        refine q2 _ (nrwO_pos fun i hi => ?_) p' as' Ha (k9.trans sa) (k9.free fp) (fun a h => k9.free (fa a h)) za
        obtain ⟨d, hd, d1⟩ := hyes i hi
        unfold Pos; rw [hd]; exact d1
/-! ### stands that lie in each paper that is let by: plain -/
def AllIn (M : MachD) (gs : List Rq) (r : Str) (xs : List Rat) : Prop := ∀ paper, LetsP M gs paper → InP M paper r (vOf xs)
theorem zero_vOf {α : Type} (W : List α) : vOf (W.map fun _ => (0 : Rat)) = zeroV := by
  funext i
  unfold vOf zeroV
  rw [List.getD_eq_getElem?_getD]
  cases i with
  | zero => rfl
  | succ i =>
    rw [List.getElem?_cons_succ, List.getElem?_map]
    cases W[i]? <;> rfl
section
variable {M : MachD} {gs : List Rq}
theorem allin_start (ok : MachOk M) {r : Rq} (hr : r ∈ M.rooms) (e : r.1 = room0 M) (m : meetG M r.2 (vOf (M.watches.map fun _ => (0 : Rat)))) : AllIn M gs r.1 (M.watches.map fun _ => (0 : Rat)) := fun paper L => by
  rw [zero_vOf] at m ⊢
  exact lets_start ok L hr e m
theorem allin_wait (ok : MachOk M) {r : Rq} (hr : r ∈ M.rooms) {xs : List Rat} {t : Rat} (xl : xs.length = M.watches.length) (nn : ∀ x ∈ xs, 0 ≤ x) (ht : 0 ≤ t) (k : AllIn M gs r.1 xs) (m : meetG M r.2 (vOf (xs.map (· + t)))) : AllIn M gs r.1 (xs.map (· + t)) := fun paper L => by
  have hl : ∀ i, i < dimM M → vOf (xs.map (· + t)) i = laterV (vOf xs) t i := fun i hi => vOf_later (by unfold dimM at hi; omega)
  exact inP_congr (fun i hi => (hl i hi).symm) (lets_wait ok L hr (vOf_val nn) ht (k paper L) (meetG_congr (room_guard ok hr) hl m))
theorem allin_door (ok : MachOk M) {r r2 : Rq} (hr : r ∈ M.rooms) (hr2 : r2 ∈ M.rooms) {d : DoorD} (hd : d ∈ M.doors) (e1 : d.st = r.1) (e2 : d.en = r2.1) (e3 : d.sg = "") {xs : List Rat} (xl : xs.length = M.watches.length) (nn : ∀ x ∈ xs, 0 ≤ x) (k : AllIn M gs r.1 xs) (mg : meetG M d.looks (vOf xs)) (ms : meetG M r2.2 (vOf (backV M.watches d.backs xs))) : AllIn M gs r2.1 (backV M.watches d.backs xs) := fun paper L => by
  have hl : ∀ i, i < dimM M → vOf (backV M.watches d.backs xs) i = putsV (backsN M d) (vOf xs) i := fun i hi => vOf_backM ok.wnd (fun x hx => (ok.door hd).2.2.2.2.1 x hx) xl hi
  exact inP_congr (fun i hi => (hl i hi).symm) (lets_door ok L hr hr2 hd e1 e2 e3 (vOf_val nn) (k paper L) mg (meetG_congr (room_guard ok hr2) hl ms))
/-- what a stay asks is met by less, too -/
theorem stay_less (ok : MachOk M) {r : Rq} (hr : r ∈ M.rooms) {u v : Nat → Rat} (h : ∀ i, i < dimM M → u i ≤ v i) (m : meetG M r.2 v) : meetG M r.2 u := fun l hl => by
  have gk : guardOk ["<", "<="] M.watches r.2 = true := by
    have := List.all_eq_true.mp ok.rok r hr
    unfold roomOk at this
    exact (Bool.and_eq_true_iff.mp this).2
  have k := m l hl
  have hi := h _ (lks_pl (room_guard ok hr) l hl)
  obtain ⟨x, hx, rfl⟩ := List.mem_map.mp hl
  have w := (look_parts (List.all_eq_true.mp gk x hx)).2.1
  simp only [List.mem_cons, List.not_mem_nil, or_false] at w
  unfold meetQ at k ⊢
  rcases w with w | w
  · rw [w, show wdOf "<" = .lt by unfold wdOf; rw [if_pos rfl]] at k ⊢
    have k : _ < _ := k
    show _ < _
    grind
  · rw [w, show wdOf "<=" = .le by unfold wdOf; rw [if_neg (by decide +kernel), if_pos rfl]] at k ⊢
    have k : _ ≤ _ := k
    show _ ≤ _
    grind
theorem allin_nohit (ok : MachOk M) {r : Rq} (hr : r ∈ M.rooms) (gok : gs.all (markOk M) = true) {xs : List Rat} (nn : ∀ x ∈ xs, 0 ≤ x) (k : AllIn M gs r.1 xs) {paper : List (Str × Mx)} (L : LetsP M gs paper) : ∀ g ∈ gs, g.1 = r.1 → ¬ meetG M g.2 (vOf xs) :=
  lets_nohit L hr gok (vOf_val nn) (k paper L)
end
/-- a stand that is come to -/
structure StoodOk (M : MachD) (s : Str × List Rat) : Prop where
  room : ∃ r ∈ M.rooms, r.1 = s.1
  len : s.2.length = M.watches.length
  nn : ∀ x ∈ s.2, 0 ≤ x
  sz : SzV 2000 s.2
  all : ∀ gs, AllIn M gs s.1 s.2
theorem half_rq (t : Rat) : rq (t.num, 2 * (t.den : Int)) = t * (1 / 2) := by
  have h : rq (t.num * 1, (t.den : Int) * 2) = rq (t.num, (t.den : Int)) * rq (1, 2) := by
    show ((t.num * 1 : Int) : Rat) / (((t.den : Int) * 2 : Int) : Rat) = _
    rw [Int.mul_one]
    show _ = ((t.num : Rat) / ((t.den : Int) : Rat)) * ((1 : Int) / (2 : Int) : Rat)
    rw [Rat.intCast_mul]
    grind
  rw [rq_num] at h
  rw [Int.mul_one] at h
  rw [Int.mul_comm 2]
  rw [h]
  congr 1
theorem half_le {t : Rat} (h : 0 ≤ t) : 0 ≤ t * (1 / 2) ∧ t * (1 / 2) ≤ t := by constructor <;> grind
theorem vOf_mono {xs ys : List Rat} (hl : xs.length = ys.length) (h : ∀ (i : Nat) (x y : Rat), xs[i]? = some x → ys[i]? = some y → x ≤ y) : ∀ i, vOf xs i ≤ vOf ys i := fun i => by
  unfold vOf
  cases i with
  | zero => exact Rat.le_refl
  | succ i =>
    rw [List.getD_cons_succ, List.getD_cons_succ, List.getD_eq_getElem?_getD, List.getD_eq_getElem?_getD]
    by_cases c : i < xs.length
    · rw [List.getElem?_eq_getElem c, List.getElem?_eq_getElem (by omega)]
      exact h i _ _ (List.getElem?_eq_getElem c) (List.getElem?_eq_getElem (by omega))
    · rw [List.getElem?_eq_none (by omega), List.getElem?_eq_none (by omega)]
      exact Rat.le_refl
theorem map_add_mono {xs : List Rat} {s t : Rat} (h : s ≤ t) : ∀ i, vOf (xs.map (· + s)) i ≤ vOf (xs.map (· + t)) i := vOf_mono (by simp) fun i x y h1 h2 => by
  rw [List.getElem?_map] at h1 h2
  obtain ⟨a, ha, rfl⟩ := Option.map_eq_some_iff.mp h1
  rw [ha] at h2
  obtain rfl : a + t = y := by simpa using h2
  grind
theorem back_nil {W : List Str} {xs : List Rat} : backV W [] xs = xs := by
  unfold backV
  have : lstF xs.length (fun i => if W.getD i "" ∈ ([] : List Str) then (0 : Rat) else xs.getD i 0) = lstF xs.length (fun i => xs.getD i 0) := lstF_congr fun i _ => if_neg List.not_mem_nil
  rw [this, lstF_self]
/-! ### roads and runs: plain -/
def valsL (S : Spec) (since : Nat → Nat) (T : Nat → Rat) (t : Rat) : List Rat := lstF S.watches.length fun p => t - T (since p)
theorem valsL_at {S : Spec} {since : Nat → Nat} {T : Nat → Rat} {t : Rat} {i : Nat} (hi : i < dimM S.mach) : vOf (valsL S since T t) i = valsT since T t i := by
  cases i with
  | zero => rfl
  | succ i =>
    have hi : i < S.watches.length := by
      have : dimM S.mach = S.watches.length + 1 := rfl
      omega
    exact vOf_at (lstF_get hi)
theorem valsL_later {S : Spec} {since : Nat → Nat} {T : Nat → Rat} {t u : Rat} : (valsL S since T t).map (· + (u - t)) = valsL S since T u := by
  unfold valsL lstF
  rw [List.map_map]
  refine List.map_congr_left fun i _ => ?_
  show t - T (since i) + (u - t) = u - T (since i)
  grind
theorem door_map {S : Spec} {k : Nat} {d : DoorD} (h : S.mach.doors[k]? = some d) : ∃ l, S.doors[k]? = some l ∧ d = S.door l := by
  have h : (S.doors.map S.door)[k]? = some d := h
  rw [List.getElem?_map] at h
  obtain ⟨l, hl, e⟩ := Option.map_eq_some_iff.mp h
  exact ⟨l, hl, e.symm⟩
theorem name_inj {S : Spec} (mok : MachOk S.mach) {i j : Nat} (hi : i < S.rooms.length) (hj : j < S.rooms.length) (h : S.name i = S.name j) : i = j := by
  have nd : (S.rooms.map (·.1)).Nodup := mok.rnd
  have key : ∀ k, k < S.rooms.length → (S.rooms.map (·.1))[k]? = some (S.name k) := fun k hk => by
    unfold Spec.name
    rw [List.getD_eq_getElem?_getD, List.getElem?_map, List.getElem?_eq_getElem hk]; rfl
  refine (List.getElem?_inj (by rw [List.length_map]; exact hi) nd).mp ?_
  rw [key i hi, key j hj, h]
/-- the place of the room to which the first doors of a road lead -/
def rI (S : Spec) (road : List Int) : Nat → Nat
  | 0 => 0
  | i + 1 => match (road[i]?).bind fun k => S.doors[k.toNat]? with
    | some l => l.e
    | none => rI S road i
section
variable {S : Spec} {road : List Int} {e : Str}
theorem rI_ok (ok : SpecOk S) (h : goRd S.mach (room0 S.mach) road = some e) : ∀ i, i ≤ road.length → rI S road i < S.rooms.length ∧ S.name (rI S road i) = (rsAt S.mach road i).room
  | 0, _ => by
    refine ⟨ok.r1, ?_⟩
    show S.name 0 = room0 S.mach
    unfold Spec.name room0
    rw [List.headD_eq_head?_getD, List.head?_eq_getElem?, List.getD_eq_getElem?_getD, List.getElem?_map]
    rw [show S.mach.rooms = S.rooms from rfl]
    cases S.rooms[0]? <;> rfl
  | i + 1, hi => by
    obtain ⟨d, k, hk, k0, hd, hdm, hda, sg⟩ := doorAt_in h (show i < road.length by omega)
    obtain ⟨l, hl, rfl⟩ := door_map hd
    have e1 : rI S road (i + 1) = l.e := by
      show (match (road[i]?).bind fun k => S.doors[k.toNat]? with | some l => l.e | none => rI S road i) = _
      rw [hk]
      show (match S.doors[k.toNat]? with | some l => l.e | none => rI S road i) = _
      rw [hl]
    have e2 : (rsAt S.mach road (i + 1)).room = (S.door l).en := by
      show (rsStep S.mach road i (rsAt S.mach road i)).room = _
      unfold rsStep; rw [hda]
    rw [e1, e2]
    exact ⟨(ok.d l (List.mem_of_getElem? hl)).2.1, rfl⟩
theorem stay_rI (ok : SpecOk S) (mok : MachOk S.mach) (h : goRd S.mach (room0 S.mach) road = some e) {i : Nat} (hi : i ≤ road.length) : ∃ r ∈ S.mach.rooms, stayAt S (rI S road i) = r.2 ∧ stayOf S.mach (rsAt S.mach road i).room = r.2 ∧ r.1 = (rsAt S.mach road i).room := by
  obtain ⟨a, b⟩ := rI_ok ok h i hi
  obtain ⟨r, hr, er, est⟩ := room_at a
  refine ⟨r, hr, est, ?_, er.trans b⟩
  rw [← b, ← er]
  exact stayOf_at mok.rnd hr
theorem meet_vals {since : Nat → Nat} {T : Nat → Rat} {t : Rat} {ls : List Lq} (gk : guardOk WORDS S.mach.watches ls = true) : meetG S.mach ls (vOf (valsL S since T t)) ↔ meetG S.mach ls (valsT since T t) :=
  ⟨meetG_congr gk fun _ hi => valsL_at hi, meetG_congr gk fun _ hi => (valsL_at hi).symm⟩
/-- the stand at a place of a road -/
def stT (S : Spec) (road : List Int) (T : Nat → Rat) (i : Nat) : Nat × List Rat := (rI S road i, valsL S (rsAt S.mach road i).since T (T i))
theorem back_vals (ok : SpecOk S) {T : Nat → Rat} {i : Nat} {l : LDoor} {k : Int} (hk : road[i]? = some k) (hl : S.doors[k.toNat]? = some l) : backV S.watches l.ns (valsL S (rsAt S.mach road i).since T (T (i + 1))) = valsL S (rsAt S.mach road (i + 1)).since T (T (i + 1)) := by
  have hda : doorAt S.mach road i = some (S.door l) := by
    unfold doorAt
    rw [hk]
    show (S.doors.map S.door)[k.toNat]? = _
    rw [List.getElem?_map, hl]; rfl
  have hs : (rsAt S.mach road (i + 1)).since = fun p => if p + 1 ∈ backsN S.mach (S.door l) then i + 1 else (rsAt S.mach road i).since p := by
    show (rsStep S.mach road i (rsAt S.mach road i)).since = _
    unfold rsStep; rw [hda]
  rw [hs]
  unfold backV
  have len : (valsL S (rsAt S.mach road i).since T (T (i + 1))).length = S.watches.length := lstF_len
  rw [len]
  unfold valsL
  refine lstF_congr fun p hp => ?_
  have sub := (ok.d l (List.mem_of_getElem? hl)).2.2.2.2.2.2.1
  have key : S.watches.getD p "" ∈ l.ns ↔ p + 1 ∈ backsN S.mach (S.door l) := by
    rw [List.getD_eq_getElem?_getD, List.getElem?_eq_getElem hp]
    show S.watches[p] ∈ l.ns ↔ p + 1 ∈ l.ns.map fun x => S.watches.idxOf x + 1
    constructor
    · intro h
      exact List.mem_map.mpr ⟨_, h, by rw [ok.w.2.2.1.idxOf_getElem p (by omega)]⟩
    · intro h
      obtain ⟨x, hx, e⟩ := List.mem_map.mp h
      have e : S.watches.idxOf x = p := by omega
      have hl := List.idxOf_lt_length_iff.mpr (sub x hx)
      have : S.watches[p] = x := by
        have k := List.getElem_idxOf hl
        simp only [e] at k
        exact k
      rw [this]; exact hx
  by_cases c : S.watches.getD p "" ∈ l.ns
  · rw [if_pos c]
    show 0 = T (i + 1) - T (if p + 1 ∈ backsN S.mach (S.door l) then i + 1 else (rsAt S.mach road i).since p)
    rw [if_pos (key.mp c)]; grind
  · rw [if_neg c]
    show _ = T (i + 1) - T (if p + 1 ∈ backsN S.mach (S.door l) then i + 1 else (rsAt S.mach road i).since p)
    rw [if_neg fun h => c (key.mpr h), List.getD_eq_getElem?_getD, lstF_get hp]; rfl
theorem road_stay_less (ok : SpecOk S) (mok : MachOk S.mach) (h : goRd S.mach (room0 S.mach) road = some e) {T : Nat → Rat} {i : Nat} (hi : i ≤ road.length) (a : AskT S.mach road T i) : meetG S.mach (stayAt S (rI S road i)) (vOf (valsL S (rsAt S.mach road i).since T (T i))) := by
  obtain ⟨r, hr, e1, e2, _⟩ := stay_rI ok mok h hi
  obtain ⟨a1, a2, _⟩ := a
  rw [e2] at a2
  rw [e1, meet_vals (room_guard mok hr)]
  refine stay_less mok hr (fun p hp => ?_) a2
  cases p with
  | zero => exact Rat.le_refl
  | succ p => show T i - _ ≤ T (i + 1) - _; grind
theorem stepR_iff {s s' : Nat × List Rat} {w : Rat} {t : Nat} : stepR S s w (some t) = some s' ↔ meetG S.mach (stayAt S s.1) (vOf (s.2.map (· + w))) ∧ ∃ d, S.doors[t]? = some d ∧ (d.b = s.1 ∧ d.sg = "" ∧ meetG S.mach d.gd (vOf (s.2.map (· + w))) ∧ meetG S.mach (stayAt S d.e) (vOf (backV S.watches d.ns (s.2.map (· + w))))) ∧ s' = (d.e, backV S.watches d.ns (s.2.map (· + w))) := by
  unfold stepR
  constructor
  · intro h
    split at h
    · rename_i c
      obtain ⟨d, hd, h⟩ := Option.bind_eq_some_iff.mp h
      split at h
      · rename_i c2
        exact ⟨c, d, hd, c2, (Option.some.inj h).symm⟩
      · cases h
    · cases h
  · rintro ⟨c, d, hd, c2, rfl⟩
    rw [if_pos c]
    refine Option.bind_eq_some_iff.mpr ⟨d, hd, ?_⟩
    rw [if_pos c2]
theorem stepR_no {s s' : Nat × List Rat} {w : Rat} : stepR S s w none = some s' ↔ meetG S.mach (stayAt S s.1) (vOf (s.2.map (· + w))) ∧ s' = (s.1, s.2.map (· + w)) := by
  unfold stepR
  constructor
  · intro h
    split at h
    · rename_i c
      exact ⟨c, (Option.some.inj h).symm⟩
    · cases h
  · rintro ⟨c, rfl⟩
    rw [if_pos c]
theorem step_door (ok : SpecOk S) (mok : MachOk S.mach) (h : goRd S.mach (room0 S.mach) road = some e) {T : Nat → Rat} {i : Nat} (hi : i < road.length) {d : DoorD} (hda : doorAt S.mach road i = some d) : ∃ k, road[i]? = some k ∧ (stepR S (stT S road T i) (T (i + 1) - T i) (some k.toNat) = some (stT S road T (i + 1)) ∨ stepR S (stT S road T i) (T (i + 1) - T i) (some k.toNat) = none) ∧
    (stepR S (stT S road T i) (T (i + 1) - T i) (some k.toNat) = some (stT S road T (i + 1)) ↔ meetG S.mach (stayOf S.mach (rsAt S.mach road i).room) (valsT (rsAt S.mach road i).since T (T (i + 1))) ∧ meetG S.mach d.looks (valsT (rsAt S.mach road i).since T (T (i + 1))) ∧ meetG S.mach (stayAt S (rI S road (i + 1))) (vOf (valsL S (rsAt S.mach road (i + 1)).since T (T (i + 1))))) := by
  obtain ⟨d', k, hk, k0, hd, hdm, hda', sg⟩ := doorAt_in h hi
  rw [hda] at hda'; cases hda'
  obtain ⟨l, hl, rfl⟩ := door_map hd
  obtain ⟨r, hr, e1, e2, _⟩ := stay_rI ok mok h (show i ≤ road.length by omega)
  have bv := back_vals ok (T := T) hk hl
  have rI1 : rI S road (i + 1) = l.e := by
    show (match (road[i]?).bind fun k => S.doors[k.toNat]? with | some l => l.e | none => rI S road i) = _
    rw [hk]
    show (match S.doors[k.toNat]? with | some l => l.e | none => rI S road i) = _
    rw [hl]
  have hb : l.b = rI S road i := by
    have a := rI_ok ok h i (by omega)
    have lb := (ok.d l (List.mem_of_getElem? hl)).1
    refine name_inj mok lb a.1 ?_
    rw [a.2]
    exact rs_start h hda
  have lgk : guardOk WORDS S.mach.watches l.gd = true := (mok.door hdm).2.2.2.1
  have hv : ((stT S road T i).2.map (· + (T (i + 1) - T i))) = valsL S (rsAt S.mach road i).since T (T (i + 1)) := valsL_later
  have key : ∀ s', stepR S (stT S road T i) (T (i + 1) - T i) (some k.toNat) = some s' ↔ (meetG S.mach (stayOf S.mach (rsAt S.mach road i).room) (valsT (rsAt S.mach road i).since T (T (i + 1))) ∧ meetG S.mach l.gd (valsT (rsAt S.mach road i).since T (T (i + 1))) ∧ meetG S.mach (stayAt S (rI S road (i + 1))) (vOf (valsL S (rsAt S.mach road (i + 1)).since T (T (i + 1))))) ∧ s' = stT S road T (i + 1) := fun s' => by
    rw [stepR_iff, hv, show (stT S road T i).1 = rI S road i from rfl, e1, meet_vals (room_guard mok hr), e2, rI1]
    constructor
    · rintro ⟨c1, d', hd', c2, rfl⟩
      rw [hl] at hd'; cases hd'
      rw [bv] at c2 ⊢
      exact ⟨⟨c1, (meet_vals lgk).mp c2.2.2.1, c2.2.2.2⟩, by unfold stT; rw [rI1]⟩
    · rintro ⟨⟨c1, c2, c3⟩, rfl⟩
      exact ⟨c1, l, hl, ⟨hb, sg, (meet_vals lgk).mpr c2, by rw [bv]; exact c3⟩, by rw [bv]; unfold stT; rw [rI1]⟩
  refine ⟨k, hk, ?_, ?_⟩
  · cases hs : stepR S (stT S road T i) (T (i + 1) - T i) (some k.toNat) with
    | none => exact .inr rfl
    | some s' => rw [((key s').mp hs).2]; exact .inl rfl
  · exact (key _).trans ⟨fun h => h.1, fun h => ⟨h, rfl⟩⟩
theorem step_last (ok : SpecOk S) (mok : MachOk S.mach) (h : goRd S.mach (room0 S.mach) road = some e) {T : Nat → Rat} : (stepR S (stT S road T road.length) (T (road.length + 1) - T road.length) none = some (rI S road road.length, valsL S (rsAt S.mach road road.length).since T (T (road.length + 1))) ∨ stepR S (stT S road T road.length) (T (road.length + 1) - T road.length) none = none) ∧
    (stepR S (stT S road T road.length) (T (road.length + 1) - T road.length) none = some (rI S road road.length, valsL S (rsAt S.mach road road.length).since T (T (road.length + 1))) ↔ meetG S.mach (stayOf S.mach (rsAt S.mach road road.length).room) (valsT (rsAt S.mach road road.length).since T (T (road.length + 1)))) := by
  obtain ⟨r, hr, e1, e2, _⟩ := stay_rI ok mok h (Nat.le_refl _)
  have hv : ((stT S road T road.length).2.map (· + (T (road.length + 1) - T road.length))) = valsL S (rsAt S.mach road road.length).since T (T (road.length + 1)) := valsL_later
  have key : ∀ s', stepR S (stT S road T road.length) (T (road.length + 1) - T road.length) none = some s' ↔ meetG S.mach (stayOf S.mach (rsAt S.mach road road.length).room) (valsT (rsAt S.mach road road.length).since T (T (road.length + 1))) ∧ s' = (rI S road road.length, valsL S (rsAt S.mach road road.length).since T (T (road.length + 1))) := fun s' => by
    rw [stepR_no, hv, show (stT S road T road.length).1 = rI S road road.length from rfl, e1, meet_vals (room_guard mok hr), e2]
  constructor
  · cases hs : stepR S (stT S road T road.length) (T (road.length + 1) - T road.length) none with
    | none => exact .inr rfl
    | some s' => rw [((key s').mp hs).2]; exact .inl rfl
  · exact (key _).trans ⟨fun h => h.1, fun h => ⟨h, rfl⟩⟩
/-- steps that follow a road at some times -/
structure StepsT (road : List Int) (T : Nat → Rat) (st : List StepD) : Prop where
  len : st.length = road.length + 1
  wait : ∀ (i : Nat) (x : StepD), st[i]? = some x → rq x.1 = T (i + 1) - T i
  door : ∀ (i : Nat) (x : StepD), st[i]? = some x → x.2 = (road[i]?).map Int.toNat
theorem run_snoc {st : List StepD} {s0 : Nat × List Rat} {i : Nat} {x : StepD} (hx : st[i]? = some x) : runR S s0 (st.take (i + 1)) = (runR S s0 (st.take i)).bind fun s => stepR S s (rq x.1) x.2 := by
  rw [take_snocP hx]
  have key : ∀ (l : List StepD) (s : Nat × List Rat), runR S s (l ++ [x]) = (runR S s l).bind fun s => stepR S s (rq x.1) x.2 := by
    intro l
    induction l with
    | nil =>
      intro s
      show (stepR S s (rq x.1) x.2).bind _ = stepR S s (rq x.1) x.2
      cases stepR S s (rq x.1) x.2 <;> rfl
    | cons y l ih =>
      intro s
      show (stepR S s (rq y.1) y.2).bind _ = ((stepR S s (rq y.1) y.2).bind _).bind _
      cases stepR S s (rq y.1) y.2 with
      | none => rfl
      | some s2 => exact ih s2
  exact key _ _
theorem start_T (ok : SpecOk S) {T : Nat → Rat} (h0 : T 0 = 0) {s0 : Nat × List Rat} (hs : startR S = some s0) : s0 = stT S road T 0 := by
  unfold startR at hs
  split at hs
  · cases hs
    show _ = (0, valsL S (fun _ => 0) T (T 0))
    have : valsL S (fun _ => 0) T (T 0) = S.watches.map fun _ => (0 : Rat) := by
      unfold valsL
      refine List.ext_getElem? fun i => ?_
      by_cases hi : i < S.watches.length
      · rw [lstF_get hi, List.getElem?_map, List.getElem?_eq_getElem hi]
        show some (T 0 - T 0) = some 0
        congr 1; grind
      · rw [List.getElem?_eq_none (by rw [lstF_len]; omega), List.getElem?_eq_none (by rw [List.length_map]; omega)]
    rw [this]
  · cases hs
theorem good_road (ok : SpecOk S) (mok : MachOk S.mach) (h : goRd S.mach (room0 S.mach) road = some e) {T : Nat → Rat} (h0 : T 0 = 0) {st : List StepD} (hst : StepsT road T st) {G : List Lq} (gk : guardOk WORDS S.mach.watches G = true) :
    LiesR (road.length + 2) (roadM S.mach road G) T ↔ (∀ x ∈ st, 0 ≤ rq x.1) ∧ ∃ s0 sF, startR S = some s0 ∧ runR S s0 st = some sF ∧ meetG S.mach G (vOf sF.2) := by
  rw [road_lies h0]
  have xat : ∀ i, i ≤ road.length → ∃ x, st[i]? = some x := fun i hi => ⟨_, List.getElem?_eq_getElem (by rw [hst.len]; omega)⟩
  have full : st.take (road.length + 1) = st := List.take_of_length_le (by rw [hst.len]; exact Nat.le_refl _)
  constructor
  · rintro ⟨a, b⟩
    have start : ∃ s0, startR S = some s0 := by
      have k := road_stay_less ok mok h (Nat.zero_le _) (a 0 (Nat.zero_le _))
      unfold startR
      refine ⟨_, if_pos ?_⟩
      have e0 : valsL S (rsAt S.mach road 0).since T (T 0) = S.watches.map fun _ => (0 : Rat) := by
        unfold valsL
        refine List.ext_getElem? fun i => ?_
        by_cases hi : i < S.watches.length
        · rw [lstF_get hi, List.getElem?_map, List.getElem?_eq_getElem hi]
          show some (T 0 - T 0) = some 0
          congr 1; grind
        · rw [List.getElem?_eq_none (by rw [lstF_len]; omega), List.getElem?_eq_none (by rw [List.length_map]; omega)]
      rw [e0] at k
      exact k
    obtain ⟨s0, hs0⟩ := start
    have runs : ∀ i, i ≤ road.length → runR S s0 (st.take i) = some (stT S road T i) := by
      intro i
      induction i with
      | zero => intro _; rw [← start_T ok h0 hs0]; rfl
      | succ i ih =>
        intro hi
        obtain ⟨x, hx⟩ := xat i (by omega)
        rw [run_snoc hx, ih (by omega), hst.wait i x hx, hst.door i x hx]
        obtain ⟨d, _, _, _, _, _, hda, _⟩ := doorAt_in h (show i < road.length by omega)
        obtain ⟨k, hk, _, hiff⟩ := step_door ok mok h (T := T) (show i < road.length by omega) hda
        rw [hk]
        obtain ⟨_, a2, a3⟩ := a i (by omega)
        exact hiff.mpr ⟨a2, a3 d hda, road_stay_less ok mok h hi (a (i + 1) hi)⟩
    obtain ⟨x, hx⟩ := xat road.length (Nat.le_refl _)
    obtain ⟨_, a2, _⟩ := a road.length (Nat.le_refl _)
    refine ⟨fun y hy => ?_, s0, (rI S road road.length, valsL S (rsAt S.mach road road.length).since T (T (road.length + 1))), hs0, ?_, (meet_vals gk).mpr b⟩
    · obtain ⟨i, hi, e⟩ := List.mem_iff_getElem.mp hy
      have hy' := List.getElem?_eq_getElem hi
      rw [e] at hy'
      rw [hst.wait i y hy']
      have := (a i (by rw [hst.len] at hi; omega)).1
      grind
    · rw [← full, run_snoc hx, runs _ (Nat.le_refl _), hst.wait _ x hx, hst.door _ x hx, List.getElem?_eq_none (Nat.le_refl _)]
      exact (step_last ok mok h).2.mpr a2
  · rintro ⟨nn, s0, sF, hs0, hrun, hG⟩
    have mono : ∀ i, i ≤ road.length → T i ≤ T (i + 1) := fun i hi => by
      obtain ⟨x, hx⟩ := xat i hi
      have := nn x (List.mem_of_getElem? hx)
      rw [hst.wait i x hx] at this
      grind
    have pre : ∀ i, i ≤ road.length + 1 → ∃ s, runR S s0 (st.take i) = some s := by
      intro i hi
      have : ∀ (l1 l2 : List StepD) (s : Nat × List Rat), (∃ sF, runR S s (l1 ++ l2) = some sF) → ∃ s', runR S s l1 = some s' := by
        intro l1
        induction l1 with
        | nil => intro l2 s _; exact ⟨s, rfl⟩
        | cons y l1 ih =>
          rintro l2 s ⟨sF, hF⟩
          obtain ⟨s2, e1, e2⟩ := Option.bind_eq_some_iff.mp (show (stepR S s (rq y.1) y.2).bind _ = some sF from hF)
          obtain ⟨s', hs'⟩ := ih l2 s2 ⟨sF, e2⟩
          exact ⟨s', by show (stepR S s (rq y.1) y.2).bind _ = _; rw [e1]; exact hs'⟩
      exact this (st.take i) (st.drop i) s0 ⟨sF, by rw [List.take_append_drop]; exact hrun⟩
    have key : ∀ i, i ≤ road.length → runR S s0 (st.take i) = some (stT S road T i) ∧ ∀ j, j < i → AskT S.mach road T j := by
      intro i
      induction i with
      | zero => intro _; exact ⟨by rw [← start_T ok h0 hs0]; rfl, fun j hj => by omega⟩
      | succ i ih =>
        intro hi
        obtain ⟨r1, r2⟩ := ih (by omega)
        obtain ⟨x, hx⟩ := xat i (by omega)
        obtain ⟨s, hs⟩ := pre (i + 1) (by omega)
        have hs2 := hs
        rw [run_snoc hx, r1, hst.wait i x hx, hst.door i x hx] at hs2
        obtain ⟨d, _, _, _, _, _, hda, _⟩ := doorAt_in h (show i < road.length by omega)
        obtain ⟨k, hk, alt, hiff⟩ := step_door ok mok h (T := T) (show i < road.length by omega) hda
        rw [hk] at hs2
        have hs2 : stepR S (stT S road T i) (T (i + 1) - T i) (some k.toNat) = some s := hs2
        rcases alt with alt | alt
        · rw [alt] at hs2
          rw [hs, ← hs2]
          refine ⟨rfl, fun j hj => ?_⟩
          by_cases c : j = i
          · subst c
            obtain ⟨b1, b2, _⟩ := hiff.mp alt
            exact ⟨mono j (by omega), b1, fun d' hd' => by rw [hda] at hd'; cases hd'; exact b2⟩
          · exact r2 j (by omega)
        · rw [alt] at hs2; cases hs2
    obtain ⟨r1, r2⟩ := key road.length (Nat.le_refl _)
    obtain ⟨x, hx⟩ := xat road.length (Nat.le_refl _)
    have hs2 := hrun
    rw [← full, run_snoc hx, r1, hst.wait _ x hx, hst.door _ x hx, List.getElem?_eq_none (Nat.le_refl _)] at hs2
    have hs2 : stepR S (stT S road T road.length) (T (road.length + 1) - T road.length) none = some sF := hs2
    obtain ⟨alt, hiff⟩ := step_last ok mok h (T := T)
    rcases alt with alt | alt
    · have c := hiff.mp alt
      rw [alt] at hs2; cases hs2
      refine ⟨fun i hi => ?_, (meet_vals gk).mp hG⟩
      by_cases ci : i = road.length
      · subst ci
        exact ⟨mono _ hi, c, fun d hd => by rw [doorAt_out (Nat.le_refl _)] at hd; cases hd⟩
      · exact r2 i (by omega)
    · rw [alt] at hs2; cases hs2
end
/-! ### whether a list is empty, told by == [] -/
def rEqNil : R2 := fun x y H Q => ∃ a b xs, x = .ref a ∧ y = .ref b ∧ H a = some (.lst xs) ∧ H b = some (.lst []) ∧ Q (.bl (decide (xs = []))) H
theorem op_eqNil {X : Cx} (hu : X.A.units < cLine) : OpR X (compareOp .Eq) rEqNil := by
  rintro pins s σ H x y v u Q I rx ry ⟨a, b, xs, rfl, rfl, ea, eb, q⟩
  obtain rfl : v = Value.ref a := rx
  obtain rfl : u = Value.ref b := ry
  obtain ⟨us, ru, pl, _⟩ := I.list (xs := xs) (.of ea)
  obtain ⟨us2, ru2, pl2, _⟩ := I.list (xs := []) (.of eb)
  cases ru2
  have len := ru.length
  by_cases c : xs = []
  · subst c
    cases ru
    refine SeqAt.RcAt.lists (e := fun _ => true) pl.isList pl2.isList rfl hu (fun j h1 h2 => SeqAt.EqAt.same _) X.prog X.w _ _ ?_
    exact ⟨.bl _, H, I, by show _ = Value.bool _; simp, q⟩
  · have hx := List.length_pos_iff.mpr c
    refine SeqAt.RcAt.lists_lengths pl.isList pl2.isList (by have h : us.length ≠ 0 := (by omega); simpa using h) hu X.prog X.w _ _ ?_
    rw [decide_eq_false c] at q
    exact ⟨.bl _, H, I, rfl, q⟩
/-- a door whose parts are all new -/
def MdAt (C : Addr) (Hb : Hp) (Hx : Hp) (q : Addr) (d : DoorD) : Prop := ∃ dx g n, Hx q = some (.ins C dx (doorF d.st d.en d.sg g n)) ∧ LsAt Hx g d.looks ∧ Hx n = some (.lst (d.backs.map V.str)) ∧ Hb q = none ∧ Hb g = none ∧ Hb n = none
theorem MdAt.keep {C : Addr} {Hb : Hp} : ∀ (H H' : Hp) (q : Addr) (d : DoorD), Same H H' → MdAt C Hb H q d → MdAt C Hb H' q d := fun _ _ _ _ s ⟨dx, g, n, a, b, c, e⟩ => ⟨dx, g, n, s _ _ a, b.keep s, s _ _ c, e⟩
theorem del_rem {D : Addr} {H : Hp} : remU (fun b => b = D) H = delH D H := by
  funext b
  unfold remU delH
  by_cases h : b = D
  · rw [if_pos h, if_pos h]
  · rw [if_neg h, if_neg h]
theorem ix_last {K : PySem.W.Frag} {H : Hp} {p : Addr} {xs : List V} {v : V} {Q : VK} (h : SqL K H p xs) (hv : xs.getLast? = some v) (q : Q v H) : rIxL K (.ref p) (.int (-1)) H Q := by
  obtain ⟨ys, e⟩ := List.getLast?_eq_some_iff.mp hv
  exact ⟨p, xs, -1, v, rfl, rfl, h, by rw [e]; exact atI_last ys v, q⟩
def spRoad52 : Sp := fun vs H Q _ => ∃ (ps pc : Addr) (S : Spec) (cells : List Int), vs = [.ref ps, .ref pc] ∧ SpecAt H ps S ∧ SpecOk S ∧ H pc = some (.lst (cells.map V.int)) ∧ cells.length ≤ 10 ∧
  ∀ (q pl : Addr) (H' : Hp) (road : List Int) (ri : Nat), Same H H' → H' q = some (.tup [.ref pl, .int ri]) → H' pl = some (.lst (road.map V.int)) → road.length ≤ cells.length → (∀ k ∈ road, 0 ≤ k ∧ k < S.doors.length) → ri < S.rooms.length → goRd S.mach (room0 S.mach) road = some (S.name ri) → Q (.ref q) H'
theorem name0 {S : Spec} : S.name 0 = room0 S.mach := by
  unfold Spec.name room0
  rw [List.headD_eq_head?_getD, List.head?_eq_getElem?, List.getD_eq_getElem?_getD, List.getElem?_map]
  rw [show S.mach.rooms = S.rooms from rfl]
  cases S.rooms[0]? <;> rfl
theorem goRd_snoc {S : Spec} {road : List Int} {ri : Nat} {k : Nat} {d : LDoor} (h : goRd S.mach (room0 S.mach) road = some (S.name ri)) (hd : S.doors[k]? = some d) (b : d.b = ri) (sg : d.sg = "") : goRd S.mach (room0 S.mach) (road ++ [(k : Int)]) = some (S.name d.e) := by
  rw [goRd_app, h]
  show (if (0 : Int) ≤ (k : Int) then (match S.mach.doors[(k : Int).toNat]? with | some d => if d.sg = "" ∧ d.st = S.name ri then goRd S.mach d.en [] else none | none => none) else none) = _
  rw [if_pos (by omega), Int.toNat_natCast]
  have : S.mach.doors[k]? = some (S.door d) := by
    show (S.doors.map S.door)[k]? = _
    rw [List.getElem?_map, hd]; rfl
  rw [this]
  show (if (S.door d).sg = "" ∧ (S.door d).st = S.name ri then some (S.door d).en else none) = _
  rw [if_pos ⟨sg, by rw [← b]; rfl⟩]; rfl
theorem ok_l_road (T : Top K mg) : FnOk P w K mg base CX0 1 T.f_l_road T.d_l_road ["_law_spec", "_law_cells"] spRoad52 := by
  refine T.F_l_road.ok sc_l_road (fun vs H Q E h => ?_) (fun cdv A outer s H vs Q E hr h => ?_)
  · obtain ⟨ps, pc, S, cells, rfl, _⟩ := h; rfl
  · obtain ⟨ps, pc, S, cells, rfl, hs, ok, hc, c10, q⟩ := h
    refine ⟨_, (pss_cons (ps_asg (pv 0) (pg_tupA (K := K) (n := 3) rfl (by rfl) (pgs_cons (pg_name (i := 2) sc_l_road.nd rfl (.inl rfl)) (pgs_cons (pg_name (i := 3) sc_l_road.nd rfl (.inl rfl)) (pgs_cons (pg_name (i := 4) sc_l_road.nd rfl (.inr rfl)) pgs_nil)))))
      (pss_cons (ps_set (i := 5) sc_l_road.nd rfl (.inr rfl) pe_int)
      (pss_cons (ps_set (i := 6) sc_l_road.nd rfl (.inl rfl) (pe_lstN pa_nil))
      (pss_cons (ps_for PassesOwn.never rfl (pi_listA (K := K) rfl (pv 1)) (pg_name (i := 7) sc_l_road.nd rfl (.inl rfl)) (pss_cons (lc_vsS (vs := [9]) (ps_setLc (i := 8) (own := [("_law_k", 9)]) (g := gName 9) rfl sc_l_road.nd rfl rfl (sw_true rfl rfl rfl (by decide +kernel)) (pi_range1 (by rfl) T.m_range (pa_cons (pe_callB call_len_seq (by rfl) T.m_len (by decide +kernel) (pa_cons (pv 4) pa_nil)) pa_nil)) (blkOk_by (own := [("_law_k", 9)]) (N := ["_law_spec", "_law_cells", "_law_watches", "_law_rooms", "_law_doors", "_law_room_here", "_law_road_here", "_law_cell", "_law_ways", "_law_k"]) (sc := defScope s_l_road) (by decide +kernel)) (fun _ _ _ _ _ => (pg_name (i := 9) sc_l_road.nd rfl (.inl rfl))) (fun _ _ _ _ _ => pts_one (PW.pt (pw_and (pt_cmpR op_eq (pe_ix (ix_tupA (K := K) rfl) (pe_ix (ix_listA (K := K) rfl) (pv 4) (pv 9) (fun _ _ => rfl)) pe_int (fun _ _ => rfl)) (pv 5) (nomark _)) (pw_and1 (pt_cmpR op_eq (pe_ix (ix_tupA (K := K) rfl) (pe_ix (ix_listA (K := K) rfl) (pv 4) (pv 9) (fun _ _ => rfl)) pe_int (fun _ _ => rfl)) pe_str (nomark _)))))) (fun _ _ _ _ _ => (pv 9))) rfl)
      (pss_cons (ps_if (pt_cmpR (op_eqNil (Nat.lt_of_succ_lt (hu_of hr))) (pv 8) (pe_lstN pa_nil) (nomark _)) (pss_one ps_break) pss_nil)
      (pss_cons (ps_expr (pe_bm PySem.F.plainAttrs_list PySem.F.slot_list_append PySem.F.type_list_append mt_append (pv 6) (pa_cons (pe_ix (ix_listA (K := K) rfl) (pv 8) (pe_op op_modN (pv 7) (pe_callB call_len_seq (by rfl) T.m_len (by decide +kernel) (pa_cons (pv 8) pa_nil))) (fun _ _ => rfl)) pa_nil)))
      (pss_one (ps_set (i := 5) sc_l_road.nd rfl (.inr rfl) (pe_ix (ix_tupA (K := K) rfl) (pe_ix (ix_listA (K := K) rfl) (pv 4) (pe_ix (ix_listA (K := K) rfl) (pv 6) (pe_un un_neg pe_int) (fun _ _ => rfl)) (fun _ _ => rfl)) pe_int (fun _ _ => rfl))))))))
      (pss_one (ps_ret (pe_tupN (pa_cons (pv 6) (pa_cons (pv 5) pa_nil))))))))), ?_⟩
    obtain ⟨pw, pr, pd, es, hw, hrs, hds⟩ := id hs
    obtain ⟨dqs, d1, d2, d3⟩ := id hds
    have d6 := ok.d6
    refine seq_step ?_
    walk_at "rd"
    refine gTup_of (sqt es) rfl ?_
    walk_at "rd"
    refine seq_step ?_
    walk_at "rd"
    refine seq_step ?_
    walk_at "rd"
    intro pl H1 s1 f1 e1
    refine seq_step ?_
    refine for_li ?_
    walk_at "rd"
    obtain ⟨Iv, hIv⟩ : ∃ Iv : Nat → L2.St → Hp → Prop, ∀ i σ' H', Iv i σ' H' ↔ (∃ v7 v8 v9, ∃ (road : List Int) (ri : Nat), σ' = [some (.ref ps), some (.ref pc), some (.ref pw), some (.ref pr), some (.ref pd), some (.int ri), some (.ref pl), v7, v8, v9] ∧ Same H H' ∧ H' pl = some (.lst (road.map V.int)) ∧ road.length ≤ i ∧ (∀ k ∈ road, 0 ≤ k ∧ k < S.doors.length) ∧ ri < S.rooms.length ∧ goRd S.mach (room0 S.mach) road = some (S.name ri)) := ⟨_, fun _ _ _ => Iff.rfl⟩
    have fin : ∀ {i : Nat} {σ' : L2.St} {H' : Hp} {D : Ends}, i ≤ cells.length → Iv i σ' H' → D.rt = Q → tRet (tTupN (tCons (tVar 6) (tCons (tVar 5) tNil))) D σ' H' := fun {i σ' H' D} hi hinv hD => by
      obtain ⟨v7, v8, v9, road, ri, rfl, s', e', rl, rok, ril, hgo⟩ := (hIv _ _ _).mp hinv
      walk_at "rd"
      intro t H2 s2 f2 e2
      rw [hD]
      exact q t pl H2 road ri (s'.trans s2) e2 (s2 _ _ e') (by omega) rok ril hgo
    refine forL_by (xs := cells.map V.int) Iv ((hIv _ _ _).mpr ⟨_, _, _, [], 0, rfl, s1, e1, Nat.le_refl _, (fun k h => by cases h), ok.r1, by rw [name0]; rfl⟩) (fun i σ H' _ h => (fun (⟨_, _, _, _, _, _, k, _⟩ : ∃ _ _ _, ∃ (_ : List Int) (_ : Nat), _ ∧ Same _ _ ∧ _) => .of (k _ _ hc)) ((hIv _ _ _).mp h)) ?_ ?_
    rotate_left
    · rintro σ' H2 hinv
      rw [List.length_map] at hinv
      exact fin (Nat.le_refl _) hinv rfl
    rintro i x σ' H2 hi hinv
    obtain ⟨v7, v8, v9, road, ri, rfl, s2, e2, rl, rok, ril, hgo⟩ := (hIv _ _ _).mp hinv
    rw [List.getElem?_map] at hi
    obtain ⟨cell, hcell, rfl⟩ := Option.map_eq_some_iff.mp hi
    have hil := (List.getElem?_eq_some_iff.mp hcell).1
    walk_at "rd"
    refine seq_step ?_
    refine lcr_src ?_
    walk_at "rd"
    refine ⟨_, .inl (.of (s2 _ _ d1)), ?_⟩
    rw [List.length_map, d2]
    refine ⟨(rg_ok (by omega)).1, (rg_ok (by omega)).2, ?_⟩
    rw [Int.toNat_natCast]
    have doorAt : ∀ {k : Nat}, k < S.doors.length → ∃ (qd g n : Addr) (d : LDoor), dqs[k]? = some qd ∧ S.doors[k]? = some d ∧ H qd = some (.tup [.int d.b, .int d.e, .ref g, .ref n, .str d.sg]) := fun {k} hk => by
      obtain ⟨qd, hq⟩ : ∃ qd, dqs[k]? = some qd := ⟨_, List.getElem?_eq_getElem (by omega)⟩
      obtain ⟨d, hd⟩ : ∃ d, S.doors[k]? = some d := ⟨_, List.getElem?_eq_getElem hk⟩
      obtain ⟨g, n, e, hg, _⟩ := d3 k qd d hq hd
      exact ⟨qd, g, n, d, hq, hd, e⟩
    obtain ⟨F, hF⟩ : ∃ F : Nat → Option V, F = fun k : Nat => (S.doors[k]?).bind fun d : LDoor => if d.b = ri ∧ d.sg = "" then some (V.int k) else none := ⟨_, rfl⟩
    refine lcR (n := S.doors.length) (F := F) (by omega) (fun j H6 Yes No hj s6 hy hno => ?_) (fun pwy H6 s6 f6 e6 => ?_)
    · obtain ⟨qd, g, n, d, hq, hd, e⟩ := doorAt hj
      have eF : F j = if d.b = ri ∧ d.sg = "" then some (V.int j) else none := by rw [hF]; show (S.doors[j]?).bind _ = _; rw [hd]; rfl
      have s06 := s2.trans s6
      walk_at "rd"
      refine ix_l (.of (s06 _ _ d1)) (by omega) (by rw [Int.toNat_natCast, List.getElem?_map, hq]; rfl) ?_
      refine ix_t (sqt (s06 _ _ e)) (by decide) rfl ?_
      refine ⟨rfl, ?_⟩
      by_cases c1 : d.b = ri
      rotate_left
      · exact if_f (decide_eq_false fun h => c1 (by injection h <;> omega)) (hno _ (Same.refl _) (by rw [eF, if_neg fun h => c1 h.1]))
      refine if_t (decide_eq_true (by rw [c1])) ?_
      refine ix_l (.of (s06 _ _ d1)) (by omega) (by rw [Int.toNat_natCast, List.getElem?_map, hq]; rfl) ?_
      refine ix_t (sqt (s06 _ _ e)) (by decide) rfl ?_
      refine ⟨rfl, ?_⟩
      by_cases c2 : d.sg = ""
      · exact if_t (decide_eq_true (by rw [c2])) (hy _ _ (Same.refl _) (by rw [eF, if_pos ⟨c1, c2⟩]))
      · exact if_f (decide_eq_false fun h => c2 (by injection h)) (hno _ (Same.refl _) (by rw [eF, if_neg fun h => c2 h.2]))
    obtain ⟨ws, ews, wsok⟩ : ∃ ws : List Nat, (List.range S.doors.length).filterMap F = ws.map (fun k => V.int (k : Nat)) ∧ ∀ k ∈ ws, ∃ d, S.doors[k]? = some d ∧ d.b = ri ∧ d.sg = "" := by
      have key : ∀ l : List Nat, (∀ k ∈ l, k < S.doors.length) → ∃ ws : List Nat, l.filterMap F = ws.map (fun k => V.int (k : Nat)) ∧ ∀ k ∈ ws, ∃ d, S.doors[k]? = some d ∧ d.b = ri ∧ d.sg = "" := by
        intro l
        induction l with
        | nil => intro _; exact ⟨[], rfl, fun k h => by cases h⟩
        | cons k l ih =>
          intro h
          obtain ⟨ws, e1, e2⟩ := ih fun x hx => h x (List.mem_cons_of_mem _ hx)
          have hk := h k List.mem_cons_self
          obtain ⟨d, hd⟩ : ∃ d, S.doors[k]? = some d := ⟨_, List.getElem?_eq_getElem hk⟩
          have eF : F k = if d.b = ri ∧ d.sg = "" then some (V.int k) else none := by rw [hF]; show (S.doors[k]?).bind _ = _; rw [hd]; rfl
          by_cases c : d.b = ri ∧ d.sg = ""
          · refine ⟨k :: ws, by rw [List.filterMap_cons, eF, if_pos c, e1]; rfl, fun m hm => ?_⟩
            rcases List.mem_cons.mp hm with rfl | hm
            · exact ⟨d, hd, c.1, c.2⟩
            · exact e2 m hm
          · exact ⟨ws, by rw [List.filterMap_cons, eF, if_neg c, e1], e2⟩
      exact key _ fun k hk => List.mem_range.mp hk
    rw [ews] at e6
    have s06 := s2.trans s6
    have fpl : H pl = none := f1
    have e26 := s6 _ _ e2
    walk_at "rd"
    refine seq_step ?_
    walk_at "rd"
    intro pn H7 s7 f7 e7
    refine ⟨pwy, pn, _, rfl, rfl, s7 _ _ e6, e7, ?_⟩
    refine ⟨_, rfl, ?_⟩
    by_cases cw : ws = []
    · subst cw
      refine if_t rfl ?_
      exact fin (i := i) (by omega) ((hIv _ _ _).mpr ⟨_, _, _, road, ri, rfl, s06.trans s7, s7 _ _ e26, rl, rok, ril, hgo⟩) rfl
    refine if_f (by cases ws with | nil => exact absurd rfl cw | cons a b => rfl) ?_
    have wpos := List.length_pos_iff.mpr cw
    refine seq_step ?_
    walk_at "rd"
    have e27 := s7 _ _ e26
    refine ⟨_, rfl, .inl ⟨rfl, _, .of e27⟩, ?_⟩
    walk_at "rd"
    refine ⟨_, .inl (.of (s7 _ _ e6)), ?_⟩
    rw [List.length_map]
    have mm := fm_pos (c := cell) (m := (ws.length : Int)) (by omega)
    refine ⟨by omega, ?_⟩
    obtain ⟨k, hk⟩ : ∃ k, ws[(cell.fmod (ws.length : Int)).toNat]? = some k := ⟨_, List.getElem?_eq_getElem (by omega)⟩
    obtain ⟨d, hd, db, dsg⟩ := wsok k (List.mem_of_getElem? hk)
    have kl := (List.getElem?_eq_some_iff.mp hd).1
    refine ix_l (.of (s7 _ _ e6)) mm.1 (by rw [List.getElem?_map, hk]; rfl) ?_
    refine app_at e27 (by rw [List.length_map]; omega) ?_
    have s08 : Same H (upd H7 pl (.lst (road.map V.int ++ [V.int (k : Nat)]))) := same_updN fpl (s06.trans s7)
    have e8 : (upd H7 pl (.lst (road.map V.int ++ [V.int (k : Nat)]))) pl = some (.lst ((road ++ [(k : Int)]).map V.int)) := by rw [upd_same, List.map_append]; rfl
    generalize upd H7 pl (.lst (road.map V.int ++ [V.int (k : Nat)])) = H8 at *
    walk_at "rd"
    obtain ⟨qd, g, n, d', hq, hd', e⟩ := doorAt kl
    rw [hd] at hd'; cases hd'
    refine ix_last (.of e8) (by rw [List.getLast?_map, List.getLast?_concat]; rfl) ?_
    refine ix_l (.of (s08 _ _ d1)) (by omega) (by rw [Int.toNat_natCast, List.getElem?_map, hq]; rfl) ?_
    refine ix_t (sqt (s08 _ _ e)) (by decide) rfl ?_
    refine (hIv _ _ _).mpr ⟨_, _, _, road ++ [(k : Int)], d.e, rfl, s08, e8, by rw [List.length_append, List.length_singleton]; omega, fun x hx => ?_, (ok.d d (List.mem_of_getElem? hd)).2.1, goRd_snoc hgo hd db dsg⟩
    rcases List.mem_append.mp hx with h | h
    · exact rok x h
    · rw [show x = (k : Int) by simpa using h]; omega
/-! ### sizes of narrowed zones -/
theorem up2_out {n i j a b : Nat} {M : Mx} {x : Option Int} (hi : i < n) (hj : j < n) (h : ¬ (a < n ∧ b < n)) : up2 M i j x a b = M a b := by
  unfold up2
  rw [if_neg fun e => h ⟨by omega, by omega⟩]
theorem iter_out {n a b : Nat} {f : Nat → Mx → Mx} (h : ∀ i M, i < n → f i M a b = M a b) : ∀ (m : Nat) (M : Mx), m ≤ n → iter f m M a b = M a b
  | 0, _, _ => rfl
  | m + 1, M, hm => by
    show f m (iter f m M) a b = _
    rw [h m _ (by omega), iter_out h m M (by omega)]
theorem nrw_out {n a b : Nat} {M : Mx} (h : ¬ (a < n ∧ b < n)) : nrw n M a b = M a b := by
  unfold nrw
  rw [iter_out (fun k M hk => ?_) n _ (Nat.le_refl _), iter_out (fun k M hk => ?_) n _ (Nat.le_refl _)]
  · unfold diag1
    rw [up2_out (by omega) hk h, up2_out hk hk h]
  · unfold thr
    rw [iter_out (fun i M hi => ?_) n _ (Nat.le_refl _)]
    unfold rowst
    split
    · rfl
    · rw [iter_out (fun j M hj => ?_) n _ (Nat.le_refl _)]
      unfold cell1
      exact up2_out hi hj h
theorem nrw_szT {n s : Nat} {M : Mx} (h : PosAll n (nrw n M)) (hs : 1 ≤ s) (sM : SzM s M) : SzM (s + 2 * n) (nrw n M) := fun i j v e => by
  by_cases c : i < n ∧ j < n
  · exact nrw_sz2 h hs sM i j v (by rw [cut_at c.1 c.2]; exact e)
  · rw [nrw_out c] at e
    exact (sM i j v e).mono (by omega)
theorem nrwO_szT {n s : Nat} {M X : Mx} (e : nrwO n M = some X) (hs : 1 ≤ s) (sM : SzM s M) : SzM (s + 2 * n) X := by
  obtain ⟨rfl, p⟩ := nrwO_some e
  exact nrw_szT p hs sM
/-- a number, as a pair in lowest terms -/
def frOf (r : Rat) : Int × Int := (r.num, (r.den : Int))
theorem rq_frOf (r : Rat) : rq (frOf r) = r := rq_num r
/-! ### times in small parts: plain -/
def kO : Option Int → Int
  | none => 0
  | some b => b / 2
def fineO (s : Int) : Option Int → Option Int
  | none => none
  | some b => some (2 * (b / 2 * s - (if b % 2 = 0 then 1 else 0)) + 1)
def fineM (s : Int) (Z : Mx) : Mx := fun i j => fineO s (Z i j)
def cntP (p : Nat → Bool) : Nat → Nat
  | 0 => 0
  | k + 1 => cntP p k + if p k then 1 else 0
theorem cntP_le {p : Nat → Bool} : ∀ n, cntP p n ≤ n
  | 0 => Nat.le_refl _
  | k + 1 => by
    have := cntP_le (p := p) k
    show cntP p k + (if p k then 1 else 0) ≤ k + 1
    split <;> omega
theorem cntP_mono {p q : Nat → Bool} (h : ∀ k, p k = true → q k = true) : ∀ n, cntP p n ≤ cntP q n
  | 0 => Nat.le_refl _
  | k + 1 => by
    have := cntP_mono h k
    show cntP p k + (if p k then 1 else 0) ≤ cntP q k + (if q k then 1 else 0)
    by_cases c : p k = true
    · rw [if_pos c, if_pos (h k c)]; omega
    · rw [if_neg c]; omega
theorem cntP_strict {p q : Nat → Bool} (h : ∀ k, p k = true → q k = true) {i : Nat} (hp : p i = false) (hq : q i = true) : ∀ n, i < n → cntP p n + 1 ≤ cntP q n
  | 0, hi => by omega
  | k + 1, hi => by
    show cntP p k + (if p k then 1 else 0) + 1 ≤ cntP q k + (if q k then 1 else 0)
    by_cases c : i = k
    · subst c
      rw [hp, hq, if_neg (by decide), if_pos rfl]
      have := cntP_mono h i
      omega
    · have := cntP_strict h hp hq k (by omega)
      by_cases c : p k = true
      · rw [if_pos c, if_pos (h k c)]; omega
      · rw [if_neg c]; omega
theorem cntP_lt {p : Nat → Bool} {i : Nat} (hp : p i = false) {n : Nat} (hi : i < n) : cntP p n + 1 ≤ n := by
  have h1 := cntP_strict (p := p) (q := fun _ => true) (fun _ _ => rfl) hp rfl n hi
  have h2 := cntP_le (p := fun _ => true) n
  omega
theorem cntP_zero {p : Nat → Bool} : ∀ n, (∀ k, k < n → p k = false) → cntP p n = 0
  | 0, _ => rfl
  | k + 1, h => by
    show cntP p k + (if p k then 1 else 0) = 0
    rw [h k (by omega), cntP_zero k fun j hj => h j (by omega)]; rfl
def xS (Z : Mx) (i : Nat) : Int := -kO (Z 0 i)
/-- a strict bound that the least times just break -/
def tightB (Z : Mx) (j k : Nat) : Bool := match Z k j with
  | none => false
  | some b => decide (b % 2 = 0 ∧ xS Z k - xS Z j = b / 2)
def yS (n : Nat) (Z : Mx) (j : Nat) : Nat := cntP (fun k => decide (k < n) && tightB Z j k) n
theorem le_addO {x : Option Int} {a b : Int} (h : leO x (addO (some a) (some b))) : ∃ c, x = some c ∧ c / 2 ≤ a / 2 + b / 2 ∧ (c / 2 = a / 2 + b / 2 → c % 2 = 1 → a % 2 = 1 ∧ b % 2 = 1) := by
  cases x with
  | none => exact h.elim
  | some c =>
    have h : c ≤ 2 * (a / 2 + b / 2) + (if a % 2 = 1 ∧ b % 2 = 1 then 1 else 0) := h
    refine ⟨c, rfl, ?_, fun e1 e2 => ?_⟩
    · split at h <;> omega
    · split at h
      · assumption
      · omega
section
variable {n : Nat} {Z : Mx}
theorem row_some (R : Nar n Z) {i : Nat} (hi : i < n) : ∃ b, Z 0 i = some b ∧ b ≤ 1 := by
  have := R.row i hi
  cases h : Z 0 i with
  | none => rw [h] at this; exact this.elim
  | some b => rw [h] at this; exact ⟨b, rfl, this⟩
theorem xS_nn (R : Nar n Z) {i : Nat} (hi : i < n) : 0 ≤ xS Z i := by
  obtain ⟨b, e, h⟩ := row_some R hi
  unfold xS; rw [e]
  show 0 ≤ -(b / 2)
  omega
theorem xS_zero (R : Nar n Z) (hn : 0 < n) : xS Z 0 = 0 := by
  unfold xS; rw [R.one 0 hn]; rfl
theorem xS_le (R : Nar n Z) {i j : Nat} (hi : i < n) (hj : j < n) {b : Int} (e : Z i j = some b) : xS Z i - xS Z j ≤ b / 2 := by
  obtain ⟨c, e0, _⟩ := row_some R hi
  have t := R.tri i hi 0 j (by omega) hj
  rw [e0, e] at t
  obtain ⟨d, ed, h1, _⟩ := le_addO t
  unfold xS
  rw [e0, ed]
  show -(c / 2) - -(d / 2) ≤ b / 2
  omega
theorem tight_self (R : Nar n Z) {j : Nat} (hj : j < n) : tightB Z j j = false := by
  unfold tightB
  rw [R.one j hj]
  exact decide_eq_false fun h => by omega
/-- behind a bound that is just kept, what is tight stays tight -/
theorem tight_go (R : Nar n Z) {i j k : Nat} (hi : i < n) (hj : j < n) (hk : k < n) {b : Int} (e : Z i j = some b) (te : xS Z i - xS Z j = b / 2) (h : tightB Z i k = true) : tightB Z j k = true := by
  unfold tightB at h ⊢
  cases ek : Z k i with
  | none => rw [ek] at h; cases h
  | some a =>
    rw [ek] at h
    have h := of_decide_eq_true h
    have t := R.tri i hi k j hk hj
    rw [ek, e] at t
    obtain ⟨d, ed, h1, h2⟩ := le_addO t
    have h3 := xS_le R hk hj ed
    rw [ed]
    refine decide_eq_true ⟨?_, by omega⟩
    by_cases c : d % 2 = 1
    · have := (h2 (by omega) c).1
      omega
    · omega
theorem yS_lt (R : Nar n Z) {j : Nat} (hj : j < n) : yS n Z j + 1 ≤ n := cntP_lt (i := j) (by show (decide (j < n) && tightB Z j j) = false; rw [tight_self R hj, Bool.and_false]) hj
theorem yS_zero (R : Nar n Z) {j : Nat} (hj : j < n) (h : Z 0 j = some (2 * -xS Z j + 1)) : yS n Z j = 0 := cntP_zero n fun k hk => by
  show (decide (k < n) && tightB Z j k) = false
  have : tightB Z j k = false := by
    unfold tightB
    cases ek : Z k j with
    | none => rfl
    | some a =>
      refine decide_eq_false fun ⟨h1, h2⟩ => ?_
      obtain ⟨c, e0, _⟩ := row_some R hk
      have t := R.tri k hk 0 j (by omega) hj
      rw [e0, ek, h] at t
      obtain ⟨d, ed, h3, h4⟩ := le_addO t
      cases ed
      have : xS Z k = -(c / 2) := by unfold xS; rw [e0]; rfl
      have := (h4 (by omega) (by omega)).2
      omega
  rw [this, Bool.and_false]
def tS (n : Nat) (s : Int) (Z : Mx) (i : Nat) : Int := s * xS Z i + yS n Z i
theorem tS_le (R : Nar n Z) {s : Int} (hs : (n : Int) ≤ s) {i j : Nat} (hi : i < n) (hj : j < n) {b : Int} (e : Z i j = some b) : tS n s Z i - tS n s Z j ≤ b / 2 * s - (if b % 2 = 0 then 1 else 0) := by
  have h1 := xS_le R hi hj e
  have y1 := yS_lt R hi
  have e1 : tS n s Z i - tS n s Z j = s * (xS Z i - xS Z j) + ((yS n Z i : Int) - yS n Z j) := by
    unfold tS; rw [Int.mul_sub]; omega
  rw [e1]
  by_cases c : xS Z i - xS Z j = b / 2
  · rw [c, Int.mul_comm]
    have mono : ∀ k, (decide (k < n) && tightB Z i k) = true → (decide (k < n) && tightB Z j k) = true := fun k h => by
      rw [Bool.and_eq_true] at h ⊢
      exact ⟨h.1, tight_go R hi hj (of_decide_eq_true h.1) e c h.2⟩
    have m1 : yS n Z i ≤ yS n Z j := cntP_mono mono n
    split
    · rename_i c2
      have hq : (decide (i < n) && tightB Z j i) = true := by
        rw [Bool.and_eq_true]
        refine ⟨decide_eq_true hi, ?_⟩
        unfold tightB
        rw [e]
        exact decide_eq_true ⟨c2, c⟩
      have m2 : yS n Z i + 1 ≤ yS n Z j := cntP_strict mono (by show (decide (i < n) && tightB Z i i) = false; rw [tight_self R hi, Bool.and_false]) hq n hi
      omega
    · omega
  · have h2 : s * (xS Z i - xS Z j) ≤ s * (b / 2 - 1) := Int.mul_le_mul_of_nonneg_left (by omega) (by omega)
    have h3 : s * (b / 2 - 1) = b / 2 * s - s := by rw [Int.mul_sub, Int.mul_one, Int.mul_comm]
    rw [h3] at h2
    generalize s * (xS Z i - xS Z j) = u at *
    generalize b / 2 * s = v at *
    split <;> omega
theorem tS_zero (R : Nar n Z) (hn : 0 < n) (s : Int) : tS n s Z 0 = 0 := by
  have h := xS_zero R hn
  unfold tS
  rw [h, yS_zero R hn (by rw [h, R.one 0 hn]; rfl)]
  omega
def vS (n : Nat) (s : Int) (Z : Mx) (i : Nat) : Rat := if i < n then (tS n s Z i : Rat) else 0
theorem vS_val (R : Nar n Z) (hn : 0 < n) {s : Int} (hs : (n : Int) ≤ s) : Val (vS n s Z) := by
  refine ⟨?_, fun i => ?_⟩
  · unfold vS; rw [if_pos hn, tS_zero R hn]; rfl
  · unfold vS
    split
    · rename_i hi
      have h := xS_nn R hi
      have : 0 ≤ tS n s Z i := by
        unfold tS
        have := Int.mul_nonneg (a := s) (b := xS Z i) (by omega) h
        omega
      exact Rat.intCast_nonneg.mpr this
    · exact Rat.le_refl
theorem fine_lies (R : Nar n Z) {s : Int} (hs : (n : Int) ≤ s) : LiesR n (fineM s Z) (vS n s Z) := fun i j hi hj => by
  unfold vS fineM
  rw [if_pos hi, if_pos hj]
  cases e : Z i j with
  | none => exact trivial
  | some b =>
    show letsR (some (2 * (b / 2 * s - (if b % 2 = 0 then 1 else 0)) + 1)) _
    rw [lets_le2, ← Rat.intCast_sub]
    exact Rat.intCast_le_intCast.mpr (tS_le R hs hi hj e)
theorem fine_pos (R : Nar n Z) (hn : 0 < n) {s : Int} (hs : (n : Int) ≤ s) : PosAll n (nrw n (fineM s Z)) := pos_R (vS_val R hn hs) (fine_lies R hs)
/-- the least times in small parts -/
noncomputable def tF (n : Nat) (s : Int) (Z : Mx) (i : Nat) : Int := xS (nrw n (fineM s Z)) i
theorem tF_nar (R : Nar n Z) (hn : 0 < n) {s : Int} (hs : (n : Int) ≤ s) : Nar n (nrw n (fineM s Z)) := Nar.of_nrw (fine_pos R hn hs)
theorem tF_le (R : Nar n Z) (hn : 0 < n) {s : Int} (hs : (n : Int) ≤ s) {i j : Nat} (hi : i < n) (hj : j < n) {b : Int} (e : Z i j = some b) : tF n s Z i - tF n s Z j ≤ b / 2 * s - (if b % 2 = 0 then 1 else 0) := by
  have R2 := tF_nar R hn hs
  have le := nrw_le n (fineM s Z) i j
  unfold fineM at le
  rw [e] at le
  cases ex : nrw n (fun i j => fineO s (Z i j)) i j with
  | none => rw [ex] at le; exact le.elim
  | some x =>
    rw [ex] at le
    have le : x ≤ 2 * (b / 2 * s - (if b % 2 = 0 then 1 else 0)) + 1 := le
    have := xS_le R2 hi hj ex
    unfold tF
    omega
/-- they come to no more than others -/
theorem tF_least (R : Nar n Z) (hn : 0 < n) {s : Int} (hs : (n : Int) ≤ s) {i : Nat} (hi : i < n) : tF n s Z i ≤ tS n s Z i := by
  have k := (nrw_R (vS_val R hn hs)).mpr (fine_lies R hs) 0 i (by omega) hi
  have R2 := tF_nar R hn hs
  obtain ⟨b, e, _⟩ := row_some R2 hi
  rw [e] at k
  unfold vS at k
  rw [if_pos (by omega), if_pos hi, tS_zero R hn] at k
  have k : ((0 : Int) : Rat) - (tS n s Z i : Rat) ≤ ((b / 2 : Int) : Rat) := by
    rcases k with h | ⟨h, _⟩
    · exact Rat.le_of_lt h
    · rw [h]; exact Rat.le_refl
  rw [← Rat.intCast_sub] at k
  have k := Rat.intCast_le_intCast.mp k
  unfold tF xS
  rw [e]
  show -(b / 2) ≤ _
  omega
theorem tF_zero (R : Nar n Z) (hn : 0 < n) {s : Int} (hs : (n : Int) ≤ s) : tF n s Z 0 = 0 := xS_zero (tF_nar R hn hs) hn
theorem tF_nn (R : Nar n Z) (hn : 0 < n) {s : Int} (hs : (n : Int) ≤ s) {i : Nat} (hi : i < n) : 0 ≤ tF n s Z i := xS_nn (tF_nar R hn hs) hi
/-- in whole units they are good times -/
theorem tF_lies (R : Nar n Z) (hn : 0 < n) {s : Int} (hs : (n : Int) ≤ s) : LiesR n Z fun i => rq (tF n s Z i, s) := fun i j hi hj => by
  cases e : Z i j with
  | none => exact trivial
  | some b =>
    have h := tF_le R hn hs hi hj e
    have s0 : 0 < s := by omega
    have e1 : rq (tF n s Z i, s) - rq (tF n s Z j, s) = rq (tF n s Z i - tF n s Z j, s) := by
      unfold rq
      show (tF n s Z i : Rat) / s - (tF n s Z j : Rat) / s = ((tF n s Z i - tF n s Z j : Int) : Rat) / s
      rw [Rat.intCast_sub]; grind
    show letsR (some b) (rq (tF n s Z i, s) - rq (tF n s Z j, s))
    rw [e1]
    refine (lets_rat s0).mp (decide_eq_true ?_)
    split at h <;> omega
end
def spNumber_of : Sp := fun vs H Q _ => ∃ b : Int, vs = [.int b] ∧ Q (.int (b / 2)) H
theorem ok_number_of (T : Top K mg) : FnOk P w K mg base CX0 1 T.f_number_of T.d_number_of ["bound"] spNumber_of := by
  refine T.F_number_of.ok sc_number_of (fun vs H Q E h => ?_) (fun cdv A outer s H vs Q E hr h => ?_)
  · obtain ⟨b, rfl, _⟩ := h; rfl
  · obtain ⟨b, rfl, q⟩ := h
    refine ⟨_, (pss_one (ps_ret (pe_op op_shr (pv 0) pe_int))), ?_⟩
    walk_at "rd"
    exact q
def spIs_open : Sp := fun vs H Q _ => ∃ b : Int, vs = [.int b] ∧ Q (.bl (decide (b % 2 = 0))) H
theorem ok_is_open (T : Top K mg) : FnOk P w K mg base CX0 1 T.f_is_open T.d_is_open ["bound"] spIs_open := by
  refine T.F_is_open.ok sc_is_open (fun vs H Q E h => ?_) (fun cdv A outer s H vs Q E hr h => ?_)
  · obtain ⟨b, rfl, _⟩ := h; rfl
  · obtain ⟨b, rfl, q⟩ := h
    refine ⟨_, (pss_one (ps_ret (pe_cmpR op_eq (pe_op op_and (pv 0) pe_int) pe_int (nomark _)))), ?_⟩
    walk_at "rd"
    rw [bitAnd_m1]; exact q
def spDiv_divisor (K : PySem.W.Frag) : Sp := fun vs H Q _ => ∃ a b : Int, vs = [.int a, .int b] ∧ Q (.int (Int.gcd a b)) H
theorem ok_divisor (T : Top K mg) : FnOk P w K mg base CX0 1 T.f_divisor T.d_divisor ["one", "other"] (spDiv_divisor K) := by
  refine T.F_divisor.ok sc_divisor (fun vs H Q E h => ?_) (fun cdv A outer s H vs Q E hr h => ?_)
  · obtain ⟨a, b, rfl, _⟩ := h; rfl
  · obtain ⟨a, b, rfl, q⟩ := h
    refine ⟨_, (pss_cons (ps_while PassesOwn.never (pt_cmpR op_ne (pv 1) pe_int (nomark _)) (pss_one (ps_par (i := 0) (j := 1) (by rfl) sc_divisor.nd rfl rfl (by decide) rfl rfl (pa_cons (pv 1) (pa_cons (pe_op op_modN (pv 0) (pv 1)) pa_nil)) (by rfl))))
      (pss_one (ps_ret (pe_callB call_abs (by rfl) T.m_abs (by decide +kernel) (pa_cons (pv 0) pa_nil))))), ?_⟩
    refine seq_step ?_
    refine while_by (fun σ H' => H' = H ∧ ∃ x y : Int, σ = [some (.int x), some (.int y)] ∧ Int.gcd x y = Int.gcd a b) (fun σ _ => match σ with | [_, some (.int y)] => y.natAbs | _ => 0) ⟨rfl, a, b, rfl, rfl⟩ ?_ ?_
    · rintro σ H' ⟨rfl, x, y, rfl, hg⟩
      walk_at "rd"
      by_cases c : y = 0
      · subst c
        rw [decide_eq_true rfl, Bool.not_true, if_neg Bool.false_ne_true]
        have e : (if x < 0 then -x else x) = ((Int.gcd a b : Nat) : Int) := by
          rw [← hg, Int.gcd_zero_right]; split <;> omega
        rw [e]; exact q
      · rw [decide_eq_false c, Bool.not_false, if_pos rfl]
        exact ⟨c, by rw [fmod_gcd, hg], fmod_lt x y c⟩
    · rintro σ H Q Q' m ⟨v, hv, hs, k, hk, q⟩
      exact ⟨v, hv, hs, k, hk, m _ _ q⟩
def spFraction (C : Addr) (K : PySem.W.Frag) : Sp := fun vs H Q E => (∃ a b : Int, vs = [.int a, .int b] ∧ b ≠ 0 ∧ Sz 8000 b ∧ RedT a b H Q) ∨
  (∃ (x y : V) (t u : String), vs = [x, y] ∧ TyX K H x (.type t) ∧ TyX K H y (.type u) ∧ t ∈ kinds ∧ u ∈ kinds ∧ (t ≠ "int" ∨ u ≠ "int" ∨ y = .int 0) ∧ E (.ref C) none H)
theorem ok_fraction (T : Top K mg) : FnOk P w K mg base (L2.CX P w) 2 T.f_fraction T.d_fraction ["top", "bottom"] (spFraction T.C_NoNumber K) := by
  refine T.F_fraction.ok sc_fraction (fun vs H Q E h => ?_) (fun cdv A outer s H vs Q E hr h => ?_)
  · rcases h with ⟨a, b, rfl, _⟩ | ⟨a, b, _, _, rfl, _⟩ <;> rfl
  · refine ⟨_, (pss_cons (ps_if (PW.pt (pw_or (pt_not (pt_val (pe_call (ok_is_whole T) (hr.mono (by decide)) rfl T.g_is_whole T.F_is_whole.kp T.b_is_whole .nil pass0 (pa_cons (pv 0) pa_nil)))) (pw_or (pt_not (pt_val (pe_call (ok_is_whole T) (hr.mono (by decide)) rfl T.g_is_whole T.F_is_whole.kp T.b_is_whole .nil pass0 (pa_cons (pv 1) pa_nil)))) (pw_or1 (pt_cmpR op_eq (pv 1) pe_int (nomark _)))))) (pss_one (ps_raise rfl (takes_of rfl rfl rfl rfl) (pmk_own PySem.F.excBase_ValueError T.x_NoNumber T.g_NoNumber T.k_NoNumber (raises_own T.b_NoNumber T.t_NoNumber) rfl))) pss_nil)
      (pss_cons (ps_set (i := 2) sc_fraction.nd rfl (.inl rfl) (pe_call (ok_divisor T) (hr.mono (by decide)) rfl T.g_divisor T.F_divisor.kp T.b_divisor .nil pass0 (pa_cons (pv 0) (pa_cons (pv 1) pa_nil))))
      (pss_cons (ps_if (pt_cmpR op_lt (pv 1) pe_int (nomark _)) (pss_one (ps_set (i := 2) sc_fraction.nd rfl (.inl rfl) (pe_op op_sub pe_int (pv 2)))) pss_nil)
      (pss_one (ps_ret (pe_tupN (pa_cons (pe_op op_fdivZ (pv 0) (pv 2)) (pa_cons (pe_op op_fdivZ (pv 1) (pv 2)) pa_nil)))))))), ?_⟩
    rcases h with ⟨a, b, rfl, hb, hz, q⟩ | ⟨x, y, t, u, rfl, hx, hy, ht, hu, hbad, e⟩
    · refine seq_step ?_
      walk_at "rd"
      refine ⟨_, "int", rfl, .base (.int _), by decide, ?_⟩
      walk_at "rd"
      refine ⟨_, "int", rfl, .base (.int _), by decide, ?_⟩
      walk_at "rd"
      rw [decide_eq_false hb, if_neg Bool.false_ne_true]
      refine seq_step ?_
      walk_at "rd"
      refine ⟨a, b, rfl, ?_⟩
      walk_at "rd"
      have g := gcd_pos_right (a := a) hb
      have gs := gcd_le_size (a := a) hb
      refine seq_step ?_
      walk_at "rd"
      refine ite_d (fun c => ?_) (fun c => ?_)
      · have d : DivOk (0 - ((Int.gcd a b : Nat) : Int)) := .of (by omega) (Sz.le (j := b) (by omega) hz) (by omega)
        exact ⟨d, d, fun p H2 s2 _ e2 => q _ _ p H2 (red_neg c) s2 e2⟩
      · have d : DivOk ((Int.gcd a b : Nat) : Int) := .of (by omega) (Sz.le (by omega) hz) (by omega)
        exact ⟨d, d, fun p H2 s2 _ e2 => q _ _ p H2 ((low_of hb).red (by omega)) s2 e2⟩
    · refine seq_step ?_
      walk_at "rd"
      refine ⟨_, t, rfl, hx, ht, ?_⟩
      walk_at "rd"
      by_cases c : t = "int"
      · rw [decide_eq_true c]
        walk_at "rd"
        refine ⟨_, u, rfl, hy, hu, ?_⟩
        walk_at "rd"
        by_cases c2 : u = "int"
        · rw [decide_eq_true c2]
          walk_at "rd"
          obtain rfl : y = .int 0 := by
            rcases hbad with z | z | z
            · exact absurd c z
            · exact absurd c2 z
            · exact z
          walk_at "rd"
          exact e
        · rw [decide_eq_false c2]
          walk_at "rd"
          exact e
      · rw [decide_eq_false c]
        walk_at "rd"
        exact e
theorem frac_ok {C : Addr} {K : PySem.W.Frag} {a b : Int} {H : Hp} {Q : VK} {E : XK} (hb : b ≠ 0) (hz : Sz 8000 b) (q : RedT a b H Q) : spFraction C K [.int a, .int b] H Q E := .inl ⟨a, b, rfl, hb, hz, q⟩
def spMinus (K : PySem.W.Frag) : Sp := fun vs H Q _ => ∃ (a b c d : Int) (p1 p2 : Addr), vs = [.ref p1, .ref p2] ∧ H p1 = some (.tup [.int a, .int b]) ∧ H p2 = some (.tup [.int c, .int d]) ∧ 0 < b ∧ 0 < d ∧ Sz 3900 a ∧ Sz 3900 b ∧ Sz 3900 c ∧ Sz 3900 d ∧ RedT (a * d - c * b) (b * d) H Q
theorem ok_minus (T : Top K mg) : FnOk P w K mg base CX0 3 T.f_minus T.d_minus ["one", "other"] (spMinus K) := by
  refine T.F_minus.ok sc_minus (fun vs H Q E h => ?_) (fun cdv A outer s H vs Q E hr h => ?_)
  · obtain ⟨a, b, c, d, p1, p2, rfl, _⟩ := h; rfl
  · obtain ⟨a, b, c, d, p1, p2, rfl, h1, h2, hb, hd, sa, sb, sc, sd, q⟩ := h
    refine ⟨_, (pss_one (ps_ret (pe_call (ok_fraction T) (hr.mono (by decide)) rfl T.g_fraction T.F_fraction.kp T.b_fraction .nil passL (pa_cons (pe_op op_sub (pe_op op_mulW (pe_ix (ix_tupA (K := K) rfl) (pv 0) pe_int (fun _ _ => rfl)) (pe_ix (ix_tupA (K := K) rfl) (pv 1) pe_int (fun _ _ => rfl))) (pe_op op_mulW (pe_ix (ix_tupA (K := K) rfl) (pv 1) pe_int (fun _ _ => rfl)) (pe_ix (ix_tupA (K := K) rfl) (pv 0) pe_int (fun _ _ => rfl)))) (pa_cons (pe_op op_mulW (pe_ix (ix_tupA (K := K) rfl) (pv 0) pe_int (fun _ _ => rfl)) (pe_ix (ix_tupA (K := K) rfl) (pv 1) pe_int (fun _ _ => rfl))) pa_nil))))), ?_⟩
    walk_at "ix"
    walk_at "ix"
    walk_at "rd"
    refine ⟨sa.mulW sd (by omega), ?_⟩
    walk_at "ix"
    walk_at "ix"
    walk_at "rd"
    refine ⟨sc.mulW sb (by omega), ?_⟩
    walk_at "ix"
    walk_at "ix"
    walk_at "rd"
    exact ⟨sb.mulW sd (by omega), frac_ok (Int.ne_of_gt (Int.mul_pos hb hd)) (sb.mul sd (by omega)) q⟩
/-- a pair of numbers on the heap -/
def PrR (H : Hp) (q : Addr) (w : Int × Int) : Prop := H q = some (.tup [.int w.1, .int w.2])
theorem PrR.keep : ∀ (H H' : Hp) (q : Addr) (w : Int × Int), Same H H' → PrR H q w → PrR H' q w := fun _ _ _ _ s h => s _ _ h
instance : Kp2 PrR := ⟨PrR.keep⟩
theorem va_seq {H : Hp} {p : Addr} {xs : List (Int × Int)} : VAt H p xs ↔ SeqOf PrR H p xs := Iff.rfl
/-- a new zone, its rows made from another's -/
theorem lcG_rows {K : PySem.W.Frag} {H : Hp} {p : Addr} {as : List Addr} {n : Nat} {M N : Mx} {g : TG} {te : TE} {vs : List Nat} {σ : L2.St} {Q : VK} (z : ZAt H p as n M) (hn : n ≤ 60)
    (ht : ∀ (j : Nat) (r : Addr) (H2 : Hp) (Yes : VK), j < n → Same H H2 → H2 r = some (.lst (zrow n (M j))) → (∀ l H5, Same H2 H5 → H2 l = none → H5 l = some (.lst (zrow n (N j))) → Yes (.ref l) H5) → g (.ref r) (wipe σ vs) H2 fun σ2 H3 => wipe σ2 vs = wipe σ vs ∧ te σ2 H3 Yes)
    (q : ∀ D as' H', Same H H' → ZAt H' D as' n N → H D = none → (∀ a ∈ as', H a = none) → Q (.ref D) H') :
    LcG K p g tYes te vs σ H Q := fun D hD => by
  refine lc_list (K := K) (a := p) (xs := as.map V.ref) (fun i H' => ∃ as' : List Addr, Same H H' ∧ H' D = some (.lst (as'.map V.ref)) ∧ as'.length = i ∧ as'.Nodup ∧ (∀ a ∈ as', H a = none ∧ a ≠ D) ∧ ∀ (j : Nat) (a : Addr), as'[j]? = some a → H' a = some (.lst (zrow n (N j))))
    ⟨[], upd_keep hD, upd_same, rfl, List.nodup_nil, (fun a h => by cases h), (fun j a h => by cases h)⟩ (fun i H' _ ⟨_, sm, _⟩ => .of (sm _ _ z.top)) ?_ ?_
  · rintro i x H' hi ⟨as', sm, eD, hl, nd, hf, hr⟩
    have hin : i < n := by
      have := (List.getElem?_eq_some_iff.mp hi).1
      rw [List.length_map, z.len] at this; exact this
    obtain ⟨r, er, er2, hr1⟩ := z.get hin
    obtain rfl : x = .ref r := Option.some.inj (hi.symm.trans er2)
    have := ht i r H' (fun y H4 => ∃ acc, H4 D = some (.lst acc) ∧ acc.length < sizeLine ∧ ∃ as' : List Addr, Same H (upd H4 D (.lst (acc ++ [y]))) ∧ (upd H4 D (.lst (acc ++ [y]))) D = some (.lst (as'.map V.ref)) ∧ as'.length = i + 1 ∧ as'.Nodup ∧ (∀ a ∈ as', H a = none ∧ a ≠ D) ∧ ∀ (j : Nat) (a : Addr), as'[j]? = some a → (upd H4 D (.lst (acc ++ [y]))) a = some (.lst (zrow n (N j)))) hin sm (sm _ _ hr1) (fun l H2 s2 fl e2 => ?_)
    · simpa only [tYes, if_true] using this
    have nD : l ≠ D := fun e => by rw [e, eD] at fl; cases fl
    have nl : l ∉ as' := fun hm => by
      obtain ⟨j, hj, e⟩ := List.mem_iff_getElem.mp hm
      have := hr j l (by rw [List.getElem?_eq_getElem hj, e])
      rw [fl] at this; cases this
    refine ⟨as'.map V.ref, s2 _ _ eD, by rw [List.length_map, hl]; exact small1000 (by omega), as' ++ [l], same_updN hD (sm.trans s2), ?_, by simp [hl], ?_, ?_, ?_⟩
    · rw [upd_same, List.map_append]; rfl
    · rw [List.nodup_append]
      refine ⟨nd, by simp, fun a ha b hb e => ?_⟩
      have : b = l := by simpa using hb
      exact nl (by rw [← this, ← e]; exact ha)
    · intro a ha
      rcases List.mem_append.mp ha with h | h
      · exact hf a h
      · have : a = l := by simpa using h
        subst this
        exact ⟨sm.free fl, nD⟩
    · intro j a hj
      by_cases c1 : j < as'.length
      · rw [List.getElem?_append_left c1] at hj
        rw [upd_ne (hf a (List.mem_of_getElem? hj)).2]
        exact s2 _ _ (hr j a hj)
      · have hlt := (List.getElem?_eq_some_iff.mp hj).1
        rw [List.length_append, List.length_singleton] at hlt
        obtain rfl : j = as'.length := by omega
        rw [List.getElem?_append_right (Nat.le_refl _), Nat.sub_self] at hj
        have : l = a := by simpa using hj
        subst this
        rw [upd_ne nD, hl]
        exact e2
  · rintro H' ⟨as', sm, eD, hl, nd, hf, hr⟩
    rw [List.length_map, z.len] at hl
    exact q D as' H' sm ⟨eD, hl, hr, nd⟩ hD fun a ha => (hf a ha).1
def spFine : Sp := fun vs H Q _ => ∃ (x : Option Int) (s : Int), vs = [oV x, .int s] ∧ (∀ b, x = some b → Sz 600 b) ∧ Sz 70 s ∧ Q (oV (fineO s x)) H
theorem ok_fine (T : Top K mg) : FnOk P w K mg base CX0 2 T.f_fine T.d_fine ["bound", "scale"] spFine := by
  refine T.F_fine.ok sc_fine (fun vs H Q E h => ?_) (fun cdv A outer s H vs Q E hr h => ?_)
  · obtain ⟨x, sc, rfl, _⟩ := h; rfl
  · obtain ⟨x, sc, rfl, hx, hs, q⟩ := h
    refine ⟨_, (pss_cons (ps_if (pt_cmpR op_isN (pv 0) pe_non (nomark _)) (pss_one (ps_ret pe_non)) pss_nil)
      (pss_cons (ps_if (pt_val (pe_call (ok_is_open T) (hr.mono (by decide)) rfl T.g_is_open T.F_is_open.kp T.b_is_open .nil pass0 (pa_cons (pv 0) pa_nil))) (pss_one (ps_ret (pe_call (ok_at_most T) (hr.mono (by decide)) rfl T.g_at_most T.F_at_most.kp T.b_at_most .nil pass0 (pa_cons (pe_op op_sub (pe_op op_mulW (pe_call (ok_number_of T) (hr.mono (by decide)) rfl T.g_number_of T.F_number_of.kp T.b_number_of .nil pass0 (pa_cons (pv 0) pa_nil)) (pv 1)) pe_int) pa_nil)))) pss_nil)
      (pss_one (ps_ret (pe_call (ok_at_most T) (hr.mono (by decide)) rfl T.g_at_most T.F_at_most.kp T.b_at_most .nil pass0 (pa_cons (pe_op op_mulW (pe_call (ok_number_of T) (hr.mono (by decide)) rfl T.g_number_of T.F_number_of.kp T.b_number_of .nil pass0 (pa_cons (pv 0) pa_nil)) (pv 1)) pa_nil)))))), ?_⟩
    refine seq_step ?_
    cases x with
    | none =>
      simp only [oV_none]
      walk_at "rd"
      exact q
    | some b =>
      have sb := hx b rfl
      simp only [oV_some]
      walk_at "rd"
      have s1 : Sz 600 (b / 2) := Sz.le (by omega) sb
      have m1 := s1.mul hs (show 600 + 70 ≤ 670 by decide)
      refine seq_step ?_
      walk_at "rd"
      have cm : CMulW (b / 2) sc := Sz.mulW s1 hs (by decide)
      refine ⟨b, rfl, _, rfl, ite_d (fun c => ?_) (fun c => ?_)⟩
      · refine ⟨b, rfl, _, rfl, cm, _, rfl, ?_, ?_⟩
        · exact (Sz.add (i := b / 2 * sc) (j := -1) m1 ((show Sz 1 (-1) by unfold Sz; decide).mono (show 1 ≤ 670 by decide)) (show 670 + 1 ≤ 671 by decide) (by decide)).mono (by decide)
        · have e : fineO sc (some b) = some (2 * (b / 2 * sc - 1) + 1) := by
            show some _ = _
            rw [if_pos c]
          rw [e] at q; exact q
      · refine ⟨b, rfl, _, rfl, cm, _, rfl, m1.mono (by decide), ?_⟩
        have e : fineO sc (some b) = some (2 * (b / 2 * sc) + 1) := by
          show some _ = _
          rw [if_neg c, Int.sub_zero]
        rw [e] at q; exact q
theorem fineM_sz {Z : Mx} {s : Int} (h : SzM 600 Z) (hs : Sz 70 s) : SzM 680 (fineM s Z) := fun i j v e => by
  unfold fineM at e
  cases ez : Z i j with
  | none => rw [ez] at e; cases e
  | some b =>
    rw [ez] at e
    have e : some (2 * (b / 2 * s - (if b % 2 = 0 then 1 else 0)) + 1) = some v := e
    cases e
    have s1 : Sz 600 (b / 2) := Sz.le (by omega) (h _ _ _ ez)
    have m1 := s1.mul hs (show 600 + 70 ≤ 670 by decide)
    have one : Sz 670 1 := (show Sz 1 1 by unfold Sz; decide).mono (by decide)
    have s2 : Sz 671 (b / 2 * s - (if b % 2 = 0 then 1 else 0)) := by
      split
      · exact Sz.add m1 (show Sz 670 (-1) by exact Sz.le (by omega) one) (by decide) (by decide)
      · exact (Sz.add m1 (show Sz 670 0 by exact Sz.le (by omega) one) (by decide) (by decide))
    have s3 := (show Sz 2 2 by unfold Sz; decide).mul s2 (show 2 + 671 ≤ 673 by decide)
    exact (Sz.add s3 (one.mono (show 670 ≤ 673 by decide)) (show 673 + 1 ≤ 674 by decide) (by decide)).mono (by decide)
noncomputable def timesF (n : Nat) (s : Int) (Z : Mx) : List (Int × Int) := (List.range n).map fun i => frOf (rq (tF n s Z i, s))
def spLeast (K : PySem.W.Frag) : Sp := fun vs H Q _ => ∃ (p : Addr) (as : List Addr) (n : Nat) (Z : Mx) (s : Int), vs = [.ref p, .int s] ∧ ZAt H p as n Z ∧ Nar n Z ∧ 1 ≤ n ∧ n ≤ 14 ∧ SzM 600 Z ∧ (n : Int) ≤ s ∧ Sz 70 s ∧ ∀ q H', Same H H' → SeqOf PrR H' q (timesF n s Z) → Q (.ref q) H'
theorem ok_least_times (T : Top K mg) : FnOk P w K mg base CX0 5 T.f_least_times T.d_least_times ["zone", "scale"] (spLeast K) := by
  refine T.F_least_times.ok sc_least_times (fun vs H Q E h => ?_) (fun cdv A outer s H vs Q E hr h => ?_)
  · obtain ⟨p, as, n, Z, sc, rfl, _⟩ := h; rfl
  · obtain ⟨p, as, n, Z, sc, rfl, z, R, n1, n14, sZ, ns, ss, q⟩ := h
    refine ⟨_, (pss_cons (ps_set (i := 2) sc_least_times.nd rfl (.inl rfl) (pe_call (ok_narrowest T) (hr.mono (by decide)) rfl T.g_narrowest T.F_narrowest.kp T.b_narrowest .nil pass0 (pa_cons (lc_vs (vs := [4]) (pe_lc (own := [("row", 4)]) (g := gName 4) (tt := tYes) rfl sc_least_times.nd (pi_listA (K := K) rfl (pv 0)) (blkOk_by (own := [("row", 4)]) (N := ["zone", "scale", "rows", "bound", "row"]) (sc := defScope s_least_times) (by decide +kernel)) (fun _ _ _ _ _ => (pg_name (i := 4) sc_least_times.nd rfl (.inl rfl))) (fun _ _ _ _ _ => pts_nil) (fun _ _ _ _ _ => (lc_vs (vs := [3]) (pe_lc (own := [("bound", 3)]) (g := gName 3) (tt := tYes) rfl sc_least_times.nd (pi_listA (K := K) rfl (pv 4)) (blkOk_by (own := [("bound", 3)]) (N := ["zone", "scale", "rows", "bound", "row"]) (sc := _) (by kernel_rfl)) (fun _ _ _ _ _ => (pg_name (i := 3) sc_least_times.nd rfl (.inl rfl))) (fun _ _ _ _ _ => pts_nil) (fun _ _ _ _ _ => (pe_call (ok_fine T) (hr.mono (by decide)) rfl T.g_fine T.F_fine.kp T.b_fine .nil pass0 (pa_cons (pv 3) (pa_cons (pv 1) pa_nil))))) rfl))) rfl) pa_nil)))
      (pss_one (ps_ret (lc_vs (vs := [3]) (pe_lc (own := [("bound", 3)]) (g := gName 3) (tt := tYes) rfl sc_least_times.nd (pi_listA (K := K) rfl (pe_ix (ix_listA (K := K) rfl) (pv 2) pe_int (fun _ _ => rfl))) (blkOk_by (own := [("bound", 3)]) (N := ["zone", "scale", "rows", "bound", "row"]) (sc := defScope s_least_times) (by decide +kernel)) (fun _ _ _ _ _ => (pg_name (i := 3) sc_least_times.nd rfl (.inl rfl))) (fun _ _ _ _ _ => pts_nil) (fun _ _ _ _ _ => (pe_call (ok_fraction T) (hr.mono (by decide)) rfl T.g_fraction T.F_fraction.kp T.b_fraction .nil passL (pa_cons (pe_op op_sub pe_int (pe_call (ok_number_of T) (hr.mono (by decide)) rfl T.g_number_of T.F_number_of.kp T.b_number_of .nil pass0 (pa_cons (pv 3) pa_nil))) (pa_cons (pv 1) pa_nil))))) rfl)))), ?_⟩
    refine seq_step ?_
    walk_at "rd"
    refine lcg_src ?_
    walk_at "rd"
    refine ⟨⟨_, .of z.top⟩, ?_⟩
    refine lcG_rows (N := fineM sc Z) z (by omega) (fun j r H2 Yes hj s2 hr hy => ?_) (fun D as' H2 s2 z2 fD fas => ?_)
    · walk_at "rd"
      refine lcg_src ?_
      walk_at "rd"
      refine ⟨⟨_, .of hr⟩, ?_⟩
      refine lcF (F := fun k => oV (fineM sc Z j k)) (zs := List.range n) hr (by rw [zrow_len, List.length_range]) (by rw [zrow_len]; omega) (fun k x z' H4 Yes hx hz s4 hy => ?_) (fun D H4 s4 f4 e4 => ?_)
      · have hk : k < n := by
          have := (List.getElem?_eq_some_iff.mp hx).1
          rwa [zrow_len] at this
        rw [zrow_get _ hk] at hx
        obtain rfl := Option.some.inj hx
        rw [List.getElem?_range hk] at hz
        obtain rfl := Option.some.inj hz
        walk_at "rd"
        exact ⟨Z j k, sc, rfl, fun b e => sZ _ _ _ e, ss, hy _ (Same.refl _)⟩
      · exact hy D H4 s4 f4 e4
    walk_at "rd"
    have P := fine_pos R (by omega) ns
    have fsz := fineM_sz sZ ss
    have n3 : 2 * n * n * n ≤ 2 * 14 * 14 * 14 := Nat.mul_le_mul (Nat.mul_le_mul (Nat.mul_le_mul (Nat.le_refl _) n14) n14) n14
    refine ⟨D, as', n, fineM sc Z, 680, rfl, z2, by omega, by decide, fsz, by omega, fun ⟨i, d, hi, ed, h1⟩ => ?_, fun _ p' as2 H3 s3 z3 _ _ => ?_⟩
    · obtain ⟨d', e', h'⟩ := pos_get hi (P i hi)
      rw [ed] at e'; cases e'; omega
    have R2 := tF_nar R (by omega) ns
    have xsz : SzM 1000 (nrw n (fineM sc Z)) := (nrw_szT P (by decide) fsz).mono (by omega)
    refine lcg_src ?_
    walk_at "rd"
    refine ix_top z3 (Nat.lt_of_lt_of_le Nat.zero_lt_one n1) fun r er hr1 => ?_
    refine ⟨r, rfl, ⟨_, .of hr1⟩, ?_⟩
    refine lcMD (R := PrR) PrR.keep (F := fun i => frOf (rq (tF n sc Z i, sc))) (zs := List.range n) hr1 (by rw [zrow_len, List.length_range]) (by rw [zrow_len]; omega) (fun k x z' H4 Yes hx hz s4 hy => ?_) (fun D4 H4 s4 f4 hv => ?_)
    · have hk : k < n := by
        have := (List.getElem?_eq_some_iff.mp hx).1
        rwa [zrow_len] at this
      rw [zrow_get _ hk] at hx
      obtain rfl := Option.some.inj hx
      rw [List.getElem?_range hk] at hz
      obtain rfl := Option.some.inj hz
      obtain ⟨b, eb, _⟩ := row_some R2 hk
      rw [eb]
      simp only [oV_some]
      walk_at "rd"
      have et : tF n sc Z k = 0 - b / 2 := by
        unfold tF xS; rw [eb]
        show -(b / 2) = _
        omega
      refine ⟨b, rfl, _, rfl, .inl ⟨_, sc, rfl, by omega, ss.mono (by decide), fun t u p4 H5 red s5 e5 => ?_⟩⟩
      have rr := red_rat (show 0 < sc by omega) red
      rw [← et] at rr
      refine hy p4 H5 s5 fun D acc fD eD => ?_
      rw [← rr.1, ← rr.2] at e5
      exact del_at (ne_of e5 (s5 _ _ eD) (by intro z; cases z)) e5
    · exact q D4 H4 (s2.trans (s3.trans s4)) (hv.seq PrR.keep)
theorem tF_sz {n : Nat} {s : Int} {Z : Mx} (R : Nar n Z) (hn : 0 < n) (hs : (n : Int) ≤ s) (sZ : SzM 600 Z) (ss : Sz 70 s) {i : Nat} (hi : i < n) : Sz (680 + 2 * n) (tF n s Z i) := by
  obtain ⟨b, e, _⟩ := row_some (tF_nar R hn hs) hi
  have k := nrw_szT (fine_pos R hn hs) (by decide) (fineM_sz sZ ss) _ _ _ e
  have : tF n s Z i = -(b / 2) := by unfold tF xS; rw [e]; rfl
  rw [this]
  exact Sz.le (by omega) k
theorem frS_sz {a s : Int} {B C : Nat} (ha : Sz B a) (s0 : 0 < s) (hs : Sz C s) : Sz B (rq (a, s)).num ∧ Sz C ((rq (a, s)).den : Int) := by
  have R := (low_of (a := a) (b := s) (by omega)).red s0
  have k := red_rat s0 R
  rw [k.1, k.2]
  exact ⟨Sz.le R.tle ha, Sz.le R.ule hs⟩
noncomputable def stepsF (road : List Int) (n : Nat) (s : Int) (Z : Mx) : List StepD := (List.range (road.length + 1)).map fun i => (frOf (rq (tF n s Z (i + 1), s) - rq (tF n s Z i, s)), (road[i]?).map Int.toNat)
def spSteps_of (K : PySem.W.Frag) : Sp := fun vs H Q _ => ∃ (pr pt : Addr) (road : List Int) (n : Nat) (Z : Mx) (s : Int), vs = [.ref pr, .ref pt] ∧ SqL K H pr (road.map V.int) ∧ (∀ k ∈ road, 0 ≤ k) ∧ n = road.length + 2 ∧ n ≤ 14 ∧ SeqOf PrR H pt (timesF n s Z) ∧ (∀ i, i < n → Sz 1000 (tF n s Z i)) ∧ 0 < s ∧ Sz 70 s ∧ ∀ q H', Same H H' → SeqOf StAt H' q (stepsF road n s Z) → Q (.ref q) H'
theorem ok_steps_of (T : Top K mg) : FnOk P w K mg base CX0 4 T.f_steps_of T.d_steps_of ["road", "times"] (spSteps_of K) := by
  refine T.F_steps_of.ok sc_steps_of (fun vs H Q E h => ?_) (fun cdv A outer s H vs Q E hr h => ?_)
  · obtain ⟨pr, pt, road, n, Z, sc, rfl, _⟩ := h; rfl
  · obtain ⟨pr, pt, road, n, Z, sc, rfl, hroad, rnn, hn, n14, ht, tsz, s0, ss, q⟩ := h
    refine ⟨_, (pss_cons (ps_set (i := 2) sc_steps_of.nd rfl (.inr rfl) (pe_op op_catN (pe_callTy (call_listA (K := K) rfl) (by rfl) T.m_list (by decide +kernel) (pa_cons (pv 0) pa_nil)) (pe_lstN (pa_cons pe_non pa_nil))))
      (pss_one (ps_ret (lc_vs (vs := [3]) (pe_lc (own := [("k", 3)]) (g := gName 3) (tt := tYes) rfl sc_steps_of.nd (pi_range1 (by rfl) T.m_range (pa_cons (pe_callB call_len_seq (by rfl) T.m_len (by decide +kernel) (pa_cons (pv 2) pa_nil)) pa_nil)) (blkOk_by (own := [("k", 3)]) (N := ["road", "times", "doors", "k"]) (sc := defScope s_steps_of) (by decide +kernel)) (fun _ _ _ _ _ => (pg_name (i := 3) sc_steps_of.nd rfl (.inl rfl))) (fun _ _ _ _ _ => pts_nil) (fun _ _ _ _ _ => (pe_tupN (pa_cons (pe_call (ok_minus T) (hr.mono (by decide)) rfl T.g_minus T.F_minus.kp T.b_minus .nil pass0 (pa_cons (pe_ix (ix_listA (K := K) rfl) (pv 1) (pe_op op_add (pv 3) pe_int) (fun _ _ => rfl)) (pa_cons (pe_ix (ix_listA (K := K) rfl) (pv 1) (pv 3) (fun _ _ => rfl)) pa_nil))) (pa_cons (pe_ix (ix_listA (K := K) rfl) (pv 2) (pv 3) (fun _ _ => rfl)) pa_nil))))) rfl)))), ?_⟩
    refine seq_step ?_
    walk_at "rd"
    refine ⟨_, .inl hroad, fun pl H2 s2 f2 e2 pn H3 s3 f3 e3 => ?_⟩
    refine ⟨_, s3 _ _ e2, _, e3, Nat.le_of_lt (small1000 (by simp; omega)), fun pd H4 s4 f4 e4 => ?_⟩
    walk_at "rd"
    refine lcr_src ?_
    walk_at "rd"
    refine ⟨_, .inl (.of e4), ?_⟩
    rw [show (road.map V.int ++ [V.non]).length = road.length + 1 by simp]
    refine ⟨(rg_ok (by omega)).1, (rg_ok (by omega)).2, ?_⟩
    rw [Int.toNat_natCast]
    refine lcRP (R := StAt) (P := fun j x => x = (frOf (rq (tF n sc Z (j + 1), sc) - rq (tF n sc Z j, sc)), (road[j]?).map Int.toNat)) StAt.keep (by omega) (fun j H5 Yes hj s5 hy => ?_) (fun D H5 ys s5 f5 sd yl yp => ?_)
    · walk_at "rd"
      obtain ⟨tqs, t1, t2, t3⟩ := id ht
      have tl : (timesF n sc Z).length = n := by unfold timesF; rw [List.length_map, List.length_range]
      have tat : ∀ i, i < n → ∃ qi, (tqs.map V.ref)[i]? = some (.ref qi) ∧ H qi = some (.tup [.int (frOf (rq (tF n sc Z i, sc))).1, .int (frOf (rq (tF n sc Z i, sc))).2]) := fun i hi => by
        obtain ⟨qi, hq⟩ : ∃ qi, tqs[i]? = some qi := ⟨_, List.getElem?_eq_getElem (by omega)⟩
        refine ⟨qi, by rw [List.getElem?_map, hq]; rfl, t3 i qi _ hq ?_⟩
        unfold timesF
        rw [List.getElem?_map, List.getElem?_range hi]; rfl
      obtain ⟨qa, a1, a2⟩ := tat (j + 1) (by omega)
      obtain ⟨qb, b1, b2⟩ := tat j (by omega)
      have s05 := s2.trans (s3.trans (s4.trans s5))
      refine ix_l (.of (s05 _ _ t1)) (by omega) (by rw [show ((j : Int) + 1).toNat = j + 1 by omega]; exact a1) ?_
      refine ix_l (.of (s05 _ _ t1)) (by omega) (by rw [Int.toNat_natCast]; exact b1) ?_
      have sz := fun i (hi : i < n) => frS_sz (tsz i hi) s0 ss
      obtain ⟨za1, za2⟩ := sz (j + 1) (by omega)
      obtain ⟨zb1, zb2⟩ := sz j (by omega)
      refine ⟨_, _, _, _, qa, qb, rfl, s05 _ _ a2, s05 _ _ b2, den_pos _, den_pos _, za1.mono (by decide), za2.mono (by decide), zb1.mono (by decide), zb2.mono (by decide), fun t u pm H6 red s6 e6 => ?_⟩
      have rr := red_rat (Int.mul_pos (den_pos _) (den_pos _)) red
      have dd := rq_dif (x := frOf (rq (tF n sc Z (j + 1), sc))) (y := frOf (rq (tF n sc Z j, sc))) (den_pos _) (den_pos _)
      rw [rq_frOf, rq_frOf] at dd
      have dd' : rq ((frOf (rq (tF n sc Z (j + 1), sc))).1 * (frOf (rq (tF n sc Z j, sc))).2 - (frOf (rq (tF n sc Z j, sc))).1 * (frOf (rq (tF n sc Z (j + 1), sc))).2, (frOf (rq (tF n sc Z (j + 1), sc))).2 * (frOf (rq (tF n sc Z j, sc))).2) = rq (tF n sc Z (j + 1), sc) - rq (tF n sc Z j, sc) := dd
      have rr : (rq (tF n sc Z (j + 1), sc) - rq (tF n sc Z j, sc)).num = t ∧ ((rq (tF n sc Z (j + 1), sc) - rq (tF n sc Z j, sc)).den : Int) = u := by
        rw [← dd']; exact rr
      rw [← rr.1, ← rr.2] at e6
      have dat : (road.map V.int ++ [V.non])[j]? = some (frV ((road[j]?).map Int.toNat)) := by
        by_cases c : j < road.length
        · have hk := List.getElem?_eq_getElem c
          have k0 := rnn _ (List.mem_of_getElem? hk)
          generalize road[j] = k at *
          rw [List.getElem?_append_left (by rw [List.length_map]; exact c), List.getElem?_map, hk]
          show some (V.int k) = some (V.int ((k.toNat : Nat) : Int))
          rw [Int.toNat_of_nonneg k0]
        · have e : j = road.length := by omega
          subst e
          rw [List.getElem?_append_right (by rw [List.length_map]; exact Nat.le_refl _), List.length_map, Nat.sub_self, List.getElem?_eq_none (Nat.le_refl _)]
          rfl
      refine ix_l (.of (s6 _ _ (s5 _ _ e4))) (by omega) (by rw [Int.toNat_natCast]; exact dat) ?_
      intro ps H7 s7 f7 e7
      refine hy ps H7 _ (s6.trans s7) rfl fun D acc fD eD => ?_
      have nD : ∀ {b : Addr} {xs : List V}, H7 b = some (.tup xs) → b ≠ D := fun e1 => ne_of e1 ((s6.trans s7) _ _ eD) (by intro z; cases z)
      exact ⟨pm, del_at (nD e7) e7, del_at (nD (s7 _ _ e6)) (s7 _ _ e6)⟩
    · have eys : ys = stepsF road n sc Z := List.ext_getElem? fun j => by
        unfold stepsF
        by_cases hj : j < road.length + 1
        · have h1 := List.getElem?_eq_getElem (l := ys) (i := j) (by omega)
          rw [h1, yp j _ h1, List.getElem?_map, List.getElem?_range hj]; rfl
        · rw [List.getElem?_eq_none (by omega), List.getElem?_eq_none (by rw [List.length_map, List.length_range]; omega)]
      exact q D H5 (s2.trans (s3.trans (s4.trans s5))) (eys ▸ sd.seq StAt.keep)
def spSoonest (K : PySem.W.Frag) (CM CD CG CR : Addr) : Sp := fun vs H Q E => ∃ (pm pr : Addr) (gv : V) (M : MachD) (road : List Int), vs = [.ref pm, .ref pr, gv] ∧ MachAt CM CD H pm M ∧ MachOk M ∧ MSz M ∧ SqL K H pr (road.map V.int) ∧
  (((goRd M (room0 M) road = none ∨ 200 < road.length) ∧ ∀ H', Same H H' → E (.ref CR) none H') ∨
   (road.length ≤ 12 ∧ (∃ e, goRd M (room0 M) road = some e) ∧ NoGuard K H WORDS M.watches gv ∧ ∀ H', Same H H' → E (.ref CG) none H') ∨
   (∃ pg G, gv = .ref pg ∧ road.length ≤ 12 ∧ (∃ e, goRd M (room0 M) road = some e) ∧ LsAt H pg G ∧ G.length ≤ 60 ∧ guardOk WORDS M.watches G = true ∧ SzL G ∧
     (nrwO (road.length + 2) (roadM M road G) = none → ∀ H', Same H H' → Q .non H') ∧
     ∀ X, nrwO (road.length + 2) (roadM M road G) = some X → ∀ p H' b, Same H H' → X 0 (road.length + 1) = some b → H' p = some (.tup [.int (0 - b / 2), .bl (!decide (b % 2 = 0))]) → Q (.ref p) H'))
theorem ok_soonest (T : Top K mg) : FnOk P w K mg base (L2.CX P w) 7 T.f_soonest T.d_soonest ["machine", "road", "guard"] (spSoonest K T.C_Machine T.C_Door T.C_NoMark T.C_NoRoad) := by
  refine T.F_soonest.okX sc_soonest (fun vs H Q E h => ?_) (fun cdv A outer s H vs Q E hr h => ?_)
  · obtain ⟨pm, pr, gv, M, road, rfl, _⟩ := h; rfl
  · obtain ⟨pm, pr, gv, M, road, rfl, hm, mok, msz, hroad, h⟩ := h
    refine ⟨_, (pss_cons (ps_set (i := 3) sc_soonest.nd rfl (.inl rfl) (pe_call (ok_road_zone T) (hr.mono (by decide)) rfl T.g_road_zone T.F_road_zone.kp T.b_road_zone .nil (passes_call (takes_of rfl rfl rfl rfl) (fun _ _ _ _ z => z)) (pa_cons (pv 0) (pa_cons (pv 1) (pa_cons (pv 2) pa_nil)))))
      (pss_cons (ps_if (pt_cmpR op_isN (pv 3) pe_non (nomark _)) (pss_one (ps_ret pe_non)) pss_nil)
      (pss_cons (ps_set (i := 4) sc_soonest.nd rfl (.inl rfl) (pe_ix (ix_listA (K := K) rfl) (pe_ix (ix_listA (K := K) rfl) (pv 3) pe_int (fun _ _ => rfl)) (pe_un un_neg pe_int) (fun _ _ => rfl)))
      (pss_one (ps_ret (pe_tupN (pa_cons (pe_op op_sub pe_int (pe_call (ok_number_of T) (hr.mono (by decide)) rfl T.g_number_of T.F_number_of.kp T.b_number_of .nil pass0 (pa_cons (pv 4) pa_nil))) (pa_cons (pe_not (pe_call (ok_is_open T) (hr.mono (by decide)) rfl T.g_is_open T.F_is_open.kp T.b_is_open .nil pass0 (pa_cons (pv 4) pa_nil))) pa_nil)))))))), ?_⟩
    refine seq_step ?_
    walk_at "rd"
    refine ⟨pm, pr, gv, M, road, rfl, hm, mok, msz, hroad, ?_⟩
    rcases h with h | ⟨h12, hgo, hng, qe⟩ | ⟨pg, G, rfl, h12, hgo, hg, g60, gk, gsz, qn, qy⟩
    · exact .inl h
    · exact .inr (.inl ⟨by omega, hgo, hng, qe⟩)
    refine .inr (.inr ⟨pg, G, rfl, by omega, hgo, hg, g60, gk, gsz, fun en H1 s1 => ?_, fun X eX p as H1 s1 _ _ z => ?_⟩)
    · refine seq_step ?_
      walk_at "rd"
      exact qn en H1 s1
    · refine seq_step ?_
      walk_at "rd"
      obtain ⟨eX', pos⟩ := nrwO_some eX
      have R : Nar (road.length + 2) X := by rw [eX']; exact Nar.of_nrw pos
      obtain ⟨b, eb, _⟩ := row_some R (show road.length + 1 < road.length + 2 by omega)
      refine seq_step ?_
      walk_at "rd"
      refine ix_top z (Nat.succ_pos _) fun r er hr1 => ?_
      have hlast : (zrow (road.length + 2) (X 0)).getLast? = some (V.int b) := by
        rw [List.getLast?_eq_getElem?, zrow_len, show road.length + 2 - 1 = road.length + 1 by omega, zrow_get _ (by omega), eb]; rfl
      refine ix_last (.of hr1) hlast ?_
      refine ⟨b, rfl, _, rfl, b, rfl, _, rfl, fun p2 H2 s2 f2 e2 => ?_⟩
      exact qy X eX p2 H2 b (s1.trans s2) eb e2
def spSoonest_run (K : PySem.W.Frag) (CM CD CG CR : Addr) : Sp := fun vs H Q E => ∃ (pm pr pne : Addr) (gv : V) (M : MachD) (road : List Int) (ne : Int × Int), vs = [.ref pm, .ref pr, gv, .ref pne] ∧ MachAt CM CD H pm M ∧ MachOk M ∧ MSz M ∧ SqL K H pr (road.map V.int) ∧ PrR H pne ne ∧ 0 < ne.1 ∧ 0 < ne.2 ∧ Sz 40 ne.1 ∧ Sz 40 ne.2 ∧
  (((goRd M (room0 M) road = none ∨ 200 < road.length) ∧ ∀ H', Same H H' → E (.ref CR) none H') ∨
   (road.length ≤ 12 ∧ (∃ e, goRd M (room0 M) road = some e) ∧ NoGuard K H WORDS M.watches gv ∧ ∀ H', Same H H' → E (.ref CG) none H') ∨
   (∃ pg G, gv = .ref pg ∧ road.length ≤ 12 ∧ (∀ k ∈ road, 0 ≤ k) ∧ (∃ e, goRd M (room0 M) road = some e) ∧ LsAt H pg G ∧ G.length ≤ 60 ∧ guardOk WORDS M.watches G = true ∧ SzL G ∧
     (nrwO (road.length + 2) (roadM M road G) = none → ∀ H', Same H H' → Q .non H') ∧
     ∀ X, nrwO (road.length + 2) (roadM M road G) = some X → ∀ p H', Same H H' → SeqOf StAt H' p (stepsF road (road.length + 2) (((road.length + 2 : Nat) : Int) * (ne.2 / ne.1 + 1)) X) → Q (.ref p) H'))
theorem ok_soonest_run (T : Top K mg) : FnOk P w K mg base (L2.CX P w) 7 T.f_soonest_run T.d_soonest_run ["machine", "road", "guard", "near"] (spSoonest_run K T.C_Machine T.C_Door T.C_NoMark T.C_NoRoad) := by
  refine T.F_soonest_run.okX sc_soonest_run (fun vs H Q E h => ?_) (fun cdv A outer s H vs Q E hr h => ?_)
  · obtain ⟨pm, pr, pne, gv, M, road, ne, rfl, _⟩ := h; rfl
  · obtain ⟨pm, pr, pne, gv, M, road, ne, rfl, hm, mok, msz, hroad, hne, ne1, ne2, nes1, nes, h⟩ := h
    refine ⟨_, (pss_cons (ps_set (i := 4) sc_soonest_run.nd rfl (.inl rfl) (pe_call (ok_road_zone T) (hr.mono (by decide)) rfl T.g_road_zone T.F_road_zone.kp T.b_road_zone .nil (passes_call (takes_of rfl rfl rfl rfl) (fun _ _ _ _ z => z)) (pa_cons (pv 0) (pa_cons (pv 1) (pa_cons (pv 2) pa_nil)))))
      (pss_cons (ps_if (pt_cmpR op_isN (pv 4) pe_non (nomark _)) (pss_one (ps_ret pe_non)) pss_nil)
      (pss_cons (ps_set (i := 5) sc_soonest_run.nd rfl (.inl rfl) (pe_op op_add (pe_op op_fdivZ (pe_ix (ix_tupA (K := K) rfl) (pv 3) pe_int (fun _ _ => rfl)) (pe_ix (ix_tupA (K := K) rfl) (pv 3) pe_int (fun _ _ => rfl))) pe_int))
      (pss_one (ps_ret (pe_call (ok_steps_of T) (hr.mono (by decide)) rfl T.g_steps_of T.F_steps_of.kp T.b_steps_of .nil pass0 (pa_cons (pv 1) (pa_cons (pe_call (ok_least_times T) (hr.mono (by decide)) rfl T.g_least_times T.F_least_times.kp T.b_least_times .nil pass0 (pa_cons (pv 4) (pa_cons (pe_op op_mulW (pe_op op_add (pe_callB call_len_seq (by rfl) T.m_len (by decide +kernel) (pa_cons (pv 1) pa_nil)) pe_int) (pv 5)) pa_nil))) pa_nil)))))))), ?_⟩
    refine seq_step ?_
    walk_at "rd"
    refine ⟨pm, pr, gv, M, road, rfl, hm, mok, msz, hroad, ?_⟩
    rcases h with h | ⟨h12, hgo, hng, qe⟩ | ⟨pg, G, rfl, h12, rnn, hgo, hg, g60, gk, gsz, qn, qy⟩
    · exact .inl h
    · exact .inr (.inl ⟨by omega, hgo, hng, qe⟩)
    refine .inr (.inr ⟨pg, G, rfl, by omega, hgo, hg, g60, gk, gsz, fun en H1 s1 => ?_, fun X eX p as H1 s1 _ _ z => ?_⟩)
    · refine seq_step ?_
      walk_at "rd"
      exact qn en H1 s1
    · refine seq_step ?_
      walk_at "rd"
      obtain ⟨e, hge⟩ := hgo
      have rsz : SzM 260 (roadM M road G) := road_sz mok msz hge gk gsz
      obtain ⟨eX', pos⟩ := nrwO_some eX
      have xsz : SzM 600 X := (nrwO_szT eX (by decide) rsz).mono (by omega)
      have R : Nar (road.length + 2) X := by rw [eX']; exact Nar.of_nrw pos
      refine seq_step ?_
      walk_at "rd"
      refine ix_t (sqt (s1 _ _ hne)) (by decide) rfl ?_
      refine ix_t (sqt (s1 _ _ hne)) (by decide) rfl ?_
      have dv : ne.2.fdiv ne.1 = ne.2 / ne.1 := Int.fdiv_eq_ediv_of_nonneg _ (by omega)
      have d0 : 0 ≤ ne.2 / ne.1 := Int.ediv_nonneg (by omega) (by omega)
      have dle : ne.2 / ne.1 ≤ ne.2 := Int.ediv_le_self _ (by omega)
      have ds : Sz 41 (ne.2 / ne.1 + 1) := Sz.add (Sz.nn (j := ne.2) d0 dle nes) (show Sz 40 1 by unfold Sz; decide) (by decide) (by decide)
      refine ⟨_, rfl, _, rfl, ?_, _, .inl (s1.seq hroad), ?_⟩
      · exact .of (by omega) nes1 (by decide)
      rw [List.length_map, dv]
      have ns0 : Sz 5 ((road.length : Int) + 2) := by unfold Sz; omega
      refine ⟨Sz.mulW ns0 ds (by decide), ?_⟩
      have ec : ((road.length : Int) + 2) * (ne.2 / ne.1 + 1) = ((road.length + 2 : Nat) : Int) * (ne.2 / ne.1 + 1) := by rw [show ((road.length : Int) + 2) = ((road.length + 2 : Nat) : Int) by omega]
      rw [ec]
      have sc1 : ((road.length + 2 : Nat) : Int) ≤ ((road.length + 2 : Nat) : Int) * (ne.2 / ne.1 + 1) := by
        have := Int.mul_le_mul_of_nonneg_left (a := 1) (b := ne.2 / ne.1 + 1) (c := ((road.length + 2 : Nat) : Int)) (by omega) (by omega)
        omega
      have ss : Sz 70 (((road.length + 2 : Nat) : Int) * (ne.2 / ne.1 + 1)) := by
        rw [← ec]; exact (ns0.mul ds (show 5 + 41 ≤ 46 by decide)).mono (by decide)
      generalize ((road.length + 2 : Nat) : Int) * (ne.2 / ne.1 + 1) = sc at *
      refine ⟨p, as, road.length + 2, X, sc, rfl, z, R, by omega, by omega, xsz, sc1, ss, fun q2 H2 s2 ht => ?_⟩
      refine ⟨pr, q2, road, road.length + 2, X, sc, rfl, (s1.trans s2).seq hroad, rnn, rfl, by omega, ht, fun i hi => (tF_sz R (by omega) sc1 xsz ss hi).mono (by omega), by omega, ss, fun q3 H3 s3 hst => ?_⟩
      exact qy X eX q3 H3 (s1.trans (s2.trans s3)) hst
def spRun_of (K : PySem.W.Frag) (CM CD CG CR : Addr) : Sp := fun vs H Q E => ∃ (pm pr : Addr) (gv : V) (M : MachD) (road : List Int), vs = [.ref pm, .ref pr, gv] ∧ MachAt CM CD H pm M ∧ MachOk M ∧ MSz M ∧ SqL K H pr (road.map V.int) ∧
  (((goRd M (room0 M) road = none ∨ 200 < road.length) ∧ ∀ H', Same H H' → E (.ref CR) none H') ∨
   (road.length ≤ 12 ∧ (∃ e, goRd M (room0 M) road = some e) ∧ NoGuard K H WORDS M.watches gv ∧ ∀ H', Same H H' → E (.ref CG) none H') ∨
   (∃ pg G, gv = .ref pg ∧ road.length ≤ 12 ∧ (∀ k ∈ road, 0 ≤ k) ∧ (∃ e, goRd M (room0 M) road = some e) ∧ LsAt H pg G ∧ G.length ≤ 60 ∧ guardOk WORDS M.watches G = true ∧ SzL G ∧
     (nrwO (road.length + 2) (roadM M road G) = none → ∀ H', Same H H' → Q .non H') ∧
     ∀ X, nrwO (road.length + 2) (roadM M road G) = some X → ∀ p H', Same H H' → SeqOf StAt H' p (stepsF road (road.length + 2) ((road.length + 2 : Nat) : Int) X) → Q (.ref p) H'))
theorem ok_run_of (T : Top K mg) : FnOk P w K mg base (L2.CX P w) 7 T.f_run_of T.d_run_of ["machine", "road", "guard"] (spRun_of K T.C_Machine T.C_Door T.C_NoMark T.C_NoRoad) := by
  refine T.F_run_of.okX sc_run_of (fun vs H Q E h => ?_) (fun cdv A outer s H vs Q E hr h => ?_)
  · obtain ⟨pm, pr, gv, M, road, rfl, _⟩ := h; rfl
  · obtain ⟨pm, pr, gv, M, road, rfl, hm, mok, msz, hroad, h⟩ := h
    refine ⟨_, (pss_cons (ps_set (i := 3) sc_run_of.nd rfl (.inl rfl) (pe_call (ok_road_zone T) (hr.mono (by decide)) rfl T.g_road_zone T.F_road_zone.kp T.b_road_zone .nil (passes_call (takes_of rfl rfl rfl rfl) (fun _ _ _ _ z => z)) (pa_cons (pv 0) (pa_cons (pv 1) (pa_cons (pv 2) pa_nil)))))
      (pss_cons (ps_if (pt_cmpR op_isN (pv 3) pe_non (nomark _)) (pss_one (ps_ret pe_non)) pss_nil)
      (pss_one (ps_ret (pe_call (ok_steps_of T) (hr.mono (by decide)) rfl T.g_steps_of T.F_steps_of.kp T.b_steps_of .nil pass0 (pa_cons (pv 1) (pa_cons (pe_call (ok_least_times T) (hr.mono (by decide)) rfl T.g_least_times T.F_least_times.kp T.b_least_times .nil pass0 (pa_cons (pv 3) (pa_cons (pe_op op_add (pe_callB call_len_seq (by rfl) T.m_len (by decide +kernel) (pa_cons (pv 1) pa_nil)) pe_int) pa_nil))) pa_nil))))))), ?_⟩
    refine seq_step ?_
    walk_at "rd"
    refine ⟨pm, pr, gv, M, road, rfl, hm, mok, msz, hroad, ?_⟩
    rcases h with h | ⟨h12, hgo, hng, qe⟩ | ⟨pg, G, rfl, h12, rnn, hgo, hg, g60, gk, gsz, qn, qy⟩
    · exact .inl h
    · exact .inr (.inl ⟨by omega, hgo, hng, qe⟩)
    refine .inr (.inr ⟨pg, G, rfl, by omega, hgo, hg, g60, gk, gsz, fun en H1 s1 => ?_, fun X eX p as H1 s1 _ _ z => ?_⟩)
    · refine seq_step ?_
      walk_at "rd"
      exact qn en H1 s1
    · refine seq_step ?_
      walk_at "rd"
      obtain ⟨e, hge⟩ := hgo
      have rsz : SzM 260 (roadM M road G) := road_sz mok msz hge gk gsz
      obtain ⟨eX', pos⟩ := nrwO_some eX
      have xsz : SzM 600 X := (nrwO_szT eX (by decide) rsz).mono (by omega)
      have R : Nar (road.length + 2) X := by rw [eX']; exact Nar.of_nrw pos
      have ss : Sz 70 ((road.length + 2 : Nat) : Int) := by unfold Sz; omega
      refine ⟨_, .inl (s1.seq hroad), ?_⟩
      rw [List.length_map]
      refine ⟨p, as, road.length + 2, X, ((road.length + 2 : Nat) : Int), rfl, z, R, by omega, by omega, xsz, Int.le_refl _, ss, fun q2 H2 s2 ht => ?_⟩
      refine ⟨pr, q2, road, road.length + 2, X, ((road.length + 2 : Nat) : Int), rfl, (s1.trans s2).seq hroad, rnn, rfl, by omega, ht, fun i hi => (tF_sz R (by omega) (Int.le_refl _) xsz ss hi).mono (by omega), by omega, ss, fun q3 H3 s3 hst => ?_⟩
      exact qy X eX q3 H3 (s1.trans (s2.trans s3)) hst
def spRoom51 : Sp := fun vs H Q _ => ∃ (ps pr : Addr) (S : Spec) (road : List Int), vs = [.ref ps, .ref pr] ∧ SpecAt H ps S ∧ SpecOk S ∧ H pr = some (.lst (road.map V.int)) ∧
  (∀ e, goRd S.mach (room0 S.mach) road = some e → road.length ≤ 200 → Q (.str e) H) ∧ ((goRd S.mach (room0 S.mach) road = none ∨ 200 < road.length) → Q .non H)
theorem ok_l_room (T : Top K mg) : FnOk P w K mg base CX0 1 T.f_l_room T.d_l_room ["_law_spec", "_law_road_here"] spRoom51 := by
  refine T.F_l_room.ok sc_l_room (fun vs H Q E h => ?_) (fun cdv A outer s H vs Q E hr h => ?_)
  · obtain ⟨ps, pr, S, road, rfl, _⟩ := h; rfl
  · obtain ⟨ps, pr, S, road, rfl, hs, ok, hroad, q1, q2⟩ := h
    refine ⟨_, (pss_cons (ps_asg (pv 0) (pg_tupA (K := K) (n := 3) rfl (by rfl) (pgs_cons (pg_name (i := 2) sc_l_room.nd rfl (.inl rfl)) (pgs_cons (pg_name (i := 3) sc_l_room.nd rfl (.inl rfl)) (pgs_cons (pg_name (i := 4) sc_l_room.nd rfl (.inl rfl)) pgs_nil)))))
      (pss_cons (ps_set (i := 5) sc_l_room.nd rfl (.inl rfl) pe_int)
      (pss_cons (ps_for PassesOwn.never rfl (pi_listA (K := K) rfl (pv 1)) (pg_name (i := 6) sc_l_room.nd rfl (.inl rfl)) (pss_cons (ps_if (PW.pt (pw_or (pt_not (pt_chain op_le op_lt pe_int (pv 6) (pe_callB call_len_seq (by rfl) T.m_len (by decide +kernel) (pa_cons (pv 4) pa_nil)))) (pw_or (pt_cmpR op_ne (pe_ix (ix_tupA (K := K) rfl) (pe_ix (ix_listA (K := K) rfl) (pv 4) (pv 6) (fun _ _ => rfl)) pe_int (fun _ _ => rfl)) (pv 5) (nomark _)) (pw_or1 (pt_cmpR op_ne (pe_ix (ix_tupA (K := K) rfl) (pe_ix (ix_listA (K := K) rfl) (pv 4) (pv 6) (fun _ _ => rfl)) pe_int (fun _ _ => rfl)) pe_str (nomark _)))))) (pss_one (ps_ret pe_non)) pss_nil)
      (pss_one (ps_set (i := 5) sc_l_room.nd rfl (.inl rfl) (pe_ix (ix_tupA (K := K) rfl) (pe_ix (ix_listA (K := K) rfl) (pv 4) (pv 6) (fun _ _ => rfl)) pe_int (fun _ _ => rfl))))))
      (pss_cons (ps_if (pt_cmpR op_gt (pe_callB call_len_seq (by rfl) T.m_len (by decide +kernel) (pa_cons (pv 1) pa_nil)) pe_int (nomark _)) (pss_one (ps_ret pe_non)) pss_nil)
      (pss_one (ps_ret (pe_ix (ix_tupA (K := K) rfl) (pe_ix (ix_listA (K := K) rfl) (pv 3) (pv 5) (fun _ _ => rfl)) pe_int (fun _ _ => rfl)))))))), ?_⟩
    obtain ⟨pw, prm, pd, es, hw, hrs, hds⟩ := id hs
    obtain ⟨dqs, d1, d2, d3⟩ := id hds
    have d6 := ok.d6
    refine seq_step ?_
    walk_at "rt"
    refine gTup_of (sqt es) rfl ?_
    walk_at "rt"
    refine seq_step ?_
    walk_at "rt"
    refine seq_step ?_
    refine for_li ?_
    walk_at "rt"
    refine ⟨⟨_, .of hroad⟩, ?_⟩
    have mok := ok.mach
    obtain ⟨Iv, hIv⟩ : ∃ Iv : Nat → L2.St → Hp → Prop, ∀ i σ' H', Iv i σ' H' ↔ (∃ v6, ∃ ri : Nat, σ' = [some (.ref ps), some (.ref pr), some (.ref pw), some (.ref prm), some (.ref pd), some (.int ri), v6] ∧ H' = H ∧ ri < S.rooms.length ∧ goRd S.mach (room0 S.mach) (road.take i) = some (S.name ri)) := ⟨_, fun _ _ _ => Iff.rfl⟩
    refine (forL_by (K := K) (xs := road.map V.int) Iv ((hIv _ _ _).mpr ⟨_, 0, rfl, rfl, ok.r1, by rw [List.take_zero, name0]; rfl⟩) (fun i σ H' _ h => (fun (⟨_, _, _, k, _⟩ : ∃ _ _, _ ∧ H' = H ∧ _) => by rw [k]; exact .of hroad) ((hIv _ _ _).mp h)) ?_ ?_).2
    · rintro i x σ' H1 hi hinv
      obtain ⟨v6, ri, rfl, rfl, rl, hgo⟩ := (hIv _ _ _).mp hinv
      rw [List.getElem?_map] at hi
      obtain ⟨k, hk, rfl⟩ := Option.map_eq_some_iff.mp hi
      have split : road = road.take i ++ (k :: road.drop (i + 1)) := by
        have hil := (List.getElem?_eq_some_iff.mp hk).1
        have e : road[i] = k := (List.getElem?_eq_some_iff.mp hk).2
        rw [← e, ← List.drop_eq_getElem_cons hil, List.take_append_drop]
      walk_at "rt"
      refine seq_step ?_
      walk_at "rt"
      have goes : goRd S.mach (room0 S.mach) road = goRd S.mach (S.name ri) (k :: road.drop (i + 1)) := by
        conv => lhs; rw [split]
        rw [goRd_app, hgo]; rfl
      have bad : goRd S.mach (S.name ri) [k] = none → Q .non H1 := fun h => q2 (.inl (by
        rw [goes, show k :: road.drop (i + 1) = [k] ++ road.drop (i + 1) from rfl, goRd_app, h]; rfl))
      have one : ∀ l, S.doors[k.toNat]? = some l → 0 ≤ k → goRd S.mach (S.name ri) [k] = if l.sg = "" ∧ S.name l.b = S.name ri then some (S.name l.e) else none := fun l hl k0 => by
        show (if (0 : Int) ≤ k then (match S.mach.doors[k.toNat]? with | some d => if d.sg = "" ∧ d.st = S.name ri then goRd S.mach d.en [] else none | none => none) else none) = _
        rw [if_pos k0]
        have : S.mach.doors[k.toNat]? = some (S.door l) := by
          show (S.doors.map S.door)[k.toNat]? = _
          rw [List.getElem?_map, hl]; rfl
        rw [this]; rfl
      refine ite_d (fun c0 => ?_) (fun c0 => ?_)
      rotate_left
      · refine bad ?_
        show (if (0 : Int) ≤ k then _ else none) = none
        rw [if_neg c0]
      refine ⟨_, .inl (.of d1), ?_⟩
      rw [List.length_map, d2]
      by_cases ck : k < S.doors.length
      rotate_left
      · refine if_t (by rw [decide_eq_false ck]; rfl) (bad ?_)
        show (if (0 : Int) ≤ k then (match S.mach.doors[k.toNat]? with | some d => if d.sg = "" ∧ d.st = S.name ri then goRd S.mach d.en [] else none | none => none) else none) = none
        have : S.mach.doors[k.toNat]? = none := by
          show (S.doors.map S.door)[k.toNat]? = _
          exact List.getElem?_eq_none (by rw [List.length_map]; omega)
        rw [if_pos c0, this]
      refine if_f (by rw [decide_eq_true ck]; rfl) ?_
      obtain ⟨qd, hq⟩ : ∃ qd, dqs[k.toNat]? = some qd := ⟨_, List.getElem?_eq_getElem (by omega)⟩
      obtain ⟨l, hl⟩ : ∃ l, S.doors[k.toNat]? = some l := ⟨_, List.getElem?_eq_getElem (by omega)⟩
      obtain ⟨g, n, e, _, _⟩ := d3 _ qd l hq hl
      have dk := ok.d l (List.mem_of_getElem? hl)
      have hqm : (dqs.map V.ref)[k.toNat]? = some (.ref qd) := by rw [List.getElem?_map, hq]; rfl
      have o1 := one l hl c0
      refine ix_l (.of d1) c0 hqm ?_
      refine ix_t (sqt e) (by decide) rfl ?_
      refine ⟨rfl, ?_⟩
      by_cases cb : l.b = ri
      rotate_left
      · refine if_t (by rw [decide_eq_false fun h => cb (by injection h with h; omega)]; rfl) (bad ?_)
        rw [o1, if_neg fun h => cb (name_inj mok dk.1 rl h.2)]
      refine if_f (by rw [decide_eq_true (by rw [cb])]; rfl) ?_
      refine ix_l (.of d1) c0 hqm ?_
      refine ix_t (sqt e) (by decide) rfl ?_
      refine ⟨rfl, ?_⟩
      by_cases cs : l.sg = ""
      rotate_left
      · refine if_t (by rw [decide_eq_false fun h => cs (by injection h)]; rfl) (bad ?_)
        rw [o1, if_neg fun h => cs h.1]
      refine if_f (by rw [decide_eq_true (by rw [cs])]; rfl) ?_
      refine ix_l (.of d1) c0 hqm ?_
      refine ix_t (sqt e) (by decide) rfl ?_
      refine (hIv _ _ _).mpr ⟨_, l.e, rfl, rfl, dk.2.1, ?_⟩
      rw [take_snocP hk, goRd_app, hgo]
      show goRd S.mach (S.name ri) [k] = _
      rw [o1, if_pos ⟨cs, by rw [cb]⟩]
    · rintro σ' H1 hinv
      obtain ⟨v6, ri, rfl, rfl, rl, hgo⟩ := (hIv _ _ _).mp hinv
      rw [List.length_map, List.take_of_length_le (Nat.le_refl _)] at hgo
      walk_at "rt"
      refine seq_step ?_
      walk_at "rt"
      refine ⟨_, .inl (.of hroad), ?_⟩
      rw [List.length_map]
      refine ite_d (fun c => q2 (.inr (by omega))) (fun c => ?_)
      obtain ⟨rqs, r1, r2, r3⟩ := id hrs
      obtain ⟨qr, hqr⟩ : ∃ qr, rqs[ri]? = some qr := ⟨_, List.getElem?_eq_getElem (by omega)⟩
      obtain ⟨r, hr2⟩ : ∃ r, S.rooms[ri]? = some r := ⟨_, List.getElem?_eq_getElem rl⟩
      obtain ⟨g, er, _⟩ := r3 ri qr r hqr hr2
      have en : S.name ri = r.1 := by unfold Spec.name; rw [List.getD_eq_getElem?_getD, List.getElem?_map, hr2]; rfl
      refine ix_l (.of r1) (by omega) (by rw [Int.toNat_natCast, List.getElem?_map, hqr]; rfl) ?_
      refine ix_t (sqt er) (by decide) rfl ?_
      have := q1 _ hgo (by omega)
      rw [en] at this
      exact this
theorem small_lot {n : Nat} (h : n ≤ 5000) : n < sizeLine := by
  have := sizeLine_eq
  omega
theorem rep_len {α : Type} (n : Nat) (l : List α) : (List.replicate n l).flatten.length = n * l.length := by simp
theorem rep_lots (n : Nat) (road : List Int) (bd : Int) : (List.replicate n (road.map V.int)).flatten ++ (List.replicate n [V.int bd]).flatten = ((List.replicate n road).flatten ++ List.replicate n bd).map V.int := by
  rw [List.map_append, List.map_flatten, List.map_replicate, List.map_replicate]
  congr 1
  induction n with
  | zero => rfl
  | succ n ih => rw [List.replicate_succ, List.replicate_succ, List.flatten_cons, ih]; rfl
theorem lots_len (n : Nat) (road : List Int) (bd : Int) : ((List.replicate n road).flatten ++ List.replicate n bd).length = n * road.length + n := by
  rw [List.length_append, rep_len, List.length_replicate]
theorem cut_to {xs : List V} {k : Nat} : cutV xs none (some (k : Int)) = xs.take k := by
  unfold cutV
  rw [HT.sIx_none, HT.sIx_nat]
  show List.take (min k xs.length) xs = _
  rcases Nat.le_total k xs.length with h | h
  · rw [Nat.min_eq_left h]
  · rw [Nat.min_eq_right h, List.take_of_length_le (Nat.le_refl _), List.take_of_length_le h]
theorem cut_fr {xs : List V} {k : Nat} : cutV xs (some (k : Int)) none = xs.drop k := by
  unfold cutV
  rw [HT.sIx_none, HT.sIx_nat]
  rcases Nat.le_total k xs.length with h | h
  · rw [Nat.min_eq_left h]
    exact List.take_of_length_le (by rw [List.length_drop]; exact Nat.le_refl _)
  · rw [Nat.min_eq_right h, List.drop_of_length_le (Nat.le_refl _), List.drop_of_length_le h, List.take_nil]
def spSpoilt51 : Sp := fun vs H Q _ => ∃ (ps pr : Addr) (S : Spec) (road : List Int) (c : Int), vs = [.ref ps, .ref pr, .int c] ∧ SpecAt H ps S ∧ SpecOk S ∧ H pr = some (.lst (road.map V.int)) ∧ road.length ≤ 10 ∧
  ∀ (q : Addr) (H' : Hp) (bad : List Int), Same H H' → H' q = some (.lst (bad.map V.int)) → (bad.length ≤ 11 ∨ (201 ≤ bad.length ∧ bad.length ≤ 2300)) → Q (.ref q) H'
theorem ok_l_spoilt (T : Top K mg) : FnOk P w K mg base CX0 1 T.f_l_spoilt T.d_l_spoilt ["_law_spec", "_law_road_here", "_law_cell"] spSpoilt51 := by
  refine T.F_l_spoilt.ok sc_l_spoilt (fun vs H Q E h => ?_) (fun cdv A outer s H vs Q E hr h => ?_)
  · obtain ⟨ps, pr, S, road, c, rfl, _⟩ := h; rfl
  · obtain ⟨ps, pr, S, road, c, rfl, hs, ok, hroad, r10, q⟩ := h
    refine ⟨_, (pss_cons (ps_asg (pv 0) (pg_tupA (K := K) (n := 3) rfl (by rfl) (pgs_cons (pg_name (i := 3) sc_l_spoilt.nd rfl (.inl rfl)) (pgs_cons (pg_name (i := 4) sc_l_spoilt.nd rfl (.inl rfl)) (pgs_cons (pg_name (i := 5) sc_l_spoilt.nd rfl (.inl rfl)) pgs_nil)))))
      (pss_cons (ps_set (i := 6) sc_l_spoilt.nd rfl (.inl rfl) (pe_op op_catN (pe_listRg rfl (by rfl) T.m_list (prg_1 (by rfl) T.m_range (pe_callB call_len_seq (by rfl) T.m_len (by decide +kernel) (pa_cons (pv 5) pa_nil)))) (pe_lstN (pa_cons (pe_callB call_len_seq (by rfl) T.m_len (by decide +kernel) (pa_cons (pv 5) pa_nil)) (pa_cons (pe_un un_neg pe_int) (pa_cons (pe_op op_add (pe_callB call_len_seq (by rfl) T.m_len (by decide +kernel) (pa_cons (pv 5) pa_nil)) pe_int) pa_nil))))))
      (pss_cons (ps_set (i := 7) sc_l_spoilt.nd rfl (.inl rfl) (pe_ix (ix_listA (K := K) rfl) (pv 6) (pe_op op_modN (pe_op op_fdivZ (pv 2) pe_int) (pe_callB call_len_seq (by rfl) T.m_len (by decide +kernel) (pa_cons (pv 6) pa_nil))) (fun _ _ => rfl)))
      (pss_cons (ps_set (i := 8) sc_l_spoilt.nd rfl (.inl rfl) (pe_op op_modN (pe_op op_fdivZ (pv 2) pe_int) (pe_op op_add (pe_callB call_len_seq (by rfl) T.m_len (by decide +kernel) (pa_cons (pv 1) pa_nil)) pe_int)))
      (pss_cons (ps_if (pt_cmpR op_eq (pe_op op_fdivZ (pe_op op_modN (pv 2) pe_int) pe_int) pe_int (nomark _)) (pss_one (ps_ret (pe_op op_catN (pe_op op_repN (pe_callTy (call_listA (K := K) rfl) (by rfl) T.m_list (by decide +kernel) (pa_cons (pv 1) pa_nil)) pe_int) (pe_op op_repN (pe_lstN (pa_cons (pv 7) pa_nil)) pe_int)))) pss_nil)
      (pss_one (ps_ret (pe_op op_catN (pe_op op_catN (pe_slice (sl_listA (K := K) rfl) (pv 1) po_none (po_some (pv 8))) (pe_lstN (pa_cons (pv 7) pa_nil))) (pe_slice (sl_listA (K := K) rfl) (pv 1) (po_some (pe_op op_add (pv 8) (pe_op op_modN (pv 2) pe_int))) po_none))))))))), ?_⟩
    obtain ⟨pw, prm, pd, es, hw, hrs, hds⟩ := id hs
    obtain ⟨dqs, d1, d2, d3⟩ := id hds
    have d6 := ok.d6
    refine seq_step ?_
    walk_at "rd"
    refine gTup_of (sqt es) rfl ?_
    walk_at "rd"
    refine seq_step ?_
    walk_at "rd"
    simp only [L2.tLstRg, L2.tRg1]
    walk_at "rd"
    refine ⟨_, .inl (.of d1), ?_⟩
    rw [List.length_map, d2]
    refine ⟨.of_le (by omega) (by omega) (by omega) (by omega), fun q0 f0 => ?_⟩
    obtain ⟨m, hm⟩ : ∃ m, m = S.doors.length := ⟨_, rfl⟩
    have rg : rgV 0 (S.doors.length : Int) = ((List.range m).map fun i => ((i : Nat) : Int)).map V.int := by
      rw [hm]; unfold rgV
      rw [show ((S.doors.length : Int) - 0).toNat = S.doors.length by omega, List.map_map]
      refine List.map_congr_left fun i _ => ?_
      show V.int (0 + (i : Int)) = V.int (i : Int)
      rw [Int.zero_add]
    rw [rg]
    have s0 : Same H (upd H q0 (.lst (((List.range m).map fun i => ((i : Nat) : Int)).map V.int))) := upd_keep f0
    have e0 : (upd H q0 (.lst (((List.range m).map fun i => ((i : Nat) : Int)).map V.int))) q0 = some (.lst (((List.range m).map fun i => ((i : Nat) : Int)).map V.int)) := upd_same
    generalize upd H q0 (.lst (((List.range m).map fun i => ((i : Nat) : Int)).map V.int)) = H0 at *
    refine ⟨_, .inl (.of (s0 _ _ d1)), _, .inl (.of (s0 _ _ d1)), fun p1 H1 s1 f1 e1 => ?_⟩
    rw [List.length_map, d2] at e1
    refine ⟨_, s1 _ _ e0, _, e1, Nat.le_of_lt (small1000 (by simp; omega)), fun p2 H2 s2 f2 e2 => ?_⟩
    have es : (((List.range m).map fun i => ((i : Nat) : Int)).map V.int) ++ [V.int (S.doors.length : Int), V.int (-1), V.int ((S.doors.length : Int) + 200)] = (((List.range m).map fun i => ((i : Nat) : Int)) ++ [(m : Int), -1, (m : Int) + 200]).map V.int := by
      rw [List.map_append, hm]; rfl
    rw [es] at e2
    obtain ⟨some_, hsome⟩ : ∃ l : List Int, l = ((List.range m).map fun i => ((i : Nat) : Int)) ++ [(m : Int), -1, (m : Int) + 200] := ⟨_, rfl⟩
    have sl : some_.length = m + 3 := by rw [hsome]; simp
    rw [← hsome] at e2
    have s02 := s0.trans (s1.trans s2)
    refine seq_step ?_
    walk_at "rd"
    refine ⟨_, .inl (.of e2), by rw [List.length_map]; omega, ?_⟩
    rw [List.length_map, sl]
    have ma := fm_pos (c := c.fdiv 4) (m := ((m + 3 : Nat) : Int)) (by omega)
    obtain ⟨bd, hbd⟩ : ∃ bd, some_[((c.fdiv 4).fmod ((m + 3 : Nat) : Int)).toNat]? = some bd := ⟨_, List.getElem?_eq_getElem (by omega)⟩
    refine ix_l (.of e2) ma.1 (by rw [List.getElem?_map, hbd]; rfl) ?_
    refine seq_step ?_
    walk_at "rd"
    refine ⟨_, .inl (.of (s02 _ _ hroad)), ?_⟩
    rw [List.length_map]
    have mb := fm_pos (c := c.fdiv 64) (m := ((road.length : Int) + 1)) (by omega)
    obtain ⟨at_, hat⟩ : ∃ at_ : Nat, (c.fdiv 64).fmod ((road.length : Int) + 1) = (at_ : Int) := ⟨_, (Int.toNat_of_nonneg mb.1).symm⟩
    rw [hat] at mb ⊢
    refine ⟨by omega, ?_⟩
    refine seq_step ?_
    walk_at "rd"
    refine ite_d (fun c15 => ?_) (fun c15 => ?_)
    · walk_at "rd"
      refine ⟨_, .inl (.of (s02 _ _ hroad)), fun p3 H3 s3 f3 e3 => ⟨_, e3, ?_, fun p4 H4 s4 f4 e4 => ?_⟩⟩
      · rw [List.length_map]
        exact Nat.le_of_lt (small_lot (by omega))
      intro p5 H5 s5 f5 e5
      refine ⟨_, e5, ?_, fun p6 H6 s6 f6 e6 => ?_⟩
      · exact Nat.le_of_lt (small_lot (show 1 * 201 ≤ 5000 by decide))
      have e4 : H4 p4 = some (.lst (List.replicate 201 (road.map V.int)).flatten) := e4
      have e6 : H6 p6 = some (.lst (List.replicate 201 [V.int bd]).flatten) := e6
      refine ⟨_, (s5.trans s6) _ _ e4, _, e6, ?_, fun p7 H7 s7 f7 e7 => ?_⟩
      · rw [rep_len, rep_len, List.length_map]; exact Nat.le_of_lt (small_lot (show 201 * road.length + 201 * 1 ≤ 5000 by omega))
      rw [rep_lots] at e7
      exact q p7 H7 _ (s02.trans (s3.trans (s4.trans (s5.trans (s6.trans s7))))) e7 (.inr (by rw [lots_len]; omega))
    · walk_at "rd"
      have c2 := fm2 c
      obtain ⟨b2, hb2⟩ : ∃ b2 : Nat, (at_ : Int) + c.fmod 2 = (b2 : Int) := ⟨((at_ : Int) + c.fmod 2).toNat, by omega⟩
      refine ⟨_, .of (s02 _ _ hroad), fun p3 H3 s3 f3 e3 p4 H4 s4 f4 e4 => ⟨_, s4 _ _ e3, _, e4, ?_, fun p5 H5 s5 f5 e5 => ⟨_, .of ((s02.trans (s3.trans (s4.trans s5))) _ _ hroad), fun p6 H6 s6 f6 e6 => ⟨_, s6 _ _ e5, _, e6, ?_, fun p7 H7 s7 f7 e7 => ?_⟩⟩⟩⟩
      · rw [cut_to, List.length_take, List.length_map]; exact Nat.le_of_lt (small_lot (by simp; omega))
      · rw [hb2, cut_to, cut_fr, List.length_append, List.length_take, List.length_drop, List.length_map]; exact Nat.le_of_lt (small_lot (by simp; omega))
      rw [hb2, cut_to, cut_fr] at e7
      have e7 : H7 p7 = some (.lst ((road.take at_ ++ [bd] ++ road.drop b2).map V.int)) := by
        rw [e7, List.map_append, List.map_append, List.map_take, List.map_drop]; rfl
      exact q p7 H7 _ (s02.trans (s3.trans (s4.trans (s5.trans (s6.trans s7))))) e7 (.inl (by simp; omega))
def Asked51 (K : PySem.W.Frag) (H : Hp) (M : MachD) (road : List Int) (wh : Int) (gv : V) (road_ mark none_ : Prop) : Prop :=
  ((goRd M (room0 M) road = none ∨ 200 < road.length) ∧ road_) ∨
  ((∃ e, goRd M (room0 M) road = some e) ∧ road.length ≤ 200 ∧ wh = 0 ∧ none_) ∨
  (0 < wh ∧ road.length ≤ 12 ∧ (∃ e, goRd M (room0 M) road = some e) ∧ NoGuard K H WORDS M.watches gv ∧ mark) ∨
  (0 < wh ∧ ∃ pg G, gv = .ref pg ∧ road.length ≤ 12 ∧ (∀ k ∈ road, 0 ≤ k) ∧ (∃ e, goRd M (room0 M) road = some e) ∧ LsAt H pg G ∧ G.length ≤ 60 ∧ guardOk WORDS M.watches G = true ∧ SzL G ∧ none_)
def spAsked51 (K : PySem.W.Frag) (CM CD CG CR : Addr) : Sp := fun vs H Q E => ∃ (pm pr : Addr) (gv : V) (M : MachD) (road : List Int) (wh : Int), vs = [.int wh, .ref pm, .ref pr, gv] ∧ 0 ≤ wh ∧ wh ≤ 4 ∧ MachAt CM CD H pm M ∧ MachOk M ∧ MSz M ∧ SqL K H pr (road.map V.int) ∧
  Asked51 K H M road wh gv (∀ H', Same H H' → E (.ref CR) none H') (∀ H', Same H H' → E (.ref CG) none H') (∀ v H', Same H H' → Q v H')
theorem ok_l_asked (T : Top K mg) : FnOk P w K mg base (L2.CX P w) 8 T.f_l_asked T.d_l_asked ["_law_which", "_law_machine_here", "_law_road_here", "_law_guard_here"] (spAsked51 K T.C_Machine T.C_Door T.C_NoMark T.C_NoRoad) := by
  refine T.F_l_asked.okX sc_l_asked (fun vs H Q E h => ?_) (fun cdv A outer s H vs Q E hr h => ?_)
  · obtain ⟨pm, pr, gv, M, road, wh, rfl, _⟩ := h; rfl
  · obtain ⟨pm, pr, gv, M, road, wh, rfl, w0, w4, hm, mok, msz, hroad, h⟩ := h
    refine ⟨_, (pss_cons (ps_if (pt_cmpR op_eq (pv 0) pe_int (nomark _)) (pss_one (ps_ret (pe_call (ok_room_of T) (hr.mono (by decide)) rfl T.g_room_of T.F_room_of.kp T.b_room_of .nil (passes_call (takes_of rfl rfl rfl rfl) (fun _ _ _ _ z => z)) (pa_cons (pv 1) (pa_cons (pv 2) pa_nil))))) pss_nil)
      (pss_cons (ps_if (pt_cmpR op_eq (pv 0) pe_int (nomark _)) (pss_one (ps_ret (pe_call (ok_road_zone T) (hr.mono (by decide)) rfl T.g_road_zone T.F_road_zone.kp T.b_road_zone .nil (passes_call (takes_of rfl rfl rfl rfl) (fun _ _ _ _ z => z)) (pa_cons (pv 1) (pa_cons (pv 2) (pa_cons (pv 3) pa_nil)))))) pss_nil)
      (pss_cons (ps_if (pt_cmpR op_eq (pv 0) pe_int (nomark _)) (pss_one (ps_ret (pe_call (ok_run_of T) (hr.mono (by decide)) rfl T.g_run_of T.F_run_of.kp T.b_run_of .nil (passes_call (takes_of rfl rfl rfl rfl) (fun _ _ _ _ z => z)) (pa_cons (pv 1) (pa_cons (pv 2) (pa_cons (pv 3) pa_nil)))))) pss_nil)
      (pss_cons (ps_if (pt_cmpR op_eq (pv 0) pe_int (nomark _)) (pss_one (ps_ret (pe_call (ok_soonest T) (hr.mono (by decide)) rfl T.g_soonest T.F_soonest.kp T.b_soonest .nil (passes_call (takes_of rfl rfl rfl rfl) (fun _ _ _ _ z => z)) (pa_cons (pv 1) (pa_cons (pv 2) (pa_cons (pv 3) pa_nil)))))) pss_nil)
      (pss_one (ps_ret (pe_call (ok_soonest_run T) (hr.mono (by decide)) rfl T.g_soonest_run T.F_soonest_run.kp T.b_soonest_run .nil (passes_call (takes_of rfl rfl rfl rfl) (fun _ _ _ _ z => z)) (pa_cons (pv 1) (pa_cons (pv 2) (pa_cons (pv 3) (pa_cons (pe_tupN (pa_cons pe_int (pa_cons pe_int pa_nil))) pa_nil))))))))))), ?_⟩
    refine seq_step ?_
    walk_at "rd"
    refine ite_d (fun c => ?_) (fun c => ?_)
    · walk_at "rd"
      refine ⟨pm, pr, M, road, rfl, hm, mok, hroad, fun e he hl H1 s1 => ?_, fun hb H1 s1 => ?_⟩
      · rcases h with ⟨hb, _⟩ | ⟨_, _, _, q⟩ | ⟨h0, _⟩ | ⟨h0, _⟩
        · rcases hb with hb | hb
          · rw [he] at hb; cases hb
          · omega
        · exact q _ H1 s1
        · omega
        · omega
      · rcases h with ⟨_, q⟩ | ⟨⟨e, he⟩, hl, _⟩ | ⟨h0, _⟩ | ⟨h0, _⟩
        · exact q H1 s1
        · rcases hb with hb | hb
          · rw [he] at hb; cases hb
          · omega
        · omega
        · omega
    walk_at "rd"
    refine seq_step ?_
    walk_at "rd"
    refine ite_d (fun c1 => ?_) (fun c1 => ?_)
    · walk_at "rd"
      refine ⟨pm, pr, gv, M, road, rfl, hm, mok, msz, hroad, ?_⟩
      rcases h with ⟨hb, q⟩ | ⟨_, _, h0, _⟩ | ⟨_, h12, he, ng, q⟩ | ⟨_, pg, G, rfl, h12, rnn, he, hg, g60, gk, gsz, q⟩
      · exact .inl ⟨hb, q⟩
      · omega
      · exact .inr (.inl ⟨by omega, he, ng, q⟩)
      · exact .inr (.inr ⟨pg, G, rfl, by omega, he, hg, g60, gk, gsz, fun _ H1 s1 => q _ H1 s1, fun X _ p as H1 s1 _ _ _ => q _ H1 s1⟩)
    walk_at "rd"
    refine seq_step ?_
    walk_at "rd"
    refine ite_d (fun c2 => ?_) (fun c2 => ?_)
    · walk_at "rd"
      refine ⟨pm, pr, gv, M, road, rfl, hm, mok, msz, hroad, ?_⟩
      rcases h with ⟨hb, q⟩ | ⟨_, _, h0, _⟩ | ⟨_, h12, he, ng, q⟩ | ⟨_, pg, G, rfl, h12, rnn, he, hg, g60, gk, gsz, q⟩
      · exact .inl ⟨hb, q⟩
      · omega
      · exact .inr (.inl ⟨by omega, he, ng, q⟩)
      · exact .inr (.inr ⟨pg, G, rfl, by omega, rnn, he, hg, g60, gk, gsz, fun _ H1 s1 => q _ H1 s1, fun X _ p H1 s1 _ => q _ H1 s1⟩)
    walk_at "rd"
    refine seq_step ?_
    walk_at "rd"
    refine ite_d (fun c3 => ?_) (fun c3 => ?_)
    · walk_at "rd"
      refine ⟨pm, pr, gv, M, road, rfl, hm, mok, msz, hroad, ?_⟩
      rcases h with ⟨hb, q⟩ | ⟨_, _, h0, _⟩ | ⟨_, h12, he, ng, q⟩ | ⟨_, pg, G, rfl, h12, rnn, he, hg, g60, gk, gsz, q⟩
      · exact .inl ⟨hb, q⟩
      · omega
      · exact .inr (.inl ⟨by omega, he, ng, q⟩)
      · exact .inr (.inr ⟨pg, G, rfl, by omega, he, hg, g60, gk, gsz, fun _ H1 s1 => q _ H1 s1, fun X _ p H1 b s1 _ _ => q _ H1 s1⟩)
    walk_at "rd"
    intro pn H1 s1 f1 e1
    refine ⟨pm, pr, pn, gv, M, road, (1, 3), rfl, hm.keep s1, mok, msz, s1.seq hroad, e1, by decide, by decide, by unfold Sz; decide, by unfold Sz; decide, ?_⟩
    rcases h with ⟨hb, q⟩ | ⟨_, _, h0, _⟩ | ⟨_, h12, he, ng, q⟩ | ⟨_, pg, G, rfl, h12, rnn, he, hg, g60, gk, gsz, q⟩
    · exact .inl ⟨hb, fun H2 s2 => q H2 (s1.trans s2)⟩
    · omega
    · exact .inr (.inl ⟨by omega, he, ng.keep s1, fun H2 s2 => q H2 (s1.trans s2)⟩)
    · exact .inr (.inr ⟨pg, G, rfl, by omega, rnn, he, hg.keep s1, g60, gk, gsz, fun _ H2 s2 => q _ H2 (s1.trans s2), fun X _ p H2 s2 _ => q _ H2 (s1.trans s2)⟩)
def spRefused51 (K : PySem.W.Frag) (CM CD : Addr) : Sp := fun vs H Q _ => ∃ (pm pr : Addr) (gv : V) (M : MachD) (road : List Int) (wh : Int), vs = [.int wh, .ref pm, .ref pr, gv] ∧ 0 ≤ wh ∧ wh ≤ 4 ∧ MachAt CM CD H pm M ∧ MachOk M ∧ MSz M ∧ SqL K H pr (road.map V.int) ∧
  Asked51 K H M road wh gv (∀ H', Same H H' → Q (.str "road") H') (∀ H', Same H H' → Q (.str "mark") H') (∀ H', Same H H' → Q (.str "none") H')
theorem ok_l_refused (T : Top K mg) : FnOk P w K mg base CX0 9 T.f_l_refused T.d_l_refused ["_law_which", "_law_machine_here", "_law_road_here", "_law_guard_here"] (spRefused51 K T.C_Machine T.C_Door) := by
  refine T.F_l_refused.ok sc_l_refused (fun vs H Q E h => ?_) (fun cdv A outer s H vs Q E hr h => ?_)
  · obtain ⟨pm, pr, gv, M, road, wh, rfl, _⟩ := h; rfl
  · obtain ⟨pm, pr, gv, M, road, wh, rfl, w0, w4, hm, mok, msz, hroad, h⟩ := h
    refine ⟨_, (pss_cons (ps_set (i := 4) sc_l_refused.nd rfl (.inl rfl) pe_str)
      (pss_cons (ps_set (i := 5) sc_l_refused.nd rfl (.inl rfl) pe_bl)
      (pss_cons (ps_try_named (i := 6) rfl rfl sc_l_refused.nd rfl rfl takes0 (fun W pn xe tk _ => (pss_one (ps_expr (pe_callS (ok_l_asked T) (hr.mono (by decide)) rfl T.g_l_asked T.F_l_asked.kp T.b_l_asked (fun σ => passAt tk σ) (pa_cons (pv 0) (pa_cons (pv 1) (pa_cons (pv 2) (pa_cons (pv 3) pa_nil)))))))) (.cons ⟨rfl, by decide, .inl T.g_NoRoad⟩ (fun a oe cls d pn hz hf => (pss_cons (ps_set (i := 4) sc_l_refused.nd rfl (.inl rfl) pe_str)
      (pss_one (ps_set (i := 5) sc_l_refused.nd rfl (.inl rfl) (pe_and (pe_callB (call_isE2 hz hf) (by rfl) T.m_isinstance (by decide +kernel) (pa_cons (pv 6) (pa_cons (pe_glob (v := .ref T.C_WalkError) rfl T.g_WalkError rfl) pa_nil))) (pe_and (pe_callB (call_isE2 hz hf) (by rfl) T.m_isinstance (by decide +kernel) (pa_cons (pv 6) (pa_cons (pe_bltn (v := .ty "ValueError") (u := .type "ValueError") (by rfl) T.m_ValueError (by decide +kernel) rfl) pa_nil))) (pe_one (pe_not (pe_callB (call_isET hz hf) (by rfl) T.m_isinstance (by decide +kernel) (pa_cons (pv 6) (pa_cons (pe_tupN (pa_cons (pe_glob (v := .ref T.C_NoMark) rfl T.g_NoMark rfl) (pa_cons (pe_glob (v := .ref T.C_NoRun) rfl T.g_NoRun rfl) pa_nil))) pa_nil))))))))))) (.cons ⟨rfl, by decide, .inl T.g_NoMark⟩ (fun a oe cls d pn hz hf => (pss_cons (ps_set (i := 4) sc_l_refused.nd rfl (.inl rfl) pe_str)
      (pss_one (ps_set (i := 5) sc_l_refused.nd rfl (.inl rfl) (pe_and (pe_callB (call_isE2 hz hf) (by rfl) T.m_isinstance (by decide +kernel) (pa_cons (pv 6) (pa_cons (pe_glob (v := .ref T.C_WalkError) rfl T.g_WalkError rfl) pa_nil))) (pe_one (pe_not (pe_callB (call_isET hz hf) (by rfl) T.m_isinstance (by decide +kernel) (pa_cons (pv 6) (pa_cons (pe_tupN (pa_cons (pe_glob (v := .ref T.C_NoRoad) rfl T.g_NoRoad rfl) (pa_cons (pe_glob (v := .ref T.C_NoRun) rfl T.g_NoRun rfl) pa_nil))) pa_nil)))))))))) .nil)))
      (pss_cons (ps_if (pt_val (pv 5)) (pss_one (ps_ret (pv 4))) pss_nil)
      (pss_one (ps_ret pe_str)))))), ?_⟩
    have XR : ExcC K T.C_NoRoad := ⟨T.e1_NoRoad, T.e2_NoRoad, T.b_NoRoad, T.e4_NoRoad, T.e5_NoRoad, T.e6_, T.e7_, T.e8_NoRoad⟩
    have XN : ExcC K T.C_NoMark := ⟨T.e1_NoMark, T.e2_NoMark, T.b_NoMark, T.e4_NoMark, T.e5_NoMark, T.e6_, T.e7_, T.e8_NoMark⟩
    refine seq_step ?_
    walk_at "rd"
    refine seq_step ?_
    walk_at "rd"
    refine seq_step ?_
    walk_at "rd"
    refine ⟨pm, pr, gv, M, road, wh, rfl, w0, w4, hm, mok, msz, hroad, ?_⟩
    rcases h with ⟨hb, q⟩ | ⟨he, hl, h0, q⟩ | ⟨h0, h12, he, ng, q⟩ | ⟨h0, pg, G, rfl, h12, rnn, he, hg, g60, gk, gsz, q⟩
    · refine .inl ⟨hb, fun H1 s1 => ?_⟩
      refine ⟨true, exm_two T.b_NoRoad T.e4_NoRoad T.t_NoRoad T.s_NoRoad_NoRoad, fun _ a ha => ?_, fun z => nomatch z⟩
      walk_at "rd"
      refine seq_step ?_
      walk_at "rd"
      refine ⟨_, rfl, XR, _, .ref T.C_WalkError, _, rfl, (fun _ e => e), T.k_NoRoad_WalkError, ?_⟩
      walk_at "rd"
      refine ⟨_, rfl, XR, _, .type "ValueError", _, rfl, (fun _ e => e), T.k_NoRoad_v, ?_⟩
      walk_at "rd"
      intro t H2 s2 f2 e2
      refine ⟨_, rfl, XR, _, e2, _, .cons (.own _) (.cons (.own _) .nil), false, kitAny_cons T.k_NoRoad_NoMark (fun _ => kitAny_cons T.k_NoRoad_NoRun (fun _ => kitAny_nil) (fun z => nomatch z)) (fun z => nomatch z), ?_⟩
      walk_at "rd"
      refine seq_step ?_
      walk_at "rd"
      exact q _ (s1.trans s2)
    · refine .inr (.inl ⟨he, hl, h0, fun v H1 s1 => ?_⟩)
      refine seq_step ?_
      walk_at "rd"
      exact q _ s1
    · refine .inr (.inr (.inl ⟨h0, h12, he, ng, fun H1 s1 => ?_⟩))
      refine ⟨false, exm_two T.b_NoRoad T.e4_NoRoad T.t_NoRoad T.s_NoMark_NoRoad, (fun z => nomatch z), fun _ => ?_⟩
      refine ⟨true, exm_two T.b_NoMark T.e4_NoMark T.t_NoMark T.s_NoMark_NoMark, fun _ a ha => ?_, fun z => nomatch z⟩
      walk_at "rd"
      refine seq_step ?_
      walk_at "rd"
      refine ⟨_, rfl, XN, _, .ref T.C_WalkError, _, rfl, (fun _ e => e), T.k_NoMark_WalkError, ?_⟩
      walk_at "rd"
      intro t H2 s2 f2 e2
      refine ⟨_, rfl, XN, _, e2, _, .cons (.own _) (.cons (.own _) .nil), false, kitAny_cons T.k_NoMark_NoRoad (fun _ => kitAny_cons T.k_NoMark_NoRun (fun _ => kitAny_nil) (fun z => nomatch z)) (fun z => nomatch z), ?_⟩
      walk_at "rd"
      refine seq_step ?_
      walk_at "rd"
      exact q _ (s1.trans s2)
    · refine .inr (.inr (.inr ⟨h0, pg, G, rfl, h12, rnn, he, hg, g60, gk, gsz, fun v H1 s1 => ?_⟩))
      refine seq_step ?_
      walk_at "rd"
      exact q _ s1
-- CUT
def frD : Option Nat → PyData
  | none => .none
  | some t => .int (t : Int)
theorem dp_frs {K : PySem.W.Frag} {H : Hp} {p : Addr} {st : List StepD} (h : H p = some (.lst (st.map fun x => frV x.2))) : Dp K H (.ref p) (.list (st.map fun x => frD x.2)) := .lst (.of h) (by
  clear h
  induction st with
  | nil => exact .nil
  | cons x xs ih =>
    refine .cons ?_ ih
    show Dp K H (frV x.2) (frD x.2)
    cases x.2 with
    | none => exact .non
    | some t => exact .int _)
theorem lay_frs (st : List StepD) : (PyData.list (st.map fun x => frD x.2)).canLay0 = true ∧ (PyData.list (st.map fun x => frD x.2)).depth ≤ 2 := lay_listM fun d hd => by
  obtain ⟨x, _, rfl⟩ := List.mem_map.mp hd
  show (frD x.2).canLay0 = true ∧ (frD x.2).depth ≤ 1
  cases x.2 with
  | none => exact ⟨rfl, Nat.zero_le _⟩
  | some t => exact ⟨rfl, Nat.zero_le _⟩
theorem shaped_frs (st : List StepD) : SeqAt.shaped (.list (st.map fun x => frD x.2)) = true := Bool.and_eq_true_iff.mpr ⟨(lay_frs st).1, decide_eq_true (by have := (lay_frs st).2; omega)⟩
theorem rq_sub (a b s : Int) : rq (a, s) - rq (b, s) = rq (a - b, s) := by
  unfold rq
  show (a : Rat) / s - (b : Rat) / s = ((a - b : Int) : Rat) / s
  rw [Rat.intCast_sub]; grind
theorem frS_le {a s : Int} (ha : a = a) (s0 : 0 < s) : ((rq (a, s)).den : Int) ≤ s := by
  have R := (low_of (a := a) (b := s) (by omega)).red s0
  have k := red_rat s0 R
  rw [k.2]
  have := R.ule
  have := R.pos
  omega
theorem dp_ints {K : PySem.W.Frag} {H : Hp} {p : Addr} {xs : List Int} (h : H p = some (.lst (xs.map V.int))) : Dp K H (.ref p) (.list (xs.map PyData.int)) := .lst (.of h) (by
  clear h
  induction xs with
  | nil => exact .nil
  | cons x xs ih => exact .cons (.int x) ih)
theorem rep_road {M : MachD} {k : Int} {d : DoorD} (k0 : 0 ≤ k) (hd : M.doors[k.toNat]? = some d) (sg : d.sg = "") (e : d.st = d.en) : ∀ n, goRd M d.st (List.replicate n k) = some d.st
  | 0 => rfl
  | n + 1 => by
    show (if 0 ≤ k then (match M.doors[k.toNat]? with | some d' => if d'.sg = "" ∧ d'.st = d.st then goRd M d'.en (List.replicate n k) else none | none => none) else none) = _
    rw [if_pos k0, hd]
    show (if d.sg = "" ∧ d.st = d.st then goRd M d.en (List.replicate n k) else none) = _
    rw [if_pos ⟨sg, rfl⟩, ← e]
    exact rep_road k0 hd sg e n
theorem rep_ints (n : Nat) (k : Int) : (List.replicate n [V.int k]).flatten = (List.replicate n k).map V.int := by
  rw [List.map_replicate]
  induction n with
  | zero => rfl
  | succ n ih => rw [List.replicate_succ, List.replicate_succ, List.flatten_cons, ih]; rfl
theorem pick_D {K : PySem.W.Frag} {H : Hp} {p : Addr} {G : VK} {g : Str → Prop} {l n : Prop} {D : Str} (h : H p = some (.lst [.str "none", .str "road"])) (hD : (((∃ e, g e) ∧ l) ∧ D = "none") ∨ (n ∧ D = "road")) (ex : n → ∀ e, g e → l → False) (q : G (.str D) H) :
    (∀ e, g e → l → rIxL K (.ref p) (.int (if decide (V.str e = V.non) = true then 1 else 0)) H G) ∧ (n → rIxL K (.ref p) (.int (if decide (V.non = V.non) = true then 1 else 0)) H G) := by
  constructor
  · intro e he hl
    rcases hD with ⟨_, rfl⟩ | ⟨hn, _⟩
    · show rIxL K _ (.int 0) H G
      exact ix_l (.of h) (by decide) rfl q
    · exact (ex hn e he hl).elim
  · intro hn
    rcases hD with ⟨⟨⟨e, he⟩, hl⟩, _⟩ | ⟨_, rfl⟩
    · exact (ex hn e he hl).elim
    · show rIxL K _ (.int 1) H G
      exact ix_l (.of h) (by decide) rfl q
def spLaw (K : PySem.W.Frag) : Sp := fun vs H Q _ => ∃ (a : Addr) (ns : List Int), vs = [.ref a] ∧ SqL K H a (ns.map V.int) ∧ ns.length ≤ 63 ∧ ∀ H', Q (.bl true) H'
theorem ok_law (T : Top K mg) : FnOk P w K mg base CX0 10 T.f_law T.d_law ["_law_script"] (spLaw K) := by
  refine T.F_law.ok sc_law (fun vs H Q E h => ?_) (fun cdv A outer s H vs Q E hr h => ?_)
  · obtain ⟨a, ns, rfl, _⟩ := h; rfl
  · obtain ⟨a, cs, rfl, hS, h63, q⟩ := h
    refine ⟨_, (pss_cons (ps_set (i := 1) sc_law.nd rfl (.inl rfl) (pe_call (ok_l_machine T) (hr.mono (by decide)) rfl T.g_l_machine T.F_l_machine.kp T.b_l_machine .nil pass0 (pa_cons (pv 0) pa_nil)))
      (pss_cons (ps_set (i := 2) sc_law.nd rfl (.inl rfl) (pe_call (ok_l_made T) (hr.mono (by decide)) rfl T.g_l_made T.F_l_made.kp T.b_l_made .nil pass0 (pa_cons (pv 1) pa_nil)))
      (pss_cons (ps_asg (pe_call (ok_l_road T) (hr.mono (by decide)) rfl T.g_l_road T.F_l_road.kp T.b_l_road .nil pass0 (pa_cons (pv 1) (pa_cons (pe_slice (sl_listA (K := K) rfl) (pv 0) (po_some pe_int) (po_some pe_int)) pa_nil))) (pg_tupA (K := K) (n := 2) rfl (by rfl) (pgs_cons (pg_name (i := 3) sc_law.nd rfl (.inl rfl)) (pgs_cons (pg_name (i := 4) sc_law.nd rfl (.inl rfl)) pgs_nil))))
      (pss_cons (ps_set (i := 5) sc_law.nd rfl (.inl rfl) (pe_call (ok_room_of T) (hr.mono (by decide)) rfl T.g_room_of T.F_room_of.kp T.b_room_of .nil passL (pa_cons (pv 2) (pa_cons (pe_callTy (call_listA (K := K) rfl) (by rfl) T.m_list (by decide +kernel) (pa_cons (pv 3) pa_nil)) pa_nil))))
      (pss_cons (ps_if (PW.pt (pw_or (pt_not (pt_val (pe_callB (call_isiA (K := K) rfl) (by rfl) T.m_isinstance (by decide +kernel) (pa_cons (pv 5) (pa_cons (pe_bltn (v := .ty "str") (u := .type "str") (by rfl) T.m_str (by decide +kernel) rfl) pa_nil))))) (pw_or1 (pt_cmpR op_ne (pv 5) (pe_ix (ix_tupA (K := K) rfl) (pe_ix (ix_listA (K := K) rfl) (pe_ix (ix_tupA (K := K) rfl) (pv 1) pe_int (fun _ _ => rfl)) (pv 4) (fun _ _ => rfl)) pe_int (fun _ _ => rfl)) (nomark _))))) (pss_one (ps_ret pe_bl)) pss_nil)
      (pss_cons (ps_set (i := 6) sc_law.nd rfl (.inl rfl) (pe_call (ok_l_cell_at T) (hr.mono (by decide)) rfl T.g_l_cell_at T.F_l_cell_at.kp T.b_l_cell_at .nil pass0 (pa_cons (pv 0) (pa_cons pe_int pa_nil))))
      (pss_cons (ps_set (i := 7) sc_law.nd rfl (.inl rfl) (pe_call (ok_l_spoilt T) (hr.mono (by decide)) rfl T.g_l_spoilt T.F_l_spoilt.kp T.b_l_spoilt .nil pass0 (pa_cons (pv 1) (pa_cons (pv 3) (pa_cons (pe_op op_fdivZ (pv 6) pe_int) pa_nil)))))
      (pss_cons (ps_set (i := 8) sc_law.nd rfl (.inl rfl) (pe_ix (ix_listA (K := K) rfl) (pe_lstN (pa_cons pe_str (pa_cons pe_str pa_nil))) (pe_callTy call_intB (by rfl) T.m_int (by decide +kernel) (pa_cons (pe_cmpR op_isN (pe_call (ok_l_room T) (hr.mono (by decide)) rfl T.g_l_room T.F_l_room.kp T.b_l_room .nil pass0 (pa_cons (pv 1) (pa_cons (pv 7) pa_nil))) pe_non (nomark _)) pa_nil)) (fun _ _ => rfl)))
      (pss_cons (ps_set (i := 9) sc_law.nd rfl (.inl rfl) (pe_op op_modN (pv 6) pe_int))
      (pss_cons (ps_if (PW.pt (pw_or (pt_cmpR op_lt (pe_callB call_len_seq (by rfl) T.m_len (by decide +kernel) (pa_cons (pv 7) pa_nil)) pe_int (nomark _)) (pw_or1 (pt_cmpR op_eq (pv 8) pe_str (nomark _))))) (pss_one (ps_if (pt_cmpR op_ne (pe_call (ok_l_refused T) (hr.mono (by decide)) rfl T.g_l_refused T.F_l_refused.kp T.b_l_refused .nil pass0 (pa_cons (pv 9) (pa_cons (pv 2) (pa_cons (pe_callTy (call_listA (K := K) rfl) (by rfl) T.m_list (by decide +kernel) (pa_cons (pv 7) pa_nil)) (pa_cons (pe_lstN pa_nil) pa_nil))))) (pv 8) (nomark _)) (pss_one (ps_ret pe_bl)) pss_nil)) pss_nil)
      (pss_cons (ps_set (i := 10) sc_law.nd rfl (.inl rfl) (pe_lstN (pa_cons (pe_tupN (pa_cons pe_str (pa_cons pe_str (pa_cons pe_int pa_nil)))) pa_nil)))
      (pss_cons (ps_if (PW.pt (pw_and (pt_cmpR op_eq (pv 8) pe_str (nomark _)) (pw_and1 (pt_cmpR op_gt (pv 9) pe_int (nomark _))))) (pss_one (ps_set (i := 8) sc_law.nd rfl (.inl rfl) pe_str)) pss_nil)
      (pss_cons (ps_if (pt_cmpR op_ne (pe_call (ok_l_refused T) (hr.mono (by decide)) rfl T.g_l_refused T.F_l_refused.kp T.b_l_refused .nil pass0 (pa_cons (pv 9) (pa_cons (pv 2) (pa_cons (pe_callTy (call_listA (K := K) rfl) (by rfl) T.m_list (by decide +kernel) (pa_cons (pv 7) pa_nil)) (pa_cons (pe_callTy (call_listA (K := K) rfl) (by rfl) T.m_list (by decide +kernel) (pa_cons (pv 10) pa_nil)) pa_nil))))) (pv 8) (nomark _)) (pss_one (ps_ret pe_bl)) pss_nil)
      (pss_cons (ps_if (PW.pt (pw_or (pt_cmpR (op_eqD hr.units) (pv 3) (pe_lstN pa_nil) (nomark _)) (pw_or1 (pt_cmpR op_ne (pe_ix (ix_tupA (K := K) rfl) (pe_ix (ix_listA (K := K) rfl) (pe_ix (ix_tupA (K := K) rfl) (pv 1) pe_int (fun _ _ => rfl)) (pe_ix (ix_listA (K := K) rfl) (pv 3) pe_int (fun _ _ => rfl)) (fun _ _ => rfl)) pe_int (fun _ _ => rfl)) pe_int (nomark _))))) (pss_one (ps_ret (pe_cmpR op_eq (pe_call (ok_room_of T) (hr.mono (by decide)) rfl T.g_room_of T.F_room_of.kp T.b_room_of .nil passL (pa_cons (pv 2) (pa_cons (pv 3) pa_nil))) (pv 5) (nomark _)))) pss_nil)
      (pss_cons (ps_if (pt_cmpR op_ne (pe_call (ok_room_of T) (hr.mono (by decide)) rfl T.g_room_of T.F_room_of.kp T.b_room_of .nil passL (pa_cons (pv 2) (pa_cons (pe_op op_repN (pe_lstN (pa_cons (pe_ix (ix_listA (K := K) rfl) (pv 3) pe_int (fun _ _ => rfl)) pa_nil)) pe_int) pa_nil))) (pe_ix (ix_tupA (K := K) rfl) (pe_ix (ix_listA (K := K) rfl) (pe_ix (ix_tupA (K := K) rfl) (pv 1) pe_int (fun _ _ => rfl)) pe_int (fun _ _ => rfl)) pe_int (fun _ _ => rfl)) (nomark _)) (pss_one (ps_ret pe_bl)) pss_nil)
      (pss_one (ps_ret (pe_and (pe_cmpR op_eq (pe_call (ok_l_refused T) (hr.mono (by decide)) rfl T.g_l_refused T.F_l_refused.kp T.b_l_refused .nil pass0 (pa_cons pe_int (pa_cons (pv 2) (pa_cons (pe_op op_repN (pe_lstN (pa_cons (pe_ix (ix_listA (K := K) rfl) (pv 3) pe_int (fun _ _ => rfl)) pa_nil)) pe_int) (pa_cons (pe_lstN pa_nil) pa_nil))))) pe_str (nomark _)) (pe_one (pe_cmpR op_eq (pe_call (ok_room_of T) (hr.mono (by decide)) rfl T.g_room_of T.F_room_of.kp T.b_room_of .nil passL (pa_cons (pv 2) (pa_cons (pv 3) pa_nil))) (pv 5) (nomark _))))))))))))))))))))), ?_⟩
    refine seq_step ?_
    walk_at "rd"
    refine ⟨a, cs, rfl, hS, h63, fun ps H1 S s1 hs ok => ?_⟩
    have mok := ok.mach
    have msz : MSz S.mach := ⟨fun r hr l hl => by
      obtain ⟨n, e, _, sz⟩ := (ok.st r hr).2.2 l hl
      rw [e]; exact sz.mono (by decide), fun d hd l hl => by
      obtain ⟨d', hd', rfl⟩ := List.mem_map.mp hd
      obtain ⟨n, e, _, sz⟩ := (ok.d d' hd').2.2.2.2.1 l hl
      rw [e]; exact sz.mono (by decide)⟩
    refine seq_step ?_
    walk_at "rd"
    refine ⟨ps, S, rfl, hs, ok, fun pm H2 s2 hm => ?_⟩
    refine seq_step ?_
    walk_at "rd"
    have s02 := s1.trans s2
    refine ⟨_, s02.seq hS, fun pc H3 s3 f3 e3 => ?_⟩
    obtain ⟨ds, eds, dl⟩ := cut_ints (cs := cs) (a := 12) (b := 22) (by decide)
    have e3 : H3 pc = some (.lst (ds.map V.int)) := by rw [← eds]; exact e3
    have s13 := s2.trans s3
    refine ⟨ps, pc, S, ds, rfl, hs.keep s13, ok, e3, by omega, fun q4 pr H4 road ri s4 e4 er rl rok hri hgo => ?_⟩
    refine gTup_of (sqt e4) rfl ?_
    walk_at "rd"
    refine seq_step ?_
    walk_at "rd"
    have s14 := s13.trans s4
    have s04 := s1.trans s14
    refine ⟨_, .inl (.of er), fun pr2 H5 s5 f5 e5 => ?_⟩
    have s15 := s14.trans s5
    refine ⟨pm, pr2, S.mach, road, rfl, hm.keep (s3.trans (s4.trans s5)), mok, .of e5, fun e he _ H6 s6 => ?_, fun hb => ?_⟩
    rotate_left
    · rcases hb with hb | hb
      · rw [hgo] at hb; cases hb
      · omega
    have he : e = S.name ri := by rw [hgo] at he; exact (Option.some.inj he).symm
    subst he
    have s16 := s15.trans s6
    obtain ⟨pw, prm, pd, es, hw, hrs, hds⟩ := id hs
    obtain ⟨dqs, d1, d2, d3⟩ := id hds
    obtain ⟨rqs, r1, r2, r3⟩ := id hrs
    have d6 := ok.d6
    have rname : ∀ {ri : Nat} {H' : Hp} {Q' : VK}, ri < S.rooms.length → Same H1 H' → Q' (.str (S.name ri)) H' → rIxT K (.ref ps) (.int 1) H' fun x H2 => rIxL K x (.int ri) H2 fun x2 H3 => rIxT K x2 (.int 0) H3 Q' := fun {ri H' Q'} rl s q => by
      obtain ⟨qr, hqr⟩ : ∃ qr, rqs[ri]? = some qr := ⟨_, List.getElem?_eq_getElem (by omega)⟩
      obtain ⟨r, hr2⟩ : ∃ r, S.rooms[ri]? = some r := ⟨_, List.getElem?_eq_getElem rl⟩
      obtain ⟨g, er, _⟩ := r3 ri qr r hqr hr2
      have en : S.name ri = r.1 := by unfold Spec.name; rw [List.getD_eq_getElem?_getD, List.getElem?_map, hr2]; rfl
      refine ix_t (sqt (s _ _ es)) (by decide) rfl ?_
      refine ix_l (.of (s _ _ r1)) (by omega) (by rw [Int.toNat_natCast, List.getElem?_map, hqr]; rfl) ?_
      refine ix_t (sqt (s _ _ er)) (by decide) rfl ?_
      rw [en] at q; exact q
    refine seq_step ?_
    walk_at "rd"
    refine isi (r := true) (.base (.str _)) (by decide +kernel) ?_
    walk_at "rd"
    refine rname hri s16 ?_
    refine ⟨rfl, if_f (by rw [decide_eq_true rfl]; rfl) ?_⟩
    refine seq_step ?_
    walk_at "rd"
    have s06 := s1.trans s16
    have s46 := s5.trans s6
    refine ⟨a, cs, 22, rfl, s06.seq hS, by decide, ?_⟩
    generalize cs.getD (22 : Int).toNat 0 = c22
    walk_at "rd"
    refine seq_step ?_
    walk_at "rd"
    refine ⟨ps, pr, S, road, _, rfl, hs.keep s16, ok, s46 _ _ er, by omega, fun pb H7 bad s7 eb hbl => ?_⟩
    have s17 := s16.trans s7
    walk_at "rd"
    refine seq_step ?_
    walk_at "rd"
    intro pw2 H8 s8 f8 e8
    have s18 := s17.trans s8
    refine ⟨ps, pb, S, bad, rfl, hs.keep s18, ok, s8 _ _ eb, ?_⟩
    obtain ⟨wh, ewh⟩ : ∃ wh, c22.fmod 5 = wh := ⟨_, rfl⟩
    have whb := fm_pos (c := c22) (m := 5) (by decide)
    rw [ewh] at whb
    have cas : ((∃ e, goRd S.mach (room0 S.mach) bad = some e) ∧ bad.length ≤ 11) ∨ (goRd S.mach (room0 S.mach) bad = none ∨ 200 < bad.length) := by
      cases hg : goRd S.mach (room0 S.mach) bad with
      | none => exact .inr (.inl rfl)
      | some e =>
        rcases hbl with h | h
        · exact .inl ⟨⟨e, rfl⟩, h⟩
        · exact .inr (.inr (by omega))
    obtain ⟨D, hD⟩ : ∃ D : Str, (((∃ e, goRd S.mach (room0 S.mach) bad = some e) ∧ bad.length ≤ 11) ∧ D = "none") ∨ ((goRd S.mach (room0 S.mach) bad = none ∨ 200 < bad.length) ∧ D = "road") := by
      rcases cas with h | h
      · exact ⟨_, .inl ⟨h, rfl⟩⟩
      · exact ⟨_, .inr ⟨h, rfl⟩⟩
    have ex : (goRd S.mach (room0 S.mach) bad = none ∨ 200 < bad.length) → ∀ e, goRd S.mach (room0 S.mach) bad = some e → bad.length ≤ 200 → False := fun hn e he hl => by
      rcases hn with hn | hn
      · rw [he] at hn; cases hn
      · omega
    refine pick_D (g := fun e => goRd S.mach (room0 S.mach) bad = some e) (l := bad.length ≤ 200) (n := goRd S.mach (room0 S.mach) bad = none ∨ 200 < bad.length) e8 (hD.imp (fun h => ⟨⟨h.1.1, by omega⟩, h.2⟩) id) ex ?_
    have hl := hbl
    refine seq_step ?_
    walk_at "rd"
    rw [ewh]
    have s48 := s46.trans (s7.trans s8)
    have hm8 := hm.keep (s3.trans (s4.trans (s46.trans (s7.trans s8))))
    have eb8 := s8 _ _ eb
    have ng : ∀ {H' : Hp} {pg q1 : Addr}, H' pg = some (.lst [.ref q1]) → H' q1 = some (.tup [.str "", .str "<", .int 1]) → NoGuard K H' WORDS S.mach.watches (.ref pg) := fun {H' pg q1} e1 e2 => by
      refine .lst (bs := [false]) e1 rfl (show 1 ≤ 60 by decide) (fun i x b h1 h2 => ?_) rfl
      match i, h1, h2 with
      | 0, h1, h2 =>
        cases h1; cases h2
        refine .inl ⟨q1, ("", "<", .int 1), rfl, ⟨e2, rfl⟩, ?_⟩
        have : ("" : Str) ∉ S.mach.watches := fun h => by
          have := mok.watch _ h
          revert this; decide +kernel
        unfold lookOk
        rw [decide_eq_false this]; rfl
    have as1 : ∀ {H' : Hp} {pg : Addr} {a b c : Prop}, H' pg = some (.lst []) → ((goRd S.mach (room0 S.mach) bad = none ∨ 200 < bad.length) → a) → (((∃ e, goRd S.mach (room0 S.mach) bad = some e) ∧ bad.length ≤ 11) → c) → Asked51 K H' S.mach bad wh (.ref pg) a b c := fun {H' pg a b c} e1 ha hc => by
      rcases hD with ⟨g, _⟩ | ⟨g, _⟩
      · by_cases w0 : wh = 0
        · exact .inr (.inl ⟨g.1, by omega, w0, hc g⟩)
        · refine .inr (.inr (.inr ⟨by omega, pg, [], rfl, by omega, ?_, g.1, ⟨[], e1, rfl, fun i q x h => by cases h⟩, by decide, rfl, (fun l hl => by cases hl), hc g⟩))
          intro k hk
          obtain ⟨i, hi, ek⟩ := List.mem_iff_getElem.mp hk
          obtain ⟨e, he⟩ := g.1
          obtain ⟨_, _, k', _, hk', k0, _⟩ := goRd_at he hi
          rw [List.getElem?_eq_getElem hi, ek] at hk'
          cases hk'; exact k0
      · exact .inl ⟨g, ha g⟩
    have as2 : ∀ {H' : Hp} {pg q1 : Addr} {a b c : Prop}, H' pg = some (.lst [.ref q1]) → H' q1 = some (.tup [.str "", .str "<", .int 1]) → ((goRd S.mach (room0 S.mach) bad = none ∨ 200 < bad.length) → a) → (0 < wh → ((∃ e, goRd S.mach (room0 S.mach) bad = some e) ∧ bad.length ≤ 11) → b) → (wh = 0 → ((∃ e, goRd S.mach (room0 S.mach) bad = some e) ∧ bad.length ≤ 11) → c) → Asked51 K H' S.mach bad wh (.ref pg) a b c := fun {H' pg q1 a b c} e1 e2 ha hb hc => by
      rcases hD with ⟨g, _⟩ | ⟨g, _⟩
      · by_cases w0 : wh = 0
        · exact .inr (.inl ⟨g.1, by omega, w0, hc w0 g⟩)
        · exact .inr (.inr (.inl ⟨by omega, by omega, g.1, ng e1 e2, hb (by omega) g⟩))
      · exact .inl ⟨g, ha g⟩
    have ng2 : (goRd S.mach (room0 S.mach) bad = none ∨ 200 < bad.length) → ((∃ e, goRd S.mach (room0 S.mach) bad = some e) ∧ bad.length ≤ 11) → False := fun n ⟨⟨e, he⟩, hl⟩ => ex n e he (by omega)
    have Dr : (goRd S.mach (room0 S.mach) bad = none ∨ 200 < bad.length) → D = "road" := fun n => hD.elim (fun h => (ng2 n h.1).elim) (·.2)
    have Dn : ((∃ e, goRd S.mach (room0 S.mach) bad = some e) ∧ bad.length ≤ 11) → D = "none" := fun g => hD.elim (·.2) (fun h => (ng2 h.1 g).elim)
    have inner : ∀ {Q' : VK}, (∀ H', Same H8 H' → Q' (.str D) H') → ∃ x, (SqL K H8 pb x ∨ SqT K H8 pb x) ∧ ∀ (l : Addr) (H2 : Hp), Same H8 H2 → H8 l = none → H2 l = some (.lst x) → ∀ (p : Addr) (H3 : Hp), Same H2 H3 → H2 p = none → H3 p = some (.lst []) → spRefused51 K T.C_Machine T.C_Door [.int wh, .ref pm, .ref l, .ref p] H3 Q' E0 := fun {Q'} hq =>
      ⟨_, .inl (.of eb8), fun l Ha sa fa ea p Hb sb fb ebb => ⟨pm, l, .ref p, S.mach, bad, wh, rfl, whb.1, by omega, hm8.keep (sa.trans sb), mok, msz, .of (sb _ _ ea), as1 ebb (fun n H' s' => by rw [← Dr n]; exact hq _ (sa.trans (sb.trans s'))) (fun g H' s' => by rw [← Dn g]; exact hq _ (sa.trans (sb.trans s')))⟩⟩
    have nD : ∀ (x y : Str), x = y → (!decide (V.str x = V.str y)) = false := fun x y h => by rw [h, decide_eq_true rfl]; rfl
    refine join_op (fun σ' H' => σ' = [some (.ref a), some (.ref ps), some (.ref pm), some (.ref pr), some (.int ri), some (.str (S.name ri)), some (.int c22), some (.ref pb), some (.str D), some (.int wh), none] ∧ Same H8 H') ?r1 (fun R' way => ?_)
    rotate_left
    · refine seq_step ?_
      walk_at "rd"
      refine ⟨_, .inl (.of eb8), ?_⟩
      rw [List.length_map]
      refine ite_d (fun _ => inner fun H' s' => ?_) (fun _ => ite_d (fun _ => inner fun H' s' => ?_) (fun _ => ?_))
      · exact ⟨rfl, if_f (nD _ _ rfl) (way _ _ ⟨rfl, s'⟩)⟩
      · exact ⟨rfl, if_f (nD _ _ rfl) (way _ _ ⟨rfl, s'⟩)⟩
      · exact way _ _ ⟨rfl, Same.refl _⟩
    rintro σ' Ha ⟨rfl, sa⟩
    refine seq_step ?_
    walk_at "rd"
    intro q1 Hb sb fb eb1 pg Hc sc fc ec
    have s8c := sa.trans (sb.trans sc)
    have eq1 := sc _ _ eb1
    refine join_op (fun σ' H' => (∃ D2 : Str, σ' = [some (.ref a), some (.ref ps), some (.ref pm), some (.ref pr), some (.int ri), some (.str (S.name ri)), some (.int c22), some (.ref pb), some (.str D2), some (.int wh), some (.ref pg)] ∧ ((goRd S.mach (room0 S.mach) bad = none ∨ 200 < bad.length) → D2 = "road") ∧ (0 < wh → ((∃ e, goRd S.mach (room0 S.mach) bad = some e) ∧ bad.length ≤ 11) → D2 = "mark") ∧ (wh = 0 → ((∃ e, goRd S.mach (room0 S.mach) bad = some e) ∧ bad.length ≤ 11) → D2 = "none")) ∧ H' = Hc) ?r2 (fun R' way => ?_)
    rotate_left
    · refine seq_step ?_
      walk_at "rd"
      have ngm : D = "road" → ¬ (V.str D = V.str "none") := fun e h => by rw [e] at h; injection h with h; revert h; decide +kernel
      have cD : (D = "none" ∧ ((∃ e, goRd S.mach (room0 S.mach) bad = some e) ∧ bad.length ≤ 11)) ∨ (D = "road" ∧ (goRd S.mach (room0 S.mach) bad = none ∨ 200 < bad.length)) := hD.imp (fun h => ⟨h.2, h.1⟩) (fun h => ⟨h.2, h.1⟩)
      refine ite_d (fun c => ?_) (fun c => ?_)
      · refine ite_d (fun c2 => ?_) (fun c2 => ?_)
        · refine way _ _ ⟨⟨"mark", rfl, fun n => absurd c (ngm (Dr n)), fun _ _ => rfl, fun h => by omega⟩, rfl⟩
        · refine way _ _ ⟨⟨D, rfl, fun n => Dr n, fun h => absurd h c2, fun _ g => Dn g⟩, rfl⟩
      · rcases cD with ⟨e, g⟩ | ⟨e, n⟩
        · exact absurd (by rw [e]) c
        · exact way _ _ ⟨⟨D, rfl, fun n => Dr n, fun _ g => (ng2 n g).elim, fun _ g => (ng2 n g).elim⟩, rfl⟩
    rintro σ' Hd ⟨⟨D2, rfl, k1, k2, k3⟩, rfl⟩
    refine join_op (fun σ' H' => σ' = [some (.ref a), some (.ref ps), some (.ref pm), some (.ref pr), some (.int ri), some (.str (S.name ri)), some (.int c22), some (.ref pb), some (.str D2), some (.int wh), some (.ref pg)] ∧ Same Hd H') ?r3 (fun R' way => ?_)
    rotate_left
    · refine seq_step ?_
      walk_at "rd"
      refine ⟨_, .inl (.of (s8c _ _ eb8)), fun l1 He se fe ee => ⟨_, .inl (.of (se _ _ ec)), fun l2 Hf sf ff ef => ?_⟩⟩
      refine ⟨pm, l1, .ref l2, S.mach, bad, wh, rfl, whb.1, by omega, hm8.keep (s8c.trans (se.trans sf)), mok, msz, .of (sf _ _ ee), as2 ef ((se.trans sf) _ _ eq1) (fun n H' s' => ?_) (fun w0 g H' s' => ?_) (fun w0 g H' s' => ?_)⟩
      · exact ⟨rfl, if_f (nD _ _ (k1 n).symm) (way _ _ ⟨rfl, se.trans (sf.trans s')⟩)⟩
      · exact ⟨rfl, if_f (nD _ _ (k2 w0 g).symm) (way _ _ ⟨rfl, se.trans (sf.trans s')⟩)⟩
      · exact ⟨rfl, if_f (nD _ _ (k3 w0 g).symm) (way _ _ ⟨rfl, se.trans (sf.trans s')⟩)⟩
    rintro σ' He ⟨rfl, se⟩
    have s8e := s8c.trans se
    have s4e := s48.trans s8e
    have s1e := s18.trans s8e
    have ere := s4e _ _ er
    refine seq_step ?_
    walk_at "rd"
    have rof : ∀ {H' : Hp} {Q' : VK}, Same He H' → (∀ H'', Q' (.str (S.name ri)) H'') → spRoomOf K T.C_Machine T.C_Door T.C_NoRoad [.ref pm, .ref pr] H' Q' E0 := fun {H' Q'} s h =>
      ⟨pm, pr, S.mach, road, rfl, hm8.keep (s8e.trans s), mok, .of (s _ _ ere), fun e he _ H'' _ => by rw [hgo] at he; cases he; exact h H'', fun hb => by
        rcases hb with hb | hb
        · rw [hgo] at hb; cases hb
        · omega⟩
    intro pn Hf sf ff ef
    have shp : ∀ xs : List Int, SeqAt.shaped (.list (xs.map PyData.int)) = true := fun xs => Bool.and_eq_true_iff.mpr ⟨(lay_ints xs).1, decide_eq_true (by have := (lay_ints xs).2; omega)⟩
    refine ⟨_, _, dp_ints (sf _ _ ere), .lst (.of ef) .nil, shp _, rfl, ?_⟩
    rw [list_eqv]
    refine ⟨_, rfl, ?_⟩
    cases road with
    | nil =>
      refine if_t rfl (rof sf fun H'' => ⟨rfl, ?_⟩)
      rw [decide_eq_true rfl]; exact q _
    | cons k rest =>
      refine if_f (decide_eq_false (by intro h; cases h)) ?_
      have s1f := s1e.trans sf
      obtain ⟨k0, kl⟩ := rok k List.mem_cons_self
      obtain ⟨qd, hqd⟩ : ∃ qd, dqs[k.toNat]? = some qd := ⟨_, List.getElem?_eq_getElem (by omega)⟩
      obtain ⟨l, hl2⟩ : ∃ l, S.doors[k.toNat]? = some l := ⟨_, List.getElem?_eq_getElem (by omega)⟩
      obtain ⟨g, n, el, _, _⟩ := d3 _ qd l hqd hl2
      refine ix_t (sqt (s1f _ _ es)) (by decide) rfl ?_
      refine ix_l (.of (sf _ _ ere)) (by decide) rfl ?_
      refine ix_l (.of (s1f _ _ d1)) k0 (by rw [List.getElem?_map, hqd]; rfl) ?_
      refine ix_t (sqt (s1f _ _ el)) (by decide) rfl ?_
      refine ⟨rfl, ?_⟩
      by_cases le0 : l.e = 0
      rotate_left
      · refine if_t (by rw [decide_eq_false fun h => le0 (by injection h with h; omega)]; rfl) (rof sf fun H'' => ⟨rfl, ?_⟩)
        rw [decide_eq_true rfl]; exact q _
      refine if_f (by rw [le0]; rfl) ?_
      obtain ⟨r1', d', k', g1, hk', _, hd', sg, st, _⟩ := goRd_at hgo (show 0 < (k :: rest).length by simp)
      have ek : k' = k := by simpa using hk'.symm
      subst ek
      have er0 : r1' = room0 S.mach := by
        have : goRd S.mach (room0 S.mach) ((k' :: rest).take 0) = some (room0 S.mach) := rfl
        rw [this] at g1; exact (Option.some.inj g1).symm
      have edl : d' = S.door l := by
        have : S.mach.doors[k'.toNat]? = some (S.door l) := by
          show (S.doors.map S.door)[k'.toNat]? = _
          rw [List.getElem?_map, hl2]; rfl
        rw [this] at hd'; exact (Option.some.inj hd').symm
      have en0 : d'.en = room0 S.mach := by
        rw [edl]; show S.name l.e = _; rw [le0, name0]
      have loop : ∀ n, goRd S.mach (room0 S.mach) (List.replicate n k') = some (room0 S.mach) := fun n => by
        have := rep_road k0 hd' sg (by rw [st, er0, en0]) n
        rw [st, er0] at this; exact this
      refine seq_step ?_
      walk_at "rd"
      refine ix_l (.of (sf _ _ ere)) (by decide) rfl ?_
      intro p1 Hg sg1 fg eg
      refine ⟨_, eg, Nat.le_of_lt (small_lot (show 1 * 200 ≤ 5000 by decide)), fun p2 Hh sh fh eh => ?_⟩
      have eh : Hh p2 = some (.lst ((List.replicate 200 k').map V.int)) := by rw [← rep_ints]; exact eh
      have seh := sf.trans (sg1.trans sh)
      have l200 : (List.replicate 200 k').length = 200 := List.length_replicate
      refine ⟨pm, p2, S.mach, List.replicate 200 k', rfl, hm8.keep (s8e.trans seh), mok, .of eh, fun e he _ Hi si => ?_, fun hb => ?_⟩
      rotate_left
      · rcases hb with hb | hb
        · rw [loop] at hb; cases hb
        · omega
      have ee : e = S.name 0 := by rw [loop] at he; rw [name0]; exact (Option.some.inj he).symm
      subst ee
      have sei := seh.trans si
      refine rname (ri := 0) ok.r1 (s1e.trans sei) ?_
      refine ⟨rfl, if_f (nD _ _ rfl) ?_⟩
      walk_at "rd"
      refine ix_l (.of (sei _ _ ere)) (by decide) rfl ?_
      intro p3 Hj sj fj ej
      refine ⟨_, ej, Nat.le_of_lt (small_lot (show 1 * 201 ≤ 5000 by decide)), fun p4 Hk sk fk ekk p5 Hl sl fl ell => ?_⟩
      have ekk : Hk p4 = some (.lst ((List.replicate 201 k').map V.int)) := by rw [← rep_ints]; exact ekk
      have sel := sei.trans (sj.trans (sk.trans sl))
      have l201 : (List.replicate 201 k').length = 201 := List.length_replicate
      refine ⟨pm, p4, .ref p5, S.mach, List.replicate 201 k', 0, rfl, Int.le_refl _, by decide, hm8.keep (s8e.trans sel), mok, msz, .of (sl _ _ ekk), .inl ⟨.inr (by omega), fun Hm sm => ?_⟩⟩
      refine ⟨rfl, ?_⟩
      refine if_t (by rw [decide_eq_true rfl]) (rof (((sf.trans sg1).trans sh).trans (si.trans (sj.trans (sk.trans (sl.trans sm))))) fun H'' => ⟨rfl, ?_⟩)
      rw [decide_eq_true rfl]; exact q _
end
/-! ### what the top has left -/
theorem all_mk {P : Program} {w : World} {K : PySem.W.Frag} {h : Heap} {mg : Str → Option Value} {fa : Addr} (X : K.In h) (G : h.Ns mainGlobals mg) (hfa : mg "law" = some (.ref fa))
    {CDoor : Addr}
    {CMachine : Addr}
    {tBELOW : Addr} {oBELOW : Obj} {nBELOW : Nat} {tkBELOW0 tkBELOW1 : Tok}
    {tWORDS : Addr} {oWORDS : Obj} {nWORDS : Nat} {tkWORDS0 tkWORDS1 tkWORDS2 tkWORDS3 tkWORDS4 : Tok}
    {f0 : Addr} {od0 an0 : Option Addr} {sl0 : Array (Option Value)} {oc0 kV0 dc0 pm0 cd0 ct0 : Value}
    {f1 : Addr} {od1 an1 : Option Addr} {sl1 : Array (Option Value)} {oc1 kV1 dc1 pm1 cd1 ct1 : Value}
    {f2 : Addr} {od2 an2 : Option Addr} {sl2 : Array (Option Value)} {oc2 kV2 dc2 pm2 cd2 ct2 : Value}
    {f3 : Addr} {od3 an3 : Option Addr} {sl3 : Array (Option Value)} {oc3 kV3 dc3 pm3 cd3 ct3 : Value}
    {f4 : Addr} {od4 an4 : Option Addr} {sl4 : Array (Option Value)} {oc4 kV4 dc4 pm4 cd4 ct4 : Value}
    {f5 : Addr} {od5 an5 : Option Addr} {sl5 : Array (Option Value)} {oc5 kV5 dc5 pm5 cd5 ct5 : Value}
    {f6 : Addr} {od6 an6 : Option Addr} {sl6 : Array (Option Value)} {oc6 kV6 dc6 pm6 cd6 ct6 : Value}
    {f7 : Addr} {od7 an7 : Option Addr} {sl7 : Array (Option Value)} {oc7 kV7 dc7 pm7 cd7 ct7 : Value}
    {f8 : Addr} {od8 an8 : Option Addr} {sl8 : Array (Option Value)} {oc8 kV8 dc8 pm8 cd8 ct8 : Value}
    {t8 : Addr} {o8 : Obj} {n8 : Nat}
    {tk8 : Tok}
    {f9 : Addr} {od9 an9 : Option Addr} {sl9 : Array (Option Value)} {oc9 kV9 dc9 pm9 cd9 ct9 : Value}
    {f10 : Addr} {od10 an10 : Option Addr} {sl10 : Array (Option Value)} {oc10 kV10 dc10 pm10 cd10 ct10 : Value}
    {f11 : Addr} {od11 an11 : Option Addr} {sl11 : Array (Option Value)} {oc11 kV11 dc11 pm11 cd11 ct11 : Value}
    {f12 : Addr} {od12 an12 : Option Addr} {sl12 : Array (Option Value)} {oc12 kV12 dc12 pm12 cd12 ct12 : Value}
    {f13 : Addr} {od13 an13 : Option Addr} {sl13 : Array (Option Value)} {oc13 kV13 dc13 pm13 cd13 ct13 : Value}
    {f14 : Addr} {od14 an14 : Option Addr} {sl14 : Array (Option Value)} {oc14 kV14 dc14 pm14 cd14 ct14 : Value}
    {f15 : Addr} {od15 an15 : Option Addr} {sl15 : Array (Option Value)} {oc15 kV15 dc15 pm15 cd15 ct15 : Value}
    {f16 : Addr} {od16 an16 : Option Addr} {sl16 : Array (Option Value)} {oc16 kV16 dc16 pm16 cd16 ct16 : Value}
    {f17 : Addr} {od17 an17 : Option Addr} {sl17 : Array (Option Value)} {oc17 kV17 dc17 pm17 cd17 ct17 : Value}
    {f18 : Addr} {od18 an18 : Option Addr} {sl18 : Array (Option Value)} {oc18 kV18 dc18 pm18 cd18 ct18 : Value}
    {t18 : Addr} {o18 : Obj} {n18 : Nat}
    {tk18 : Tok}
    {f19 : Addr} {od19 an19 : Option Addr} {sl19 : Array (Option Value)} {oc19 kV19 dc19 pm19 cd19 ct19 : Value}
    {f20 : Addr} {od20 an20 : Option Addr} {sl20 : Array (Option Value)} {oc20 kV20 dc20 pm20 cd20 ct20 : Value}
    {f21 : Addr} {od21 an21 : Option Addr} {sl21 : Array (Option Value)} {oc21 kV21 dc21 pm21 cd21 ct21 : Value}
    {f22 : Addr} {od22 an22 : Option Addr} {sl22 : Array (Option Value)} {oc22 kV22 dc22 pm22 cd22 ct22 : Value}
    {f23 : Addr} {od23 an23 : Option Addr} {sl23 : Array (Option Value)} {oc23 kV23 dc23 pm23 cd23 ct23 : Value}
    {f24 : Addr} {od24 an24 : Option Addr} {sl24 : Array (Option Value)} {oc24 kV24 dc24 pm24 cd24 ct24 : Value}
    {f25 : Addr} {od25 an25 : Option Addr} {sl25 : Array (Option Value)} {oc25 kV25 dc25 pm25 cd25 ct25 : Value}
    {f26 : Addr} {od26 an26 : Option Addr} {sl26 : Array (Option Value)} {oc26 kV26 dc26 pm26 cd26 ct26 : Value}
    {f27 : Addr} {od27 an27 : Option Addr} {sl27 : Array (Option Value)} {oc27 kV27 dc27 pm27 cd27 ct27 : Value}
    {f28 : Addr} {od28 an28 : Option Addr} {sl28 : Array (Option Value)} {oc28 kV28 dc28 pm28 cd28 ct28 : Value}
    {f29 : Addr} {od29 an29 : Option Addr} {sl29 : Array (Option Value)} {oc29 kV29 dc29 pm29 cd29 ct29 : Value}
    {f30 : Addr} {od30 an30 : Option Addr} {sl30 : Array (Option Value)} {oc30 kV30 dc30 pm30 cd30 ct30 : Value}
    {f31 : Addr} {od31 an31 : Option Addr} {sl31 : Array (Option Value)} {oc31 kV31 dc31 pm31 cd31 ct31 : Value}
    {f32 : Addr} {od32 an32 : Option Addr} {sl32 : Array (Option Value)} {oc32 kV32 dc32 pm32 cd32 ct32 : Value}
    {f33 : Addr} {od33 an33 : Option Addr} {sl33 : Array (Option Value)} {oc33 kV33 dc33 pm33 cd33 ct33 : Value}
    {f34 : Addr} {od34 an34 : Option Addr} {sl34 : Array (Option Value)} {oc34 kV34 dc34 pm34 cd34 ct34 : Value}
    {f35 : Addr} {od35 an35 : Option Addr} {sl35 : Array (Option Value)} {oc35 kV35 dc35 pm35 cd35 ct35 : Value}
    {f36 : Addr} {od36 an36 : Option Addr} {sl36 : Array (Option Value)} {oc36 kV36 dc36 pm36 cd36 ct36 : Value}
    {f37 : Addr} {od37 an37 : Option Addr} {sl37 : Array (Option Value)} {oc37 kV37 dc37 pm37 cd37 ct37 : Value}
    {f38 : Addr} {od38 an38 : Option Addr} {sl38 : Array (Option Value)} {oc38 kV38 dc38 pm38 cd38 ct38 : Value}
    {f39 : Addr} {od39 an39 : Option Addr} {sl39 : Array (Option Value)} {oc39 kV39 dc39 pm39 cd39 ct39 : Value}
    {f40 : Addr} {od40 an40 : Option Addr} {sl40 : Array (Option Value)} {oc40 kV40 dc40 pm40 cd40 ct40 : Value}
    {f41 : Addr} {od41 an41 : Option Addr} {sl41 : Array (Option Value)} {oc41 kV41 dc41 pm41 cd41 ct41 : Value}
    {f42 : Addr} {od42 an42 : Option Addr} {sl42 : Array (Option Value)} {oc42 kV42 dc42 pm42 cd42 ct42 : Value}
    {f43 : Addr} {od43 an43 : Option Addr} {sl43 : Array (Option Value)} {oc43 kV43 dc43 pm43 cd43 ct43 : Value}
    {f44 : Addr} {od44 an44 : Option Addr} {sl44 : Array (Option Value)} {oc44 kV44 dc44 pm44 cd44 ct44 : Value}
    {f45 : Addr} {od45 an45 : Option Addr} {sl45 : Array (Option Value)} {oc45 kV45 dc45 pm45 cd45 ct45 : Value}
    {f46 : Addr} {od46 an46 : Option Addr} {sl46 : Array (Option Value)} {oc46 kV46 dc46 pm46 cd46 ct46 : Value}
    {f47 : Addr} {od47 an47 : Option Addr} {sl47 : Array (Option Value)} {oc47 kV47 dc47 pm47 cd47 ct47 : Value}
    {f48 : Addr} {od48 an48 : Option Addr} {sl48 : Array (Option Value)} {oc48 kV48 dc48 pm48 cd48 ct48 : Value}
    {f49 : Addr} {od49 an49 : Option Addr} {sl49 : Array (Option Value)} {oc49 kV49 dc49 pm49 cd49 ct49 : Value}
    {f50 : Addr} {od50 an50 : Option Addr} {sl50 : Array (Option Value)} {oc50 kV50 dc50 pm50 cd50 ct50 : Value}
    {f51 : Addr} {od51 an51 : Option Addr} {sl51 : Array (Option Value)} {oc51 kV51 dc51 pm51 cd51 ct51 : Value}
    {f52 : Addr} {od52 an52 : Option Addr} {sl52 : Array (Option Value)} {oc52 kV52 dc52 pm52 cd52 ct52 : Value}
    {f53 : Addr} {od53 an53 : Option Addr} {sl53 : Array (Option Value)} {oc53 kV53 dc53 pm53 cd53 ct53 : Value}
    {f54 : Addr} {od54 an54 : Option Addr} {sl54 : Array (Option Value)} {oc54 kV54 dc54 pm54 cd54 ct54 : Value}
    {f55 : Addr} {od55 an55 : Option Addr} {sl55 : Array (Option Value)} {oc55 kV55 dc55 pm55 cd55 ct55 : Value}
    {f56 : Addr} {od56 an56 : Option Addr} {sl56 : Array (Option Value)} {oc56 kV56 dc56 pm56 cd56 ct56 : Value}
    {f57 : Addr} {od57 an57 : Option Addr} {sl57 : Array (Option Value)} {oc57 kV57 dc57 pm57 cd57 ct57 : Value}
    {f58 : Addr} {od58 an58 : Option Addr} {sl58 : Array (Option Value)} {oc58 kV58 dc58 pm58 cd58 ct58 : Value}
    {f59 : Addr} {od59 an59 : Option Addr} {sl59 : Array (Option Value)} {oc59 kV59 dc59 pm59 cd59 ct59 : Value}
    {CWalkError : Addr}
    {CNoNumber : Addr}
    {CBadMachine : Addr}
    {CTooMany : Addr}
    {CNoRun : Addr}
    {CNoMark : Addr}
    {CNoRoad : Addr}
    {uLETTERS : Tok}
    {uMOST_DOORS_machines : Tok}
    {uMOST_DOORS_roads : Tok}
    {uMOST_ROOMS : Tok}
    {uMOST_WATCHES : Tok}
    {uNOUGHT : Tok}
    (gDoor : PySem.W.nsIn K mainGlobals "Door" = some (some (.ref CDoor)))
    (pgDoor : PySem.W.plainGet K CDoor Str.empty = true)
    (hdDoor : PySem.W.hasDictIn K CDoor = true)
    (poDoor : PySem.W.plainOver K CDoor = true)
    (saDoor : PySem.W.findIn K (.ref CDoor) "__setattr__" = some (some (.builtin "object.__setattr__")))
    (mkDoor : PySem.W.makesIn K CDoor = true)
    (kcDoor : PySem.W.keepIn K (.ref CDoor) = true)
    (hcDoor : PySem.W.findIn K (.ref CDoor) "__class__" = some (some (.builtin "object.__class__")))
    (hnDoor : PySem.W.specialIn K (.builtin "object.__class__") "__get__" = some (some (.builtin "getset_descriptor.__get__")))
    (htDoor : PySem.W.takesIn K (.builtin "object.__class__") = some true)
    (hmDoor : PySem.W.mroIn K CDoor (.type "object") = some true)
    (nDoor_backs : PySem.W.findIn K (.ref CDoor) "backs" = some none)
    (nDoor_end : PySem.W.findIn K (.ref CDoor) "end" = some none)
    (nDoor_looks : PySem.W.findIn K (.ref CDoor) "looks" = some none)
    (nDoor_sign : PySem.W.findIn K (.ref CDoor) "sign" = some none)
    (nDoor_start : PySem.W.findIn K (.ref CDoor) "start" = some none)
    (gMachine : PySem.W.nsIn K mainGlobals "Machine" = some (some (.ref CMachine)))
    (pgMachine : PySem.W.plainGet K CMachine Str.empty = true)
    (hdMachine : PySem.W.hasDictIn K CMachine = true)
    (poMachine : PySem.W.plainOver K CMachine = true)
    (saMachine : PySem.W.findIn K (.ref CMachine) "__setattr__" = some (some (.builtin "object.__setattr__")))
    (mkMachine : PySem.W.makesIn K CMachine = true)
    (kcMachine : PySem.W.keepIn K (.ref CMachine) = true)
    (hcMachine : PySem.W.findIn K (.ref CMachine) "__class__" = some (some (.builtin "object.__class__")))
    (hnMachine : PySem.W.specialIn K (.builtin "object.__class__") "__get__" = some (some (.builtin "getset_descriptor.__get__")))
    (htMachine : PySem.W.takesIn K (.builtin "object.__class__") = some true)
    (hmMachine : PySem.W.mroIn K CMachine (.type "object") = some true)
    (nMachine_door_list : PySem.W.findIn K (.ref CMachine) "door_list" = some none)
    (nMachine_room_names : PySem.W.findIn K (.ref CMachine) "room_names" = some none)
    (nMachine_stay_looks : PySem.W.findIn K (.ref CMachine) "stay_looks" = some none)
    (nMachine_watch_names : PySem.W.findIn K (.ref CMachine) "watch_names" = some none)
    (gBELOW : PySem.W.nsIn K mainGlobals "BELOW" = some (some (.ref tBELOW)))
    (lBELOW : K.lookup tBELOW = some oBELOW)
    (cBELOW : oBELOW.cls = .type "tuple")
    (dBELOW : oBELOW.data = .seq ([Value.str "<" tkBELOW0, Value.str "<=" tkBELOW1] : List Value).toArray nBELOW)
    (gWORDS : PySem.W.nsIn K mainGlobals "WORDS" = some (some (.ref tWORDS)))
    (lWORDS : K.lookup tWORDS = some oWORDS)
    (cWORDS : oWORDS.cls = .type "tuple")
    (dWORDS : oWORDS.data = .seq ([Value.str "<" tkWORDS0, Value.str "<=" tkWORDS1, Value.str ">" tkWORDS2, Value.str ">=" tkWORDS3, Value.str "=" tkWORDS4] : List Value).toArray nWORDS)
    (a0 : PySem.W.nsIn K mainGlobals "at_most" = some (some (.ref f0)))
    (l0 : K.lookup f0 = some ⟨oc0, od0, .func (PySem.W.fnOf "at_most" "at_most" (defArgs s_at_most) (defBody s_at_most) (defScope s_at_most) .none kV0 dc0 pm0 an0 cd0 ct0), sl0⟩)
    (c0 : PySem.W.codeIn K cd0 "at_most" = true)
    (k0 : PySem.W.keepIn K (.ref f0) = true)
    (a1 : PySem.W.nsIn K mainGlobals "below" = some (some (.ref f1)))
    (l1 : K.lookup f1 = some ⟨oc1, od1, .func (PySem.W.fnOf "below" "below" (defArgs s_below) (defBody s_below) (defScope s_below) .none kV1 dc1 pm1 an1 cd1 ct1), sl1⟩)
    (c1 : PySem.W.codeIn K cd1 "below" = true)
    (k1 : PySem.W.keepIn K (.ref f1) = true)
    (a2 : PySem.W.nsIn K mainGlobals "number_of" = some (some (.ref f2)))
    (l2 : K.lookup f2 = some ⟨oc2, od2, .func (PySem.W.fnOf "number_of" "number_of" (defArgs s_number_of) (defBody s_number_of) (defScope s_number_of) .none kV2 dc2 pm2 an2 cd2 ct2), sl2⟩)
    (c2 : PySem.W.codeIn K cd2 "number_of" = true)
    (k2 : PySem.W.keepIn K (.ref f2) = true)
    (a3 : PySem.W.nsIn K mainGlobals "is_open" = some (some (.ref f3)))
    (l3 : K.lookup f3 = some ⟨oc3, od3, .func (PySem.W.fnOf "is_open" "is_open" (defArgs s_is_open) (defBody s_is_open) (defScope s_is_open) .none kV3 dc3 pm3 an3 cd3 ct3), sl3⟩)
    (c3 : PySem.W.codeIn K cd3 "is_open" = true)
    (k3 : PySem.W.keepIn K (.ref f3) = true)
    (a4 : PySem.W.nsIn K mainGlobals "added" = some (some (.ref f4)))
    (l4 : K.lookup f4 = some ⟨oc4, od4, .func (PySem.W.fnOf "added" "added" (defArgs s_added) (defBody s_added) (defScope s_added) .none kV4 dc4 pm4 an4 cd4 ct4), sl4⟩)
    (c4 : PySem.W.codeIn K cd4 "added" = true)
    (k4 : PySem.W.keepIn K (.ref f4) = true)
    (a5 : PySem.W.nsIn K mainGlobals "narrower" = some (some (.ref f5)))
    (l5 : K.lookup f5 = some ⟨oc5, od5, .func (PySem.W.fnOf "narrower" "narrower" (defArgs s_narrower) (defBody s_narrower) (defScope s_narrower) .none kV5 dc5 pm5 an5 cd5 ct5), sl5⟩)
    (c5 : PySem.W.codeIn K cd5 "narrower" = true)
    (k5 : PySem.W.keepIn K (.ref f5) = true)
    (a6 : PySem.W.nsIn K mainGlobals "is_whole" = some (some (.ref f6)))
    (l6 : K.lookup f6 = some ⟨oc6, od6, .func (PySem.W.fnOf "is_whole" "is_whole" (defArgs s_is_whole) (defBody s_is_whole) (defScope s_is_whole) .none kV6 dc6 pm6 an6 cd6 ct6), sl6⟩)
    (c6 : PySem.W.codeIn K cd6 "is_whole" = true)
    (k6 : PySem.W.keepIn K (.ref f6) = true)
    (a7 : PySem.W.nsIn K mainGlobals "divisor" = some (some (.ref f7)))
    (l7 : K.lookup f7 = some ⟨oc7, od7, .func (PySem.W.fnOf "divisor" "divisor" (defArgs s_divisor) (defBody s_divisor) (defScope s_divisor) .none kV7 dc7 pm7 an7 cd7 ct7), sl7⟩)
    (c7 : PySem.W.codeIn K cd7 "divisor" = true)
    (k7 : PySem.W.keepIn K (.ref f7) = true)
    (a8 : PySem.W.nsIn K mainGlobals "fraction" = some (some (.ref f8)))
    (l8 : K.lookup f8 = some ⟨oc8, od8, .func (PySem.W.fnOf "fraction" "fraction" (defArgs s_fraction) (defBody s_fraction) (defScope s_fraction) (.ref t8) kV8 dc8 pm8 an8 cd8 ct8), sl8⟩)
    (c8 : PySem.W.codeIn K cd8 "fraction" = true)
    (k8 : PySem.W.keepIn K (.ref f8) = true)
    (lt8 : K.lookup t8 = some o8)
    (ld8 : o8.data = .seq ([Value.int 1 tk8] : List Value).toArray n8)
    (a9 : PySem.W.nsIn K mainGlobals "minus" = some (some (.ref f9)))
    (l9 : K.lookup f9 = some ⟨oc9, od9, .func (PySem.W.fnOf "minus" "minus" (defArgs s_minus) (defBody s_minus) (defScope s_minus) .none kV9 dc9 pm9 an9 cd9 ct9), sl9⟩)
    (c9 : PySem.W.codeIn K cd9 "minus" = true)
    (k9 : PySem.W.keepIn K (.ref f9) = true)
    (a10 : PySem.W.nsIn K mainGlobals "of_signs" = some (some (.ref f10)))
    (l10 : K.lookup f10 = some ⟨oc10, od10, .func (PySem.W.fnOf "of_signs" "of_signs" (defArgs s_of_signs) (defBody s_of_signs) (defScope s_of_signs) .none kV10 dc10 pm10 an10 cd10 ct10), sl10⟩)
    (c10 : PySem.W.codeIn K cd10 "of_signs" = true)
    (k10 : PySem.W.keepIn K (.ref f10) = true)
    (a11 : PySem.W.nsIn K mainGlobals "is_name" = some (some (.ref f11)))
    (l11 : K.lookup f11 = some ⟨oc11, od11, .func (PySem.W.fnOf "is_name" "is_name" (defArgs s_is_name) (defBody s_is_name) (defScope s_is_name) .none kV11 dc11 pm11 an11 cd11 ct11), sl11⟩)
    (c11 : PySem.W.codeIn K cd11 "is_name" = true)
    (k11 : PySem.W.keepIn K (.ref f11) = true)
    (a12 : PySem.W.nsIn K mainGlobals "is_watch_name" = some (some (.ref f12)))
    (l12 : K.lookup f12 = some ⟨oc12, od12, .func (PySem.W.fnOf "is_watch_name" "is_watch_name" (defArgs s_is_watch_name) (defBody s_is_watch_name) (defScope s_is_watch_name) .none kV12 dc12 pm12 an12 cd12 ct12), sl12⟩)
    (c12 : PySem.W.codeIn K cd12 "is_watch_name" = true)
    (k12 : PySem.W.keepIn K (.ref f12) = true)
    (a13 : PySem.W.nsIn K mainGlobals "is_sign" = some (some (.ref f13)))
    (l13 : K.lookup f13 = some ⟨oc13, od13, .func (PySem.W.fnOf "is_sign" "is_sign" (defArgs s_is_sign) (defBody s_is_sign) (defScope s_is_sign) .none kV13 dc13 pm13 an13 cd13 ct13), sl13⟩)
    (c13 : PySem.W.codeIn K cd13 "is_sign" = true)
    (k13 : PySem.W.keepIn K (.ref f13) = true)
    (a14 : PySem.W.nsIn K mainGlobals "is_look" = some (some (.ref f14)))
    (l14 : K.lookup f14 = some ⟨oc14, od14, .func (PySem.W.fnOf "is_look" "is_look" (defArgs s_is_look) (defBody s_is_look) (defScope s_is_look) .none kV14 dc14 pm14 an14 cd14 ct14), sl14⟩)
    (c14 : PySem.W.codeIn K cd14 "is_look" = true)
    (k14 : PySem.W.keepIn K (.ref f14) = true)
    (a15 : PySem.W.nsIn K mainGlobals "is_guard" = some (some (.ref f15)))
    (l15 : K.lookup f15 = some ⟨oc15, od15, .func (PySem.W.fnOf "is_guard" "is_guard" (defArgs s_is_guard) (defBody s_is_guard) (defScope s_is_guard) .none kV15 dc15 pm15 an15 cd15 ct15), sl15⟩)
    (c15 : PySem.W.codeIn K cd15 "is_guard" = true)
    (k15 : PySem.W.keepIn K (.ref f15) = true)
    (a16 : PySem.W.nsIn K mainGlobals "unlike" = some (some (.ref f16)))
    (l16 : K.lookup f16 = some ⟨oc16, od16, .func (PySem.W.fnOf "unlike" "unlike" (defArgs s_unlike) (defBody s_unlike) (defScope s_unlike) .none kV16 dc16 pm16 an16 cd16 ct16), sl16⟩)
    (c16 : PySem.W.codeIn K cd16 "unlike" = true)
    (k16 : PySem.W.keepIn K (.ref f16) = true)
    (a17 : PySem.W.nsIn K mainGlobals "own" = some (some (.ref f17)))
    (l17 : K.lookup f17 = some ⟨oc17, od17, .func (PySem.W.fnOf "own" "own" (defArgs s_own) (defBody s_own) (defScope s_own) .none kV17 dc17 pm17 an17 cd17 ct17), sl17⟩)
    (c17 : PySem.W.codeIn K cd17 "own" = true)
    (k17 : PySem.W.keepIn K (.ref f17) = true)
    (a18 : PySem.W.findIn K (.ref CDoor) "__init__" = some (some (.ref f18)))
    (i18 : PySem.W.isFn K (.ref f18) = true)
    (l18 : K.lookup f18 = some ⟨oc18, od18, .func (PySem.W.fnOf "__init__" "Door.__init__" (defArgs s_Door_init) (defBody s_Door_init) (defScope s_Door_init) (.ref t18) kV18 dc18 pm18 an18 cd18 ct18), sl18⟩)
    (c18 : PySem.W.codeIn K cd18 "Door.__init__" = true)
    (k18 : PySem.W.keepIn K (.ref f18) = true)
    (lt18 : K.lookup t18 = some o18)
    (ld18 : o18.data = .seq ([Value.str "" tk18] : List Value).toArray n18)
    (a19 : PySem.W.findIn K (.ref CDoor) "asks" = some (some (.ref f19)))
    (i19 : PySem.W.isFn K (.ref f19) = true)
    (l19 : K.lookup f19 = some ⟨oc19, od19, .func (PySem.W.fnOf "asks" "Door.asks" (defArgs s_Door_asks) (defBody s_Door_asks) (defScope s_Door_asks) .none kV19 dc19 pm19 an19 cd19 ct19), sl19⟩)
    (c19 : PySem.W.codeIn K cd19 "Door.asks" = true)
    (k19 : PySem.W.keepIn K (.ref f19) = true)
    (a20 : PySem.W.findIn K (.ref CDoor) "sets" = some (some (.ref f20)))
    (i20 : PySem.W.isFn K (.ref f20) = true)
    (l20 : K.lookup f20 = some ⟨oc20, od20, .func (PySem.W.fnOf "sets" "Door.sets" (defArgs s_Door_sets) (defBody s_Door_sets) (defScope s_Door_sets) .none kV20 dc20 pm20 an20 cd20 ct20), sl20⟩)
    (c20 : PySem.W.codeIn K cd20 "Door.sets" = true)
    (k20 : PySem.W.keepIn K (.ref f20) = true)
    (a21 : PySem.W.nsIn K mainGlobals "are_watches" = some (some (.ref f21)))
    (l21 : K.lookup f21 = some ⟨oc21, od21, .func (PySem.W.fnOf "are_watches" "are_watches" (defArgs s_are_watches) (defBody s_are_watches) (defScope s_are_watches) .none kV21 dc21 pm21 an21 cd21 ct21), sl21⟩)
    (c21 : PySem.W.codeIn K cd21 "are_watches" = true)
    (k21 : PySem.W.keepIn K (.ref f21) = true)
    (a22 : PySem.W.nsIn K mainGlobals "is_room" = some (some (.ref f22)))
    (l22 : K.lookup f22 = some ⟨oc22, od22, .func (PySem.W.fnOf "is_room" "is_room" (defArgs s_is_room) (defBody s_is_room) (defScope s_is_room) .none kV22 dc22 pm22 an22 cd22 ct22), sl22⟩)
    (c22 : PySem.W.codeIn K cd22 "is_room" = true)
    (k22 : PySem.W.keepIn K (.ref f22) = true)
    (a23 : PySem.W.nsIn K mainGlobals "are_rooms" = some (some (.ref f23)))
    (l23 : K.lookup f23 = some ⟨oc23, od23, .func (PySem.W.fnOf "are_rooms" "are_rooms" (defArgs s_are_rooms) (defBody s_are_rooms) (defScope s_are_rooms) .none kV23 dc23 pm23 an23 cd23 ct23), sl23⟩)
    (c23 : PySem.W.codeIn K cd23 "are_rooms" = true)
    (k23 : PySem.W.keepIn K (.ref f23) = true)
    (a24 : PySem.W.nsIn K mainGlobals "is_door" = some (some (.ref f24)))
    (l24 : K.lookup f24 = some ⟨oc24, od24, .func (PySem.W.fnOf "is_door" "is_door" (defArgs s_is_door) (defBody s_is_door) (defScope s_is_door) .none kV24 dc24 pm24 an24 cd24 ct24), sl24⟩)
    (c24 : PySem.W.codeIn K cd24 "is_door" = true)
    (k24 : PySem.W.keepIn K (.ref f24) = true)
    (a25 : PySem.W.findIn K (.ref CMachine) "__init__" = some (some (.ref f25)))
    (i25 : PySem.W.isFn K (.ref f25) = true)
    (l25 : K.lookup f25 = some ⟨oc25, od25, .func (PySem.W.fnOf "__init__" "Machine.__init__" (defArgs s_Machine_init) (defBody s_Machine_init) (defScope s_Machine_init) .none kV25 dc25 pm25 an25 cd25 ct25), sl25⟩)
    (c25 : PySem.W.codeIn K cd25 "Machine.__init__" = true)
    (k25 : PySem.W.keepIn K (.ref f25) = true)
    (a26 : PySem.W.findIn K (.ref CMachine) "watches" = some (some (.ref f26)))
    (i26 : PySem.W.isFn K (.ref f26) = true)
    (l26 : K.lookup f26 = some ⟨oc26, od26, .func (PySem.W.fnOf "watches" "Machine.watches" (defArgs s_Machine_watches) (defBody s_Machine_watches) (defScope s_Machine_watches) .none kV26 dc26 pm26 an26 cd26 ct26), sl26⟩)
    (c26 : PySem.W.codeIn K cd26 "Machine.watches" = true)
    (k26 : PySem.W.keepIn K (.ref f26) = true)
    (a27 : PySem.W.findIn K (.ref CMachine) "rooms" = some (some (.ref f27)))
    (i27 : PySem.W.isFn K (.ref f27) = true)
    (l27 : K.lookup f27 = some ⟨oc27, od27, .func (PySem.W.fnOf "rooms" "Machine.rooms" (defArgs s_Machine_rooms) (defBody s_Machine_rooms) (defScope s_Machine_rooms) .none kV27 dc27 pm27 an27 cd27 ct27), sl27⟩)
    (c27 : PySem.W.codeIn K cd27 "Machine.rooms" = true)
    (k27 : PySem.W.keepIn K (.ref f27) = true)
    (a28 : PySem.W.findIn K (.ref CMachine) "doors" = some (some (.ref f28)))
    (i28 : PySem.W.isFn K (.ref f28) = true)
    (l28 : K.lookup f28 = some ⟨oc28, od28, .func (PySem.W.fnOf "doors" "Machine.doors" (defArgs s_Machine_doors) (defBody s_Machine_doors) (defScope s_Machine_doors) .none kV28 dc28 pm28 an28 cd28 ct28), sl28⟩)
    (c28 : PySem.W.codeIn K cd28 "Machine.doors" = true)
    (k28 : PySem.W.keepIn K (.ref f28) = true)
    (a29 : PySem.W.findIn K (.ref CMachine) "stay" = some (some (.ref f29)))
    (i29 : PySem.W.isFn K (.ref f29) = true)
    (l29 : K.lookup f29 = some ⟨oc29, od29, .func (PySem.W.fnOf "stay" "Machine.stay" (defArgs s_Machine_stay) (defBody s_Machine_stay) (defScope s_Machine_stay) .none kV29 dc29 pm29 an29 cd29 ct29), sl29⟩)
    (c29 : PySem.W.codeIn K cd29 "Machine.stay" = true)
    (k29 : PySem.W.keepIn K (.ref f29) = true)
    (a30 : PySem.W.findIn K (.ref CMachine) "watch_number" = some (some (.ref f30)))
    (i30 : PySem.W.isFn K (.ref f30) = true)
    (l30 : K.lookup f30 = some ⟨oc30, od30, .func (PySem.W.fnOf "watch_number" "Machine.watch_number" (defArgs s_Machine_watch_number) (defBody s_Machine_watch_number) (defScope s_Machine_watch_number) .none kV30 dc30 pm30 an30 cd30 ct30), sl30⟩)
    (c30 : PySem.W.codeIn K cd30 "Machine.watch_number" = true)
    (k30 : PySem.W.keepIn K (.ref f30) = true)
    (a31 : PySem.W.nsIn K mainGlobals "placed" = some (some (.ref f31)))
    (l31 : K.lookup f31 = some ⟨oc31, od31, .func (PySem.W.fnOf "placed" "placed" (defArgs s_placed) (defBody s_placed) (defScope s_placed) .none kV31 dc31 pm31 an31 cd31 ct31), sl31⟩)
    (c31 : PySem.W.codeIn K cd31 "placed" = true)
    (k31 : PySem.W.keepIn K (.ref f31) = true)
    (a32 : PySem.W.nsIn K mainGlobals "through" = some (some (.ref f32)))
    (l32 : K.lookup f32 = some ⟨oc32, od32, .func (PySem.W.fnOf "through" "through" (defArgs s_through) (defBody s_through) (defScope s_through) .none kV32 dc32 pm32 an32 cd32 ct32), sl32⟩)
    (c32 : PySem.W.codeIn K cd32 "through" = true)
    (k32 : PySem.W.keepIn K (.ref f32) = true)
    (a33 : PySem.W.nsIn K mainGlobals "narrowest" = some (some (.ref f33)))
    (l33 : K.lookup f33 = some ⟨oc33, od33, .func (PySem.W.fnOf "narrowest" "narrowest" (defArgs s_narrowest) (defBody s_narrowest) (defScope s_narrowest) .none kV33 dc33 pm33 an33 cd33 ct33), sl33⟩)
    (c33 : PySem.W.codeIn K cd33 "narrowest" = true)
    (k33 : PySem.W.keepIn K (.ref f33) = true)
    (a34 : PySem.W.nsIn K mainGlobals "everywhere" = some (some (.ref f34)))
    (l34 : K.lookup f34 = some ⟨oc34, od34, .func (PySem.W.fnOf "everywhere" "everywhere" (defArgs s_everywhere) (defBody s_everywhere) (defScope s_everywhere) .none kV34 dc34 pm34 an34 cd34 ct34), sl34⟩)
    (c34 : PySem.W.codeIn K cd34 "everywhere" = true)
    (k34 : PySem.W.keepIn K (.ref f34) = true)
    (a35 : PySem.W.nsIn K mainGlobals "room_of" = some (some (.ref f35)))
    (l35 : K.lookup f35 = some ⟨oc35, od35, .func (PySem.W.fnOf "room_of" "room_of" (defArgs s_room_of) (defBody s_room_of) (defScope s_room_of) .none kV35 dc35 pm35 an35 cd35 ct35), sl35⟩)
    (c35 : PySem.W.codeIn K cd35 "room_of" = true)
    (k35 : PySem.W.keepIn K (.ref f35) = true)
    (a36 : PySem.W.nsIn K mainGlobals "put_look" = some (some (.ref f36)))
    (l36 : K.lookup f36 = some ⟨oc36, od36, .func (PySem.W.fnOf "put_look" "put_look" (defArgs s_put_look) (defBody s_put_look) (defScope s_put_look) .none kV36 dc36 pm36 an36 cd36 ct36), sl36⟩)
    (c36 : PySem.W.codeIn K cd36 "put_look" = true)
    (k36 : PySem.W.keepIn K (.ref f36) = true)
    (a37 : PySem.W.nsIn K mainGlobals "put_guard" = some (some (.ref f37)))
    (l37 : K.lookup f37 = some ⟨oc37, od37, .func (PySem.W.fnOf "put_guard" "put_guard" (defArgs s_put_guard) (defBody s_put_guard) (defScope s_put_guard) .none kV37 dc37 pm37 an37 cd37 ct37), sl37⟩)
    (c37 : PySem.W.codeIn K cd37 "put_guard" = true)
    (k37 : PySem.W.keepIn K (.ref f37) = true)
    (a38 : PySem.W.nsIn K mainGlobals "road_zone" = some (some (.ref f38)))
    (l38 : K.lookup f38 = some ⟨oc38, od38, .func (PySem.W.fnOf "road_zone" "road_zone" (defArgs s_road_zone) (defBody s_road_zone) (defScope s_road_zone) .none kV38 dc38 pm38 an38 cd38 ct38), sl38⟩)
    (c38 : PySem.W.codeIn K cd38 "road_zone" = true)
    (k38 : PySem.W.keepIn K (.ref f38) = true)
    (a39 : PySem.W.nsIn K mainGlobals "soonest" = some (some (.ref f39)))
    (l39 : K.lookup f39 = some ⟨oc39, od39, .func (PySem.W.fnOf "soonest" "soonest" (defArgs s_soonest) (defBody s_soonest) (defScope s_soonest) .none kV39 dc39 pm39 an39 cd39 ct39), sl39⟩)
    (c39 : PySem.W.codeIn K cd39 "soonest" = true)
    (k39 : PySem.W.keepIn K (.ref f39) = true)
    (a40 : PySem.W.nsIn K mainGlobals "fine" = some (some (.ref f40)))
    (l40 : K.lookup f40 = some ⟨oc40, od40, .func (PySem.W.fnOf "fine" "fine" (defArgs s_fine) (defBody s_fine) (defScope s_fine) .none kV40 dc40 pm40 an40 cd40 ct40), sl40⟩)
    (c40 : PySem.W.codeIn K cd40 "fine" = true)
    (k40 : PySem.W.keepIn K (.ref f40) = true)
    (a41 : PySem.W.nsIn K mainGlobals "least_times" = some (some (.ref f41)))
    (l41 : K.lookup f41 = some ⟨oc41, od41, .func (PySem.W.fnOf "least_times" "least_times" (defArgs s_least_times) (defBody s_least_times) (defScope s_least_times) .none kV41 dc41 pm41 an41 cd41 ct41), sl41⟩)
    (c41 : PySem.W.codeIn K cd41 "least_times" = true)
    (k41 : PySem.W.keepIn K (.ref f41) = true)
    (a42 : PySem.W.nsIn K mainGlobals "steps_of" = some (some (.ref f42)))
    (l42 : K.lookup f42 = some ⟨oc42, od42, .func (PySem.W.fnOf "steps_of" "steps_of" (defArgs s_steps_of) (defBody s_steps_of) (defScope s_steps_of) .none kV42 dc42 pm42 an42 cd42 ct42), sl42⟩)
    (c42 : PySem.W.codeIn K cd42 "steps_of" = true)
    (k42 : PySem.W.keepIn K (.ref f42) = true)
    (a43 : PySem.W.nsIn K mainGlobals "run_of" = some (some (.ref f43)))
    (l43 : K.lookup f43 = some ⟨oc43, od43, .func (PySem.W.fnOf "run_of" "run_of" (defArgs s_run_of) (defBody s_run_of) (defScope s_run_of) .none kV43 dc43 pm43 an43 cd43 ct43), sl43⟩)
    (c43 : PySem.W.codeIn K cd43 "run_of" = true)
    (k43 : PySem.W.keepIn K (.ref f43) = true)
    (a44 : PySem.W.nsIn K mainGlobals "soonest_run" = some (some (.ref f44)))
    (l44 : K.lookup f44 = some ⟨oc44, od44, .func (PySem.W.fnOf "soonest_run" "soonest_run" (defArgs s_soonest_run) (defBody s_soonest_run) (defScope s_soonest_run) .none kV44 dc44 pm44 an44 cd44 ct44), sl44⟩)
    (c44 : PySem.W.codeIn K cd44 "soonest_run" = true)
    (k44 : PySem.W.keepIn K (.ref f44) = true)
    (a45 : PySem.W.nsIn K mainGlobals "_law_cell_at" = some (some (.ref f45)))
    (l45 : K.lookup f45 = some ⟨oc45, od45, .func (PySem.W.fnOf "_law_cell_at" "_law_cell_at" (defArgs s_l_cell_at) (defBody s_l_cell_at) (defScope s_l_cell_at) .none kV45 dc45 pm45 an45 cd45 ct45), sl45⟩)
    (c45 : PySem.W.codeIn K cd45 "_law_cell_at" = true)
    (k45 : PySem.W.keepIn K (.ref f45) = true)
    (a46 : PySem.W.nsIn K mainGlobals "_law_stream" = some (some (.ref f46)))
    (l46 : K.lookup f46 = some ⟨oc46, od46, .func (PySem.W.fnOf "_law_stream" "_law_stream" (defArgs s_l_stream) (defBody s_l_stream) (defScope s_l_stream) .none kV46 dc46 pm46 an46 cd46 ct46), sl46⟩)
    (c46 : PySem.W.codeIn K cd46 "_law_stream" = true)
    (k46 : PySem.W.keepIn K (.ref f46) = true)
    (a47 : PySem.W.nsIn K mainGlobals "_law_names" = some (some (.ref f47)))
    (l47 : K.lookup f47 = some ⟨oc47, od47, .func (PySem.W.fnOf "_law_names" "_law_names" (defArgs s_l_names) (defBody s_l_names) (defScope s_l_names) .none kV47 dc47 pm47 an47 cd47 ct47), sl47⟩)
    (c47 : PySem.W.codeIn K cd47 "_law_names" = true)
    (k47 : PySem.W.keepIn K (.ref f47) = true)
    (a48 : PySem.W.nsIn K mainGlobals "_law_number" = some (some (.ref f48)))
    (l48 : K.lookup f48 = some ⟨oc48, od48, .func (PySem.W.fnOf "_law_number" "_law_number" (defArgs s_l_number) (defBody s_l_number) (defScope s_l_number) .none kV48 dc48 pm48 an48 cd48 ct48), sl48⟩)
    (c48 : PySem.W.codeIn K cd48 "_law_number" = true)
    (k48 : PySem.W.keepIn K (.ref f48) = true)
    (a49 : PySem.W.nsIn K mainGlobals "_law_guard" = some (some (.ref f49)))
    (l49 : K.lookup f49 = some ⟨oc49, od49, .func (PySem.W.fnOf "_law_guard" "_law_guard" (defArgs s_l_guard) (defBody s_l_guard) (defScope s_l_guard) .none kV49 dc49 pm49 an49 cd49 ct49), sl49⟩)
    (c49 : PySem.W.codeIn K cd49 "_law_guard" = true)
    (k49 : PySem.W.keepIn K (.ref f49) = true)
    (a50 : PySem.W.nsIn K mainGlobals "_law_stay" = some (some (.ref f50)))
    (l50 : K.lookup f50 = some ⟨oc50, od50, .func (PySem.W.fnOf "_law_stay" "_law_stay" (defArgs s_l_stay) (defBody s_l_stay) (defScope s_l_stay) .none kV50 dc50 pm50 an50 cd50 ct50), sl50⟩)
    (c50 : PySem.W.codeIn K cd50 "_law_stay" = true)
    (k50 : PySem.W.keepIn K (.ref f50) = true)
    (a51 : PySem.W.nsIn K mainGlobals "_law_door" = some (some (.ref f51)))
    (l51 : K.lookup f51 = some ⟨oc51, od51, .func (PySem.W.fnOf "_law_door" "_law_door" (defArgs s_l_door) (defBody s_l_door) (defScope s_l_door) .none kV51 dc51 pm51 an51 cd51 ct51), sl51⟩)
    (c51 : PySem.W.codeIn K cd51 "_law_door" = true)
    (k51 : PySem.W.keepIn K (.ref f51) = true)
    (a52 : PySem.W.nsIn K mainGlobals "_law_machine" = some (some (.ref f52)))
    (l52 : K.lookup f52 = some ⟨oc52, od52, .func (PySem.W.fnOf "_law_machine" "_law_machine" (defArgs s_l_machine) (defBody s_l_machine) (defScope s_l_machine) .none kV52 dc52 pm52 an52 cd52 ct52), sl52⟩)
    (c52 : PySem.W.codeIn K cd52 "_law_machine" = true)
    (k52 : PySem.W.keepIn K (.ref f52) = true)
    (a53 : PySem.W.nsIn K mainGlobals "_law_made" = some (some (.ref f53)))
    (l53 : K.lookup f53 = some ⟨oc53, od53, .func (PySem.W.fnOf "_law_made" "_law_made" (defArgs s_l_made) (defBody s_l_made) (defScope s_l_made) .none kV53 dc53 pm53 an53 cd53 ct53), sl53⟩)
    (c53 : PySem.W.codeIn K cd53 "_law_made" = true)
    (k53 : PySem.W.keepIn K (.ref f53) = true)
    (a54 : PySem.W.nsIn K mainGlobals "_law_road" = some (some (.ref f54)))
    (l54 : K.lookup f54 = some ⟨oc54, od54, .func (PySem.W.fnOf "_law_road" "_law_road" (defArgs s_l_road) (defBody s_l_road) (defScope s_l_road) .none kV54 dc54 pm54 an54 cd54 ct54), sl54⟩)
    (c54 : PySem.W.codeIn K cd54 "_law_road" = true)
    (k54 : PySem.W.keepIn K (.ref f54) = true)
    (a55 : PySem.W.nsIn K mainGlobals "_law_spoilt" = some (some (.ref f55)))
    (l55 : K.lookup f55 = some ⟨oc55, od55, .func (PySem.W.fnOf "_law_spoilt" "_law_spoilt" (defArgs s_l_spoilt) (defBody s_l_spoilt) (defScope s_l_spoilt) .none kV55 dc55 pm55 an55 cd55 ct55), sl55⟩)
    (c55 : PySem.W.codeIn K cd55 "_law_spoilt" = true)
    (k55 : PySem.W.keepIn K (.ref f55) = true)
    (a56 : PySem.W.nsIn K mainGlobals "_law_room" = some (some (.ref f56)))
    (l56 : K.lookup f56 = some ⟨oc56, od56, .func (PySem.W.fnOf "_law_room" "_law_room" (defArgs s_l_room) (defBody s_l_room) (defScope s_l_room) .none kV56 dc56 pm56 an56 cd56 ct56), sl56⟩)
    (c56 : PySem.W.codeIn K cd56 "_law_room" = true)
    (k56 : PySem.W.keepIn K (.ref f56) = true)
    (a57 : PySem.W.nsIn K mainGlobals "_law_asked" = some (some (.ref f57)))
    (l57 : K.lookup f57 = some ⟨oc57, od57, .func (PySem.W.fnOf "_law_asked" "_law_asked" (defArgs s_l_asked) (defBody s_l_asked) (defScope s_l_asked) .none kV57 dc57 pm57 an57 cd57 ct57), sl57⟩)
    (c57 : PySem.W.codeIn K cd57 "_law_asked" = true)
    (k57 : PySem.W.keepIn K (.ref f57) = true)
    (a58 : PySem.W.nsIn K mainGlobals "_law_refused" = some (some (.ref f58)))
    (l58 : K.lookup f58 = some ⟨oc58, od58, .func (PySem.W.fnOf "_law_refused" "_law_refused" (defArgs s_l_refused) (defBody s_l_refused) (defScope s_l_refused) .none kV58 dc58 pm58 an58 cd58 ct58), sl58⟩)
    (c58 : PySem.W.codeIn K cd58 "_law_refused" = true)
    (k58 : PySem.W.keepIn K (.ref f58) = true)
    (a59 : PySem.W.nsIn K mainGlobals "law" = some (some (.ref f59)))
    (l59 : K.lookup f59 = some ⟨oc59, od59, .func (PySem.W.fnOf "law" "law" (defArgs s_law) (defBody s_law) (defScope s_law) .none kV59 dc59 pm59 an59 cd59 ct59), sl59⟩)
    (c59 : PySem.W.codeIn K cd59 "law" = true)
    (k59 : PySem.W.keepIn K (.ref f59) = true)
    (gWalkError : PySem.W.nsIn K mainGlobals "WalkError" = some (some (.ref CWalkError)))
    (kWalkError : PySem.W.keepIn K (.ref CWalkError) = true)
    (bWalkError : PySem.W.subIn K (.ref CWalkError) (.type "BaseException") = some true)
    (tWalkError : PySem.W.typeIn K (.ref CWalkError) = some (.type "type"))
    (iWalkError : PySem.W.isClsIn K CWalkError = true)
    (gNoNumber : PySem.W.nsIn K mainGlobals "NoNumber" = some (some (.ref CNoNumber)))
    (xNoNumber : PySem.W.excIn K CNoNumber [.type "ValueError", .type "Exception", .type "BaseException", .type "object"] "ValueError.__new__" = true)
    (kNoNumber : PySem.W.keepIn K (.ref CNoNumber) = true)
    (bNoNumber : PySem.W.subIn K (.ref CNoNumber) (.type "BaseException") = some true)
    (tNoNumber : PySem.W.typeIn K (.ref CNoNumber) = some (.type "type"))
    (iNoNumber : PySem.W.isClsIn K CNoNumber = true)
    (gBadMachine : PySem.W.nsIn K mainGlobals "BadMachine" = some (some (.ref CBadMachine)))
    (xBadMachine : PySem.W.excIn K CBadMachine [.type "ValueError", .type "Exception", .type "BaseException", .type "object"] "ValueError.__new__" = true)
    (kBadMachine : PySem.W.keepIn K (.ref CBadMachine) = true)
    (bBadMachine : PySem.W.subIn K (.ref CBadMachine) (.type "BaseException") = some true)
    (tBadMachine : PySem.W.typeIn K (.ref CBadMachine) = some (.type "type"))
    (iBadMachine : PySem.W.isClsIn K CBadMachine = true)
    (gTooMany : PySem.W.nsIn K mainGlobals "TooMany" = some (some (.ref CTooMany)))
    (xTooMany : PySem.W.excIn K CTooMany [.type "ValueError", .type "Exception", .type "BaseException", .type "object"] "ValueError.__new__" = true)
    (kTooMany : PySem.W.keepIn K (.ref CTooMany) = true)
    (bTooMany : PySem.W.subIn K (.ref CTooMany) (.type "BaseException") = some true)
    (tTooMany : PySem.W.typeIn K (.ref CTooMany) = some (.type "type"))
    (iTooMany : PySem.W.isClsIn K CTooMany = true)
    (gNoRun : PySem.W.nsIn K mainGlobals "NoRun" = some (some (.ref CNoRun)))
    (kNoRun : PySem.W.keepIn K (.ref CNoRun) = true)
    (bNoRun : PySem.W.subIn K (.ref CNoRun) (.type "BaseException") = some true)
    (tNoRun : PySem.W.typeIn K (.ref CNoRun) = some (.type "type"))
    (iNoRun : PySem.W.isClsIn K CNoRun = true)
    (gNoMark : PySem.W.nsIn K mainGlobals "NoMark" = some (some (.ref CNoMark)))
    (xNoMark : PySem.W.excIn K CNoMark [.type "ValueError", .type "Exception", .type "BaseException", .type "object"] "ValueError.__new__" = true)
    (kNoMark : PySem.W.keepIn K (.ref CNoMark) = true)
    (bNoMark : PySem.W.subIn K (.ref CNoMark) (.type "BaseException") = some true)
    (tNoMark : PySem.W.typeIn K (.ref CNoMark) = some (.type "type"))
    (iNoMark : PySem.W.isClsIn K CNoMark = true)
    (gNoRoad : PySem.W.nsIn K mainGlobals "NoRoad" = some (some (.ref CNoRoad)))
    (xNoRoad : PySem.W.excIn K CNoRoad [.type "ValueError", .type "Exception", .type "BaseException", .type "object"] "ValueError.__new__" = true)
    (kNoRoad : PySem.W.keepIn K (.ref CNoRoad) = true)
    (bNoRoad : PySem.W.subIn K (.ref CNoRoad) (.type "BaseException") = some true)
    (tNoRoad : PySem.W.typeIn K (.ref CNoRoad) = some (.type "type"))
    (iNoRoad : PySem.W.isClsIn K CNoRoad = true)
    (gLETTERS : PySem.W.nsIn K mainGlobals "LETTERS" = some (some (.str "abcdefghijklmnopqrstuvwxyz" uLETTERS)))
    (gMOST_DOORS_machines : PySem.W.nsIn K mainGlobals "MOST_DOORS_machines" = some (some (.int 200 uMOST_DOORS_machines)))
    (gMOST_DOORS_roads : PySem.W.nsIn K mainGlobals "MOST_DOORS_roads" = some (some (.int 200 uMOST_DOORS_roads)))
    (gMOST_ROOMS : PySem.W.nsIn K mainGlobals "MOST_ROOMS" = some (some (.int 64 uMOST_ROOMS)))
    (gMOST_WATCHES : PySem.W.nsIn K mainGlobals "MOST_WATCHES" = some (some (.int 7 uMOST_WATCHES)))
    (gNOUGHT : PySem.W.nsIn K mainGlobals "NOUGHT" = some (some (.int 1 uNOUGHT)))
    (zValueError : PySem.W.nsIn K mainGlobals "ValueError" = some none)
    (zabs : PySem.W.nsIn K mainGlobals "abs" = some none)
    (zall : PySem.W.nsIn K mainGlobals "all" = some none)
    (zbool : PySem.W.nsIn K mainGlobals "bool" = some none)
    (zint : PySem.W.nsIn K mainGlobals "int" = some none)
    (zisinstance : PySem.W.nsIn K mainGlobals "isinstance" = some none)
    (zlen : PySem.W.nsIn K mainGlobals "len" = some none)
    (zlist : PySem.W.nsIn K mainGlobals "list" = some none)
    (zmin : PySem.W.nsIn K mainGlobals "min" = some none)
    (zrange : PySem.W.nsIn K mainGlobals "range" = some none)
    (zset : PySem.W.nsIn K mainGlobals "set" = some none)
    (zstr : PySem.W.nsIn K mainGlobals "str" = some none)
    (ztuple : PySem.W.nsIn K mainGlobals "tuple" = some none)
    (he1_NoRoad : PySem.W.findIn K (.ref CNoRoad) "__getattribute__" = some (some (.builtin "BaseException.__getattribute__")))
    (he2_NoRoad : PySem.W.findIn K (.ref CNoRoad) "__getattr__" = some none)
    (he4_NoRoad : PySem.W.hasDictIn K CNoRoad = true)
    (he5_NoRoad : PySem.W.findIn K (.ref CNoRoad) "__class__" = some (some (.builtin "object.__class__")))
    (he8_NoRoad : PySem.W.mroIn K CNoRoad (.type "object") = some true)
    (hk_NoRoad_WalkError : PySem.W.kitOne K (.ref CNoRoad) (.ref CWalkError) = some true)
    (hk_NoRoad_NoRun : PySem.W.kitOne K (.ref CNoRoad) (.ref CNoRun) = some false)
    (he1_NoMark : PySem.W.findIn K (.ref CNoMark) "__getattribute__" = some (some (.builtin "BaseException.__getattribute__")))
    (he2_NoMark : PySem.W.findIn K (.ref CNoMark) "__getattr__" = some none)
    (he4_NoMark : PySem.W.hasDictIn K CNoMark = true)
    (he5_NoMark : PySem.W.findIn K (.ref CNoMark) "__class__" = some (some (.builtin "object.__class__")))
    (he8_NoMark : PySem.W.mroIn K CNoMark (.type "object") = some true)
    (hk_NoMark_WalkError : PySem.W.kitOne K (.ref CNoMark) (.ref CWalkError) = some true)
    (hk_NoMark_NoRun : PySem.W.kitOne K (.ref CNoMark) (.ref CNoRun) = some false)
    (hs_NoRoad_NoRoad : PySem.W.subIn K (.ref CNoRoad) (.ref CNoRoad) = some true)
    (hs_NoMark_NoRoad : PySem.W.subIn K (.ref CNoMark) (.ref CNoRoad) = some false)
    (hs_NoMark_NoMark : PySem.W.subIn K (.ref CNoMark) (.ref CNoMark) = some true)
    (he6_ : PySem.W.specialIn K (.builtin "object.__class__") "__get__" = some (some (.builtin "getset_descriptor.__get__")))
    (he7_ : PySem.W.takesIn K (.builtin "object.__class__") = some true)
    (hk_NoRoad_NoMark : PySem.W.kitOne K (.ref CNoRoad) (.ref CNoMark) = some false)
    (hk_NoMark_NoRoad : PySem.W.kitOne K (.ref CNoMark) (.ref CNoRoad) = some false)
    (hk_NoRoad_v : PySem.W.kitOne K (.ref CNoRoad) (.type "ValueError") = some true) :
    ∃ fd : FuncData, (∀ (s : Shared) (v : Value), BindsTo s fd ⟨[v], []⟩ [("_law_script", v)]) ∧ ∀ base : Heap, K.In base → base.Ns mainGlobals mg → FnOk P w K mg base CX0 10 fa fd ["_law_script"] (spLaw K) := by
  have e := hfa.symm.trans (PySem.W.mg_of X G a59)
  cases e
  have F8 := funD_mk (st := s_fraction) (dvs := [.int 1]) l8 c8 k8 lt8 ld8 (.cons ⟨_, rfl⟩ .nil) (by simp)
  obtain ⟨dz8, vz8, bz8⟩ := F8.binds1 (ps := ["top", "bottom"]) 2 1 (by simp) rfl fun _ _ _ _ _ _ _ us its h1 h2 => match us, h1, its, h2 with | [_, _], _, [_], _ => ⟨_, rfl, rfl⟩
  cases vz8
  obtain ⟨dd8, vd8, bd8⟩ := F8.binds1 (ps := ["top", "bottom"]) 1 0 (by simp) rfl fun _ _ _ _ _ _ _ us its h1 h2 => match us, h1, its, h2 with | [_], _, [_], _ => ⟨_, rfl, rfl⟩
  have F18 := funD_mk (st := s_Door_init) (dvs := [.str ""]) l18 c18 k18 lt18 ld18 (.cons ⟨_, rfl⟩ .nil) (by simp)
  obtain ⟨dz18, vz18, bz18⟩ := F18.binds1 (ps := ["self", "start", "end", "guard", "noughts", "sign"]) 6 1 (by simp) rfl fun _ _ _ _ _ _ _ us its h1 h2 => match us, h1, its, h2 with | [_, _, _, _, _, _], _, [_], _ => ⟨_, rfl, rfl⟩
  cases vz18
  obtain ⟨dd18, vd18, bd18⟩ := F18.binds1 (ps := ["self", "start", "end", "guard", "noughts", "sign"]) 5 0 (by simp) rfl fun _ _ _ _ _ _ _ us its h1 h2 => match us, h1, its, h2 with | [_, _, _, _, _], _, [_], _ => ⟨_, rfl, rfl⟩
  let T : Top K mg := {
      C_Door := CDoor,
      g_Door := PySem.W.mg_of X G gDoor,
      cl_Door := ⟨pgDoor, hdDoor, poDoor, saDoor⟩,
      ty_Door := ⟨hcDoor, hnDoor, htDoor, hmDoor⟩,
      n_Door_backs := nDoor_backs,
      n_Door_end := nDoor_end,
      n_Door_looks := nDoor_looks,
      n_Door_sign := nDoor_sign,
      n_Door_start := nDoor_start,
      C_Machine := CMachine,
      g_Machine := PySem.W.mg_of X G gMachine,
      cl_Machine := ⟨pgMachine, hdMachine, poMachine, saMachine⟩,
      ty_Machine := ⟨hcMachine, hnMachine, htMachine, hmMachine⟩,
      n_Machine_door_list := nMachine_door_list,
      n_Machine_room_names := nMachine_room_names,
      n_Machine_stay_looks := nMachine_stay_looks,
      n_Machine_watch_names := nMachine_watch_names,
      t_BELOW := tBELOW,
      g_BELOW := PySem.W.mg_of X G gBELOW,
      q_BELOW := fun H => .inr ⟨oBELOW, _, nBELOW, lBELOW, cBELOW, dBELOW, small1000' (by simp), (.cons ⟨_, rfl⟩ (.cons ⟨_, rfl⟩ .nil))⟩,
      t_WORDS := tWORDS,
      g_WORDS := PySem.W.mg_of X G gWORDS,
      q_WORDS := fun H => .inr ⟨oWORDS, _, nWORDS, lWORDS, cWORDS, dWORDS, small1000' (by simp), (.cons ⟨_, rfl⟩ (.cons ⟨_, rfl⟩ (.cons ⟨_, rfl⟩ (.cons ⟨_, rfl⟩ (.cons ⟨_, rfl⟩ .nil)))))⟩,
      f_at_most := f0,
      d_at_most := _,
      F_at_most := fun_mk (st := s_at_most) l0 c0 k0,
      g_at_most := PySem.W.mg_of X G a0,
      b_at_most := (fun_mk (st := s_at_most) l0 c0 k0).binds (ps := ["number"]) fun _ _ _ _ _ _ us hl => match us, hl with | [_], _ => rfl,
      f_below := f1,
      d_below := _,
      F_below := fun_mk (st := s_below) l1 c1 k1,
      g_below := PySem.W.mg_of X G a1,
      b_below := (fun_mk (st := s_below) l1 c1 k1).binds (ps := ["number"]) fun _ _ _ _ _ _ us hl => match us, hl with | [_], _ => rfl,
      f_number_of := f2,
      d_number_of := _,
      F_number_of := fun_mk (st := s_number_of) l2 c2 k2,
      g_number_of := PySem.W.mg_of X G a2,
      b_number_of := (fun_mk (st := s_number_of) l2 c2 k2).binds (ps := ["bound"]) fun _ _ _ _ _ _ us hl => match us, hl with | [_], _ => rfl,
      f_is_open := f3,
      d_is_open := _,
      F_is_open := fun_mk (st := s_is_open) l3 c3 k3,
      g_is_open := PySem.W.mg_of X G a3,
      b_is_open := (fun_mk (st := s_is_open) l3 c3 k3).binds (ps := ["bound"]) fun _ _ _ _ _ _ us hl => match us, hl with | [_], _ => rfl,
      f_added := f4,
      d_added := _,
      F_added := fun_mk (st := s_added) l4 c4 k4,
      g_added := PySem.W.mg_of X G a4,
      b_added := (fun_mk (st := s_added) l4 c4 k4).binds (ps := ["one", "other"]) fun _ _ _ _ _ _ us hl => match us, hl with | [_, _], _ => rfl,
      f_narrower := f5,
      d_narrower := _,
      F_narrower := fun_mk (st := s_narrower) l5 c5 k5,
      g_narrower := PySem.W.mg_of X G a5,
      b_narrower := (fun_mk (st := s_narrower) l5 c5 k5).binds (ps := ["one", "other"]) fun _ _ _ _ _ _ us hl => match us, hl with | [_, _], _ => rfl,
      f_is_whole := f6,
      d_is_whole := _,
      F_is_whole := fun_mk (st := s_is_whole) l6 c6 k6,
      g_is_whole := PySem.W.mg_of X G a6,
      b_is_whole := (fun_mk (st := s_is_whole) l6 c6 k6).binds (ps := ["thing"]) fun _ _ _ _ _ _ us hl => match us, hl with | [_], _ => rfl,
      f_divisor := f7,
      d_divisor := _,
      F_divisor := fun_mk (st := s_divisor) l7 c7 k7,
      g_divisor := PySem.W.mg_of X G a7,
      b_divisor := (fun_mk (st := s_divisor) l7 c7 k7).binds (ps := ["one", "other"]) fun _ _ _ _ _ _ us hl => match us, hl with | [_, _], _ => rfl,
      f_fraction := f8,
      d_fraction := _,
      F_fraction := F8,
      g_fraction := PySem.W.mg_of X G a8,
      b_fraction := bz8,
      dv_fraction := dd8,
      v_fraction := vd8,
      bd_fraction := bd8,
      f_minus := f9,
      d_minus := _,
      F_minus := fun_mk (st := s_minus) l9 c9 k9,
      g_minus := PySem.W.mg_of X G a9,
      b_minus := (fun_mk (st := s_minus) l9 c9 k9).binds (ps := ["one", "other"]) fun _ _ _ _ _ _ us hl => match us, hl with | [_, _], _ => rfl,
      f_of_signs := f10,
      d_of_signs := _,
      F_of_signs := fun_mk (st := s_of_signs) l10 c10 k10,
      g_of_signs := PySem.W.mg_of X G a10,
      b_of_signs := (fun_mk (st := s_of_signs) l10 c10 k10).binds (ps := ["thing", "signs", "most"]) fun _ _ _ _ _ _ us hl => match us, hl with | [_, _, _], _ => rfl,
      f_is_name := f11,
      d_is_name := _,
      F_is_name := fun_mk (st := s_is_name) l11 c11 k11,
      g_is_name := PySem.W.mg_of X G a11,
      b_is_name := (fun_mk (st := s_is_name) l11 c11 k11).binds (ps := ["thing"]) fun _ _ _ _ _ _ us hl => match us, hl with | [_], _ => rfl,
      f_is_watch_name := f12,
      d_is_watch_name := _,
      F_is_watch_name := fun_mk (st := s_is_watch_name) l12 c12 k12,
      g_is_watch_name := PySem.W.mg_of X G a12,
      b_is_watch_name := (fun_mk (st := s_is_watch_name) l12 c12 k12).binds (ps := ["thing"]) fun _ _ _ _ _ _ us hl => match us, hl with | [_], _ => rfl,
      f_is_sign := f13,
      d_is_sign := _,
      F_is_sign := fun_mk (st := s_is_sign) l13 c13 k13,
      g_is_sign := PySem.W.mg_of X G a13,
      b_is_sign := (fun_mk (st := s_is_sign) l13 c13 k13).binds (ps := ["thing"]) fun _ _ _ _ _ _ us hl => match us, hl with | [_], _ => rfl,
      f_is_look := f14,
      d_is_look := _,
      F_is_look := fun_mk (st := s_is_look) l14 c14 k14,
      g_is_look := PySem.W.mg_of X G a14,
      b_is_look := (fun_mk (st := s_is_look) l14 c14 k14).binds (ps := ["thing", "words", "watches"]) fun _ _ _ _ _ _ us hl => match us, hl with | [_, _, _], _ => rfl,
      f_is_guard := f15,
      d_is_guard := _,
      F_is_guard := fun_mk (st := s_is_guard) l15 c15 k15,
      g_is_guard := PySem.W.mg_of X G a15,
      b_is_guard := (fun_mk (st := s_is_guard) l15 c15 k15).binds (ps := ["thing", "words", "watches"]) fun _ _ _ _ _ _ us hl => match us, hl with | [_, _, _], _ => rfl,
      f_unlike := f16,
      d_unlike := _,
      F_unlike := fun_mk (st := s_unlike) l16 c16 k16,
      g_unlike := PySem.W.mg_of X G a16,
      b_unlike := (fun_mk (st := s_unlike) l16 c16 k16).binds (ps := ["things"]) fun _ _ _ _ _ _ us hl => match us, hl with | [_], _ => rfl,
      f_own := f17,
      d_own := _,
      F_own := fun_mk (st := s_own) l17 c17 k17,
      g_own := PySem.W.mg_of X G a17,
      b_own := (fun_mk (st := s_own) l17 c17 k17).binds (ps := ["thing"]) fun _ _ _ _ _ _ us hl => match us, hl with | [_], _ => rfl,
      f_Door_init := f18,
      d_Door_init := _,
      F_Door_init := F18,
      mk_Door := ⟨mkDoor, a18, i18, kcDoor⟩,
      b_Door_init := bz18,
      dv_Door_init := dd18,
      v_Door_init := vd18,
      bd_Door_init := bd18,
      f_Door_asks := f19,
      d_Door_asks := _,
      F_Door_asks := fun_mk (st := s_Door_asks) l19 c19 k19,
      m_Door_asks := ⟨a19, i19, k19⟩,
      b_Door_asks := (fun_mk (st := s_Door_asks) l19 c19 k19).binds (ps := ["self"]) fun _ _ _ _ _ _ us hl => match us, hl with | [_], _ => rfl,
      f_Door_sets := f20,
      d_Door_sets := _,
      F_Door_sets := fun_mk (st := s_Door_sets) l20 c20 k20,
      m_Door_sets := ⟨a20, i20, k20⟩,
      b_Door_sets := (fun_mk (st := s_Door_sets) l20 c20 k20).binds (ps := ["self"]) fun _ _ _ _ _ _ us hl => match us, hl with | [_], _ => rfl,
      f_are_watches := f21,
      d_are_watches := _,
      F_are_watches := fun_mk (st := s_are_watches) l21 c21 k21,
      g_are_watches := PySem.W.mg_of X G a21,
      b_are_watches := (fun_mk (st := s_are_watches) l21 c21 k21).binds (ps := ["thing"]) fun _ _ _ _ _ _ us hl => match us, hl with | [_], _ => rfl,
      f_is_room := f22,
      d_is_room := _,
      F_is_room := fun_mk (st := s_is_room) l22 c22 k22,
      g_is_room := PySem.W.mg_of X G a22,
      b_is_room := (fun_mk (st := s_is_room) l22 c22 k22).binds (ps := ["thing", "watches"]) fun _ _ _ _ _ _ us hl => match us, hl with | [_, _], _ => rfl,
      f_are_rooms := f23,
      d_are_rooms := _,
      F_are_rooms := fun_mk (st := s_are_rooms) l23 c23 k23,
      g_are_rooms := PySem.W.mg_of X G a23,
      b_are_rooms := (fun_mk (st := s_are_rooms) l23 c23 k23).binds (ps := ["thing", "watches"]) fun _ _ _ _ _ _ us hl => match us, hl with | [_, _], _ => rfl,
      f_is_door := f24,
      d_is_door := _,
      F_is_door := fun_mk (st := s_is_door) l24 c24 k24,
      g_is_door := PySem.W.mg_of X G a24,
      b_is_door := (fun_mk (st := s_is_door) l24 c24 k24).binds (ps := ["thing", "watches", "names"]) fun _ _ _ _ _ _ us hl => match us, hl with | [_, _, _], _ => rfl,
      f_Machine_init := f25,
      d_Machine_init := _,
      F_Machine_init := fun_mk (st := s_Machine_init) l25 c25 k25,
      mk_Machine := ⟨mkMachine, a25, i25, kcMachine⟩,
      b_Machine_init := (fun_mk (st := s_Machine_init) l25 c25 k25).binds (ps := ["self", "watches", "rooms", "doors"]) fun _ _ _ _ _ _ us hl => match us, hl with | [_, _, _, _], _ => rfl,
      f_Machine_watches := f26,
      d_Machine_watches := _,
      F_Machine_watches := fun_mk (st := s_Machine_watches) l26 c26 k26,
      m_Machine_watches := ⟨a26, i26, k26⟩,
      b_Machine_watches := (fun_mk (st := s_Machine_watches) l26 c26 k26).binds (ps := ["self"]) fun _ _ _ _ _ _ us hl => match us, hl with | [_], _ => rfl,
      f_Machine_rooms := f27,
      d_Machine_rooms := _,
      F_Machine_rooms := fun_mk (st := s_Machine_rooms) l27 c27 k27,
      m_Machine_rooms := ⟨a27, i27, k27⟩,
      b_Machine_rooms := (fun_mk (st := s_Machine_rooms) l27 c27 k27).binds (ps := ["self"]) fun _ _ _ _ _ _ us hl => match us, hl with | [_], _ => rfl,
      f_Machine_doors := f28,
      d_Machine_doors := _,
      F_Machine_doors := fun_mk (st := s_Machine_doors) l28 c28 k28,
      m_Machine_doors := ⟨a28, i28, k28⟩,
      b_Machine_doors := (fun_mk (st := s_Machine_doors) l28 c28 k28).binds (ps := ["self"]) fun _ _ _ _ _ _ us hl => match us, hl with | [_], _ => rfl,
      f_Machine_stay := f29,
      d_Machine_stay := _,
      F_Machine_stay := fun_mk (st := s_Machine_stay) l29 c29 k29,
      m_Machine_stay := ⟨a29, i29, k29⟩,
      b_Machine_stay := (fun_mk (st := s_Machine_stay) l29 c29 k29).binds (ps := ["self", "room"]) fun _ _ _ _ _ _ us hl => match us, hl with | [_, _], _ => rfl,
      f_Machine_watch_number := f30,
      d_Machine_watch_number := _,
      F_Machine_watch_number := fun_mk (st := s_Machine_watch_number) l30 c30 k30,
      m_Machine_watch_number := ⟨a30, i30, k30⟩,
      b_Machine_watch_number := (fun_mk (st := s_Machine_watch_number) l30 c30 k30).binds (ps := ["self", "name"]) fun _ _ _ _ _ _ us hl => match us, hl with | [_, _], _ => rfl,
      f_placed := f31,
      d_placed := _,
      F_placed := fun_mk (st := s_placed) l31 c31 k31,
      g_placed := PySem.W.mg_of X G a31,
      b_placed := (fun_mk (st := s_placed) l31 c31 k31).binds (ps := ["machine", "guard"]) fun _ _ _ _ _ _ us hl => match us, hl with | [_, _], _ => rfl,
      f_through := f32,
      d_through := _,
      F_through := fun_mk (st := s_through) l32 c32 k32,
      g_through := PySem.W.mg_of X G a32,
      b_through := (fun_mk (st := s_through) l32 c32 k32).binds (ps := ["rows", "k"]) fun _ _ _ _ _ _ us hl => match us, hl with | [_, _], _ => rfl,
      f_narrowest := f33,
      d_narrowest := _,
      F_narrowest := fun_mk (st := s_narrowest) l33 c33 k33,
      g_narrowest := PySem.W.mg_of X G a33,
      b_narrowest := (fun_mk (st := s_narrowest) l33 c33 k33).binds (ps := ["zone"]) fun _ _ _ _ _ _ us hl => match us, hl with | [_], _ => rfl,
      f_everywhere := f34,
      d_everywhere := _,
      F_everywhere := fun_mk (st := s_everywhere) l34 c34 k34,
      g_everywhere := PySem.W.mg_of X G a34,
      b_everywhere := (fun_mk (st := s_everywhere) l34 c34 k34).binds (ps := ["many"]) fun _ _ _ _ _ _ us hl => match us, hl with | [_], _ => rfl,
      f_room_of := f35,
      d_room_of := _,
      F_room_of := fun_mk (st := s_room_of) l35 c35 k35,
      g_room_of := PySem.W.mg_of X G a35,
      b_room_of := (fun_mk (st := s_room_of) l35 c35 k35).binds (ps := ["machine", "road"]) fun _ _ _ _ _ _ us hl => match us, hl with | [_, _], _ => rfl,
      f_put_look := f36,
      d_put_look := _,
      F_put_look := fun_mk (st := s_put_look) l36 c36 k36,
      g_put_look := PySem.W.mg_of X G a36,
      b_put_look := (fun_mk (st := s_put_look) l36 c36 k36).binds (ps := ["zone", "look", "since", "now"]) fun _ _ _ _ _ _ us hl => match us, hl with | [_, _, _, _], _ => rfl,
      f_put_guard := f37,
      d_put_guard := _,
      F_put_guard := fun_mk (st := s_put_guard) l37 c37 k37,
      g_put_guard := PySem.W.mg_of X G a37,
      b_put_guard := (fun_mk (st := s_put_guard) l37 c37 k37).binds (ps := ["zone", "machine", "guard", "since", "now"]) fun _ _ _ _ _ _ us hl => match us, hl with | [_, _, _, _, _], _ => rfl,
      f_road_zone := f38,
      d_road_zone := _,
      F_road_zone := fun_mk (st := s_road_zone) l38 c38 k38,
      g_road_zone := PySem.W.mg_of X G a38,
      b_road_zone := (fun_mk (st := s_road_zone) l38 c38 k38).binds (ps := ["machine", "road", "guard"]) fun _ _ _ _ _ _ us hl => match us, hl with | [_, _, _], _ => rfl,
      f_soonest := f39,
      d_soonest := _,
      F_soonest := fun_mk (st := s_soonest) l39 c39 k39,
      g_soonest := PySem.W.mg_of X G a39,
      b_soonest := (fun_mk (st := s_soonest) l39 c39 k39).binds (ps := ["machine", "road", "guard"]) fun _ _ _ _ _ _ us hl => match us, hl with | [_, _, _], _ => rfl,
      f_fine := f40,
      d_fine := _,
      F_fine := fun_mk (st := s_fine) l40 c40 k40,
      g_fine := PySem.W.mg_of X G a40,
      b_fine := (fun_mk (st := s_fine) l40 c40 k40).binds (ps := ["bound", "scale"]) fun _ _ _ _ _ _ us hl => match us, hl with | [_, _], _ => rfl,
      f_least_times := f41,
      d_least_times := _,
      F_least_times := fun_mk (st := s_least_times) l41 c41 k41,
      g_least_times := PySem.W.mg_of X G a41,
      b_least_times := (fun_mk (st := s_least_times) l41 c41 k41).binds (ps := ["zone", "scale"]) fun _ _ _ _ _ _ us hl => match us, hl with | [_, _], _ => rfl,
      f_steps_of := f42,
      d_steps_of := _,
      F_steps_of := fun_mk (st := s_steps_of) l42 c42 k42,
      g_steps_of := PySem.W.mg_of X G a42,
      b_steps_of := (fun_mk (st := s_steps_of) l42 c42 k42).binds (ps := ["road", "times"]) fun _ _ _ _ _ _ us hl => match us, hl with | [_, _], _ => rfl,
      f_run_of := f43,
      d_run_of := _,
      F_run_of := fun_mk (st := s_run_of) l43 c43 k43,
      g_run_of := PySem.W.mg_of X G a43,
      b_run_of := (fun_mk (st := s_run_of) l43 c43 k43).binds (ps := ["machine", "road", "guard"]) fun _ _ _ _ _ _ us hl => match us, hl with | [_, _, _], _ => rfl,
      f_soonest_run := f44,
      d_soonest_run := _,
      F_soonest_run := fun_mk (st := s_soonest_run) l44 c44 k44,
      g_soonest_run := PySem.W.mg_of X G a44,
      b_soonest_run := (fun_mk (st := s_soonest_run) l44 c44 k44).binds (ps := ["machine", "road", "guard", "near"]) fun _ _ _ _ _ _ us hl => match us, hl with | [_, _, _, _], _ => rfl,
      f_l_cell_at := f45,
      d_l_cell_at := _,
      F_l_cell_at := fun_mk (st := s_l_cell_at) l45 c45 k45,
      g_l_cell_at := PySem.W.mg_of X G a45,
      b_l_cell_at := (fun_mk (st := s_l_cell_at) l45 c45 k45).binds (ps := ["_law_script", "_law_k"]) fun _ _ _ _ _ _ us hl => match us, hl with | [_, _], _ => rfl,
      f_l_stream := f46,
      d_l_stream := _,
      F_l_stream := fun_mk (st := s_l_stream) l46 c46 k46,
      g_l_stream := PySem.W.mg_of X G a46,
      b_l_stream := (fun_mk (st := s_l_stream) l46 c46 k46).binds (ps := ["_law_cell", "_law_many"]) fun _ _ _ _ _ _ us hl => match us, hl with | [_, _], _ => rfl,
      f_l_names := f47,
      d_l_names := _,
      F_l_names := fun_mk (st := s_l_names) l47 c47 k47,
      g_l_names := PySem.W.mg_of X G a47,
      b_l_names := (fun_mk (st := s_l_names) l47 c47 k47).binds (ps := ["_law_cell", "_law_many"]) fun _ _ _ _ _ _ us hl => match us, hl with | [_, _], _ => rfl,
      f_l_number := f48,
      d_l_number := _,
      F_l_number := fun_mk (st := s_l_number) l48 c48 k48,
      g_l_number := PySem.W.mg_of X G a48,
      b_l_number := (fun_mk (st := s_l_number) l48 c48 k48).binds (ps := ["_law_x", "_law_unit"]) fun _ _ _ _ _ _ us hl => match us, hl with | [_, _], _ => rfl,
      f_l_guard := f49,
      d_l_guard := _,
      F_l_guard := fun_mk (st := s_l_guard) l49 c49 k49,
      g_l_guard := PySem.W.mg_of X G a49,
      b_l_guard := (fun_mk (st := s_l_guard) l49 c49 k49).binds (ps := ["_law_xs", "_law_unit", "_law_watches"]) fun _ _ _ _ _ _ us hl => match us, hl with | [_, _, _], _ => rfl,
      f_l_stay := f50,
      d_l_stay := _,
      F_l_stay := fun_mk (st := s_l_stay) l50 c50 k50,
      g_l_stay := PySem.W.mg_of X G a50,
      b_l_stay := (fun_mk (st := s_l_stay) l50 c50 k50).binds (ps := ["_law_xs", "_law_unit", "_law_watches"]) fun _ _ _ _ _ _ us hl => match us, hl with | [_, _, _], _ => rfl,
      f_l_door := f51,
      d_l_door := _,
      F_l_door := fun_mk (st := s_l_door) l51 c51 k51,
      g_l_door := PySem.W.mg_of X G a51,
      b_l_door := (fun_mk (st := s_l_door) l51 c51 k51).binds (ps := ["_law_cell", "_law_unit", "_law_watches", "_law_many"]) fun _ _ _ _ _ _ us hl => match us, hl with | [_, _, _, _], _ => rfl,
      f_l_machine := f52,
      d_l_machine := _,
      F_l_machine := fun_mk (st := s_l_machine) l52 c52 k52,
      g_l_machine := PySem.W.mg_of X G a52,
      b_l_machine := (fun_mk (st := s_l_machine) l52 c52 k52).binds (ps := ["_law_script"]) fun _ _ _ _ _ _ us hl => match us, hl with | [_], _ => rfl,
      f_l_made := f53,
      d_l_made := _,
      F_l_made := fun_mk (st := s_l_made) l53 c53 k53,
      g_l_made := PySem.W.mg_of X G a53,
      b_l_made := (fun_mk (st := s_l_made) l53 c53 k53).binds (ps := ["_law_spec"]) fun _ _ _ _ _ _ us hl => match us, hl with | [_], _ => rfl,
      f_l_road := f54,
      d_l_road := _,
      F_l_road := fun_mk (st := s_l_road) l54 c54 k54,
      g_l_road := PySem.W.mg_of X G a54,
      b_l_road := (fun_mk (st := s_l_road) l54 c54 k54).binds (ps := ["_law_spec", "_law_cells"]) fun _ _ _ _ _ _ us hl => match us, hl with | [_, _], _ => rfl,
      f_l_spoilt := f55,
      d_l_spoilt := _,
      F_l_spoilt := fun_mk (st := s_l_spoilt) l55 c55 k55,
      g_l_spoilt := PySem.W.mg_of X G a55,
      b_l_spoilt := (fun_mk (st := s_l_spoilt) l55 c55 k55).binds (ps := ["_law_spec", "_law_road_here", "_law_cell"]) fun _ _ _ _ _ _ us hl => match us, hl with | [_, _, _], _ => rfl,
      f_l_room := f56,
      d_l_room := _,
      F_l_room := fun_mk (st := s_l_room) l56 c56 k56,
      g_l_room := PySem.W.mg_of X G a56,
      b_l_room := (fun_mk (st := s_l_room) l56 c56 k56).binds (ps := ["_law_spec", "_law_road_here"]) fun _ _ _ _ _ _ us hl => match us, hl with | [_, _], _ => rfl,
      f_l_asked := f57,
      d_l_asked := _,
      F_l_asked := fun_mk (st := s_l_asked) l57 c57 k57,
      g_l_asked := PySem.W.mg_of X G a57,
      b_l_asked := (fun_mk (st := s_l_asked) l57 c57 k57).binds (ps := ["_law_which", "_law_machine_here", "_law_road_here", "_law_guard_here"]) fun _ _ _ _ _ _ us hl => match us, hl with | [_, _, _, _], _ => rfl,
      f_l_refused := f58,
      d_l_refused := _,
      F_l_refused := fun_mk (st := s_l_refused) l58 c58 k58,
      g_l_refused := PySem.W.mg_of X G a58,
      b_l_refused := (fun_mk (st := s_l_refused) l58 c58 k58).binds (ps := ["_law_which", "_law_machine_here", "_law_road_here", "_law_guard_here"]) fun _ _ _ _ _ _ us hl => match us, hl with | [_, _, _, _], _ => rfl,
      f_law := fa,
      d_law := _,
      F_law := fun_mk (st := s_law) l59 c59 k59,
      g_law := PySem.W.mg_of X G a59,
      b_law := (fun_mk (st := s_law) l59 c59 k59).binds (ps := ["_law_script"]) fun _ _ _ _ _ _ us hl => match us, hl with | [_], _ => rfl,
      C_WalkError := CWalkError,
      g_WalkError := PySem.W.mg_of X G gWalkError,
      k_WalkError := kWalkError,
      b_WalkError := bWalkError,
      t_WalkError := tWalkError,
      i_WalkError := iWalkError,
      C_NoNumber := CNoNumber,
      g_NoNumber := PySem.W.mg_of X G gNoNumber,
      x_NoNumber := xNoNumber,
      k_NoNumber := kNoNumber,
      b_NoNumber := bNoNumber,
      t_NoNumber := tNoNumber,
      i_NoNumber := iNoNumber,
      C_BadMachine := CBadMachine,
      g_BadMachine := PySem.W.mg_of X G gBadMachine,
      x_BadMachine := xBadMachine,
      k_BadMachine := kBadMachine,
      b_BadMachine := bBadMachine,
      t_BadMachine := tBadMachine,
      i_BadMachine := iBadMachine,
      C_TooMany := CTooMany,
      g_TooMany := PySem.W.mg_of X G gTooMany,
      x_TooMany := xTooMany,
      k_TooMany := kTooMany,
      b_TooMany := bTooMany,
      t_TooMany := tTooMany,
      i_TooMany := iTooMany,
      C_NoRun := CNoRun,
      g_NoRun := PySem.W.mg_of X G gNoRun,
      k_NoRun := kNoRun,
      b_NoRun := bNoRun,
      t_NoRun := tNoRun,
      i_NoRun := iNoRun,
      C_NoMark := CNoMark,
      g_NoMark := PySem.W.mg_of X G gNoMark,
      x_NoMark := xNoMark,
      k_NoMark := kNoMark,
      b_NoMark := bNoMark,
      t_NoMark := tNoMark,
      i_NoMark := iNoMark,
      C_NoRoad := CNoRoad,
      g_NoRoad := PySem.W.mg_of X G gNoRoad,
      x_NoRoad := xNoRoad,
      k_NoRoad := kNoRoad,
      b_NoRoad := bNoRoad,
      t_NoRoad := tNoRoad,
      i_NoRoad := iNoRoad,
      t_LETTERS := uLETTERS,
      g_LETTERS := PySem.W.mg_of X G gLETTERS,
      t_MOST_DOORS_machines := uMOST_DOORS_machines,
      g_MOST_DOORS_machines := PySem.W.mg_of X G gMOST_DOORS_machines,
      t_MOST_DOORS_roads := uMOST_DOORS_roads,
      g_MOST_DOORS_roads := PySem.W.mg_of X G gMOST_DOORS_roads,
      t_MOST_ROOMS := uMOST_ROOMS,
      g_MOST_ROOMS := PySem.W.mg_of X G gMOST_ROOMS,
      t_MOST_WATCHES := uMOST_WATCHES,
      g_MOST_WATCHES := PySem.W.mg_of X G gMOST_WATCHES,
      t_NOUGHT := uNOUGHT,
      g_NOUGHT := PySem.W.mg_of X G gNOUGHT,
      m_ValueError := PySem.W.mg_none_of X G zValueError,
      m_abs := PySem.W.mg_none_of X G zabs,
      m_all := PySem.W.mg_none_of X G zall,
      m_bool := PySem.W.mg_none_of X G zbool,
      m_int := PySem.W.mg_none_of X G zint,
      m_isinstance := PySem.W.mg_none_of X G zisinstance,
      m_len := PySem.W.mg_none_of X G zlen,
      m_list := PySem.W.mg_none_of X G zlist,
      m_min := PySem.W.mg_none_of X G zmin,
      m_range := PySem.W.mg_none_of X G zrange,
      m_set := PySem.W.mg_none_of X G zset,
      m_str := PySem.W.mg_none_of X G zstr,
      m_tuple := PySem.W.mg_none_of X G ztuple,
      e1_NoRoad := he1_NoRoad,
      e2_NoRoad := he2_NoRoad,
      e4_NoRoad := he4_NoRoad,
      e5_NoRoad := he5_NoRoad,
      e8_NoRoad := he8_NoRoad,
      k_NoRoad_WalkError := hk_NoRoad_WalkError,
      k_NoRoad_NoRun := hk_NoRoad_NoRun,
      e1_NoMark := he1_NoMark,
      e2_NoMark := he2_NoMark,
      e4_NoMark := he4_NoMark,
      e5_NoMark := he5_NoMark,
      e8_NoMark := he8_NoMark,
      k_NoMark_WalkError := hk_NoMark_WalkError,
      k_NoMark_NoRun := hk_NoMark_NoRun,
      s_NoRoad_NoRoad := hs_NoRoad_NoRoad,
      s_NoMark_NoRoad := hs_NoMark_NoRoad,
      s_NoMark_NoMark := hs_NoMark_NoMark,
      e6_ := he6_,
      e7_ := he7_,
      k_NoRoad_NoMark := hk_NoRoad_NoMark,
      k_NoMark_NoRoad := hk_NoMark_NoRoad,
      k_NoRoad_v := hk_NoRoad_v }
  exact ⟨_, fun s v => .of_eq rfl, fun base _ _ => ok_law T⟩
end ZW
open PySem PySem.W PyProof.Rows
set_option maxRecDepth 100000 in
set_option maxHeartbeats 0 in
theorem PySem.Challenge.cw_zonewalk_k51_rooms_of_roads_holds : PySem.Challenge.rw_zonewalk_k51_rooms_of_roads.Holds := by
  w_on; o_law; k_head; (case hw => w_witness2)
  k_fill
  refine L2.walk_of (l := PySem.Challenge.rw_zonewalk_k51_rooms_of_roads) (n := 63) (k := 10) (x := "_law_script") (CX := fun _ => L2.CX0) (sp := fun w => ZW.spLaw _) rfl (by decide) rfl ⟨rfl, by decide, by decide⟩ (fun w h Y => PySem.W.kIn_of Y) ?F (fun _ _ a ns hl _ hS => ⟨a, ns, rfl, hS, hl, fun _ => rfl⟩) (fun _ _ _ _ _ h => h)
  case F =>
    intro w mg fa h KX G hmg
    refine' ZW.all_mk KX G hmg ?gDoor ?pgDoor ?hdDoor ?poDoor ?saDoor ?mkDoor ?kcDoor ?hcDoor ?hnDoor ?htDoor ?hmDoor ?nDoor_backs ?nDoor_end ?nDoor_looks ?nDoor_sign ?nDoor_start ?gMachine ?pgMachine ?hdMachine ?poMachine ?saMachine ?mkMachine ?kcMachine ?hcMachine ?hnMachine ?htMachine ?hmMachine ?nMachine_door_list ?nMachine_room_names ?nMachine_stay_looks ?nMachine_watch_names ?gBELOW ?lBELOW ?cBELOW ?dBELOW ?gWORDS ?lWORDS ?cWORDS ?dWORDS ?a0 ?l0 ?c0 ?k0 ?a1 ?l1 ?c1 ?k1 ?a2 ?l2 ?c2 ?k2 ?a3 ?l3 ?c3 ?k3 ?a4 ?l4 ?c4 ?k4 ?a5 ?l5 ?c5 ?k5 ?a6 ?l6 ?c6 ?k6 ?a7 ?l7 ?c7 ?k7 ?a8 ?l8 ?c8 ?k8 ?lt8 ?ld8 ?a9 ?l9 ?c9 ?k9 ?a10 ?l10 ?c10 ?k10 ?a11 ?l11 ?c11 ?k11 ?a12 ?l12 ?c12 ?k12 ?a13 ?l13 ?c13 ?k13 ?a14 ?l14 ?c14 ?k14 ?a15 ?l15 ?c15 ?k15 ?a16 ?l16 ?c16 ?k16 ?a17 ?l17 ?c17 ?k17 ?a18 ?i18 ?l18 ?c18 ?k18 ?lt18 ?ld18 ?a19 ?i19 ?l19 ?c19 ?k19 ?a20 ?i20 ?l20 ?c20 ?k20 ?a21 ?l21 ?c21 ?k21 ?a22 ?l22 ?c22 ?k22 ?a23 ?l23 ?c23 ?k23 ?a24 ?l24 ?c24 ?k24 ?a25 ?i25 ?l25 ?c25 ?k25 ?a26 ?i26 ?l26 ?c26 ?k26 ?a27 ?i27 ?l27 ?c27 ?k27 ?a28 ?i28 ?l28 ?c28 ?k28 ?a29 ?i29 ?l29 ?c29 ?k29 ?a30 ?i30 ?l30 ?c30 ?k30 ?a31 ?l31 ?c31 ?k31 ?a32 ?l32 ?c32 ?k32 ?a33 ?l33 ?c33 ?k33 ?a34 ?l34 ?c34 ?k34 ?a35 ?l35 ?c35 ?k35 ?a36 ?l36 ?c36 ?k36 ?a37 ?l37 ?c37 ?k37 ?a38 ?l38 ?c38 ?k38 ?a39 ?l39 ?c39 ?k39 ?a40 ?l40 ?c40 ?k40 ?a41 ?l41 ?c41 ?k41 ?a42 ?l42 ?c42 ?k42 ?a43 ?l43 ?c43 ?k43 ?a44 ?l44 ?c44 ?k44 ?a45 ?l45 ?c45 ?k45 ?a46 ?l46 ?c46 ?k46 ?a47 ?l47 ?c47 ?k47 ?a48 ?l48 ?c48 ?k48 ?a49 ?l49 ?c49 ?k49 ?a50 ?l50 ?c50 ?k50 ?a51 ?l51 ?c51 ?k51 ?a52 ?l52 ?c52 ?k52 ?a53 ?l53 ?c53 ?k53 ?a54 ?l54 ?c54 ?k54 ?a55 ?l55 ?c55 ?k55 ?a56 ?l56 ?c56 ?k56 ?a57 ?l57 ?c57 ?k57 ?a58 ?l58 ?c58 ?k58 ?a59 ?l59 ?c59 ?k59 ?gWalkError ?kWalkError ?bWalkError ?tWalkError ?iWalkError ?gNoNumber ?xNoNumber ?kNoNumber ?bNoNumber ?tNoNumber ?iNoNumber ?gBadMachine ?xBadMachine ?kBadMachine ?bBadMachine ?tBadMachine ?iBadMachine ?gTooMany ?xTooMany ?kTooMany ?bTooMany ?tTooMany ?iTooMany ?gNoRun ?kNoRun ?bNoRun ?tNoRun ?iNoRun ?gNoMark ?xNoMark ?kNoMark ?bNoMark ?tNoMark ?iNoMark ?gNoRoad ?xNoRoad ?kNoRoad ?bNoRoad ?tNoRoad ?iNoRoad ?gLETTERS ?gMOST_DOORS_machines ?gMOST_DOORS_roads ?gMOST_ROOMS ?gMOST_WATCHES ?gNOUGHT ?zValueError ?zabs ?zall ?zbool ?zint ?zisinstance ?zlen ?zlist ?zmin ?zrange ?zset ?zstr ?ztuple ?he1_NoRoad ?he2_NoRoad ?he4_NoRoad ?he5_NoRoad ?he8_NoRoad ?hk_NoRoad_WalkError ?hk_NoRoad_NoRun ?he1_NoMark ?he2_NoMark ?he4_NoMark ?he5_NoMark ?he8_NoMark ?hk_NoMark_WalkError ?hk_NoMark_NoRun ?hs_NoRoad_NoRoad ?hs_NoMark_NoRoad ?hs_NoMark_NoMark ?he6_ ?he7_ ?hk_NoRoad_NoMark ?hk_NoMark_NoRoad ?hk_NoRoad_v
    (case gDoor => first | k_is | k_exc | rfl)
    (case pgDoor => first | k_is | k_exc | rfl)
    (case hdDoor => first | k_is | k_exc | rfl)
    (case poDoor => first | k_is | k_exc | rfl)
    (case saDoor => first | k_is | k_exc | rfl)
    (case mkDoor => first | k_is | k_exc | rfl)
    (case kcDoor => first | k_is | k_exc | rfl)
    (case hcDoor => first | k_is | k_exc | rfl)
    (case hnDoor => first | k_is | k_exc | rfl)
    (case htDoor => first | k_is | k_exc | rfl)
    (case hmDoor => first | k_is | k_exc | rfl)
    (case nDoor_backs => first | k_is | k_exc | rfl)
    (case nDoor_end => first | k_is | k_exc | rfl)
    (case nDoor_looks => first | k_is | k_exc | rfl)
    (case nDoor_sign => first | k_is | k_exc | rfl)
    (case nDoor_start => first | k_is | k_exc | rfl)
    (case gMachine => first | k_is | k_exc | rfl)
    (case pgMachine => first | k_is | k_exc | rfl)
    (case hdMachine => first | k_is | k_exc | rfl)
    (case poMachine => first | k_is | k_exc | rfl)
    (case saMachine => first | k_is | k_exc | rfl)
    (case mkMachine => first | k_is | k_exc | rfl)
    (case kcMachine => first | k_is | k_exc | rfl)
    (case hcMachine => first | k_is | k_exc | rfl)
    (case hnMachine => first | k_is | k_exc | rfl)
    (case htMachine => first | k_is | k_exc | rfl)
    (case hmMachine => first | k_is | k_exc | rfl)
    (case nMachine_door_list => first | k_is | k_exc | rfl)
    (case nMachine_room_names => first | k_is | k_exc | rfl)
    (case nMachine_stay_looks => first | k_is | k_exc | rfl)
    (case nMachine_watch_names => first | k_is | k_exc | rfl)
    (case gBELOW => first | k_is | k_exc | rfl)
    (case lBELOW => first | k_is | k_exc | rfl)
    (case cBELOW => first | k_is | k_exc | rfl)
    (case dBELOW => first | k_is | k_exc | rfl)
    (case gWORDS => first | k_is | k_exc | rfl)
    (case lWORDS => first | k_is | k_exc | rfl)
    (case cWORDS => first | k_is | k_exc | rfl)
    (case dWORDS => first | k_is | k_exc | rfl)
    (case a0 => first | k_is | k_exc | rfl)
    (case l0 => first | k_is | k_exc | rfl)
    (case c0 => first | k_is | k_exc | rfl)
    (case k0 => first | k_is | k_exc | rfl)
    (case a1 => first | k_is | k_exc | rfl)
    (case l1 => first | k_is | k_exc | rfl)
    (case c1 => first | k_is | k_exc | rfl)
    (case k1 => first | k_is | k_exc | rfl)
    (case a2 => first | k_is | k_exc | rfl)
    (case l2 => first | k_is | k_exc | rfl)
    (case c2 => first | k_is | k_exc | rfl)
    (case k2 => first | k_is | k_exc | rfl)
    (case a3 => first | k_is | k_exc | rfl)
    (case l3 => first | k_is | k_exc | rfl)
    (case c3 => first | k_is | k_exc | rfl)
    (case k3 => first | k_is | k_exc | rfl)
    (case a4 => first | k_is | k_exc | rfl)
    (case l4 => first | k_is | k_exc | rfl)
    (case c4 => first | k_is | k_exc | rfl)
    (case k4 => first | k_is | k_exc | rfl)
    (case a5 => first | k_is | k_exc | rfl)
    (case l5 => first | k_is | k_exc | rfl)
    (case c5 => first | k_is | k_exc | rfl)
    (case k5 => first | k_is | k_exc | rfl)
    (case a6 => first | k_is | k_exc | rfl)
    (case l6 => first | k_is | k_exc | rfl)
    (case c6 => first | k_is | k_exc | rfl)
    (case k6 => first | k_is | k_exc | rfl)
    (case a7 => first | k_is | k_exc | rfl)
    (case l7 => first | k_is | k_exc | rfl)
    (case c7 => first | k_is | k_exc | rfl)
    (case k7 => first | k_is | k_exc | rfl)
    (case a8 => first | k_is | k_exc | rfl)
    (case l8 => first | k_is | k_exc | rfl)
    (case c8 => first | k_is | k_exc | rfl)
    (case k8 => first | k_is | k_exc | rfl)
    (case lt8 => first | k_is | k_exc | rfl)
    (case ld8 => first | k_is | k_exc | rfl)
    (case a9 => first | k_is | k_exc | rfl)
    (case l9 => first | k_is | k_exc | rfl)
    (case c9 => first | k_is | k_exc | rfl)
    (case k9 => first | k_is | k_exc | rfl)
    (case a10 => first | k_is | k_exc | rfl)
    (case l10 => first | k_is | k_exc | rfl)
    (case c10 => first | k_is | k_exc | rfl)
    (case k10 => first | k_is | k_exc | rfl)
    (case a11 => first | k_is | k_exc | rfl)
    (case l11 => first | k_is | k_exc | rfl)
    (case c11 => first | k_is | k_exc | rfl)
    (case k11 => first | k_is | k_exc | rfl)
    (case a12 => first | k_is | k_exc | rfl)
    (case l12 => first | k_is | k_exc | rfl)
    (case c12 => first | k_is | k_exc | rfl)
    (case k12 => first | k_is | k_exc | rfl)
    (case a13 => first | k_is | k_exc | rfl)
    (case l13 => first | k_is | k_exc | rfl)
    (case c13 => first | k_is | k_exc | rfl)
    (case k13 => first | k_is | k_exc | rfl)
    (case a14 => first | k_is | k_exc | rfl)
    (case l14 => first | k_is | k_exc | rfl)
    (case c14 => first | k_is | k_exc | rfl)
    (case k14 => first | k_is | k_exc | rfl)
    (case a15 => first | k_is | k_exc | rfl)
    (case l15 => first | k_is | k_exc | rfl)
    (case c15 => first | k_is | k_exc | rfl)
    (case k15 => first | k_is | k_exc | rfl)
    (case a16 => first | k_is | k_exc | rfl)
    (case l16 => first | k_is | k_exc | rfl)
    (case c16 => first | k_is | k_exc | rfl)
    (case k16 => first | k_is | k_exc | rfl)
    (case a17 => first | k_is | k_exc | rfl)
    (case l17 => first | k_is | k_exc | rfl)
    (case c17 => first | k_is | k_exc | rfl)
    (case k17 => first | k_is | k_exc | rfl)
    (case a18 => first | k_is | k_exc | rfl)
    (case i18 => first | k_is | k_exc | rfl)
    (case l18 => first | k_is | k_exc | rfl)
    (case c18 => first | k_is | k_exc | rfl)
    (case k18 => first | k_is | k_exc | rfl)
    (case lt18 => first | k_is | k_exc | rfl)
    (case ld18 => first | k_is | k_exc | rfl)
    (case a19 => first | k_is | k_exc | rfl)
    (case i19 => first | k_is | k_exc | rfl)
    (case l19 => first | k_is | k_exc | rfl)
    (case c19 => first | k_is | k_exc | rfl)
    (case k19 => first | k_is | k_exc | rfl)
    (case a20 => first | k_is | k_exc | rfl)
    (case i20 => first | k_is | k_exc | rfl)
    (case l20 => first | k_is | k_exc | rfl)
    (case c20 => first | k_is | k_exc | rfl)
    (case k20 => first | k_is | k_exc | rfl)
    (case a21 => first | k_is | k_exc | rfl)
    (case l21 => first | k_is | k_exc | rfl)
    (case c21 => first | k_is | k_exc | rfl)
    (case k21 => first | k_is | k_exc | rfl)
    (case a22 => first | k_is | k_exc | rfl)
    (case l22 => first | k_is | k_exc | rfl)
    (case c22 => first | k_is | k_exc | rfl)
    (case k22 => first | k_is | k_exc | rfl)
    (case a23 => first | k_is | k_exc | rfl)
    (case l23 => first | k_is | k_exc | rfl)
    (case c23 => first | k_is | k_exc | rfl)
    (case k23 => first | k_is | k_exc | rfl)
    (case a24 => first | k_is | k_exc | rfl)
    (case l24 => first | k_is | k_exc | rfl)
    (case c24 => first | k_is | k_exc | rfl)
    (case k24 => first | k_is | k_exc | rfl)
    (case a25 => first | k_is | k_exc | rfl)
    (case i25 => first | k_is | k_exc | rfl)
    (case l25 => first | k_is | k_exc | rfl)
    (case c25 => first | k_is | k_exc | rfl)
    (case k25 => first | k_is | k_exc | rfl)
    (case a26 => first | k_is | k_exc | rfl)
    (case i26 => first | k_is | k_exc | rfl)
    (case l26 => first | k_is | k_exc | rfl)
    (case c26 => first | k_is | k_exc | rfl)
    (case k26 => first | k_is | k_exc | rfl)
    (case a27 => first | k_is | k_exc | rfl)
    (case i27 => first | k_is | k_exc | rfl)
    (case l27 => first | k_is | k_exc | rfl)
    (case c27 => first | k_is | k_exc | rfl)
    (case k27 => first | k_is | k_exc | rfl)
    (case a28 => first | k_is | k_exc | rfl)
    (case i28 => first | k_is | k_exc | rfl)
    (case l28 => first | k_is | k_exc | rfl)
    (case c28 => first | k_is | k_exc | rfl)
    (case k28 => first | k_is | k_exc | rfl)
    (case a29 => first | k_is | k_exc | rfl)
    (case i29 => first | k_is | k_exc | rfl)
    (case l29 => first | k_is | k_exc | rfl)
    (case c29 => first | k_is | k_exc | rfl)
    (case k29 => first | k_is | k_exc | rfl)
    (case a30 => first | k_is | k_exc | rfl)
    (case i30 => first | k_is | k_exc | rfl)
    (case l30 => first | k_is | k_exc | rfl)
    (case c30 => first | k_is | k_exc | rfl)
    (case k30 => first | k_is | k_exc | rfl)
    (case a31 => first | k_is | k_exc | rfl)
    (case l31 => first | k_is | k_exc | rfl)
    (case c31 => first | k_is | k_exc | rfl)
    (case k31 => first | k_is | k_exc | rfl)
    (case a32 => first | k_is | k_exc | rfl)
    (case l32 => first | k_is | k_exc | rfl)
    (case c32 => first | k_is | k_exc | rfl)
    (case k32 => first | k_is | k_exc | rfl)
    (case a33 => first | k_is | k_exc | rfl)
    (case l33 => first | k_is | k_exc | rfl)
    (case c33 => first | k_is | k_exc | rfl)
    (case k33 => first | k_is | k_exc | rfl)
    (case a34 => first | k_is | k_exc | rfl)
    (case l34 => first | k_is | k_exc | rfl)
    (case c34 => first | k_is | k_exc | rfl)
    (case k34 => first | k_is | k_exc | rfl)
    (case a35 => first | k_is | k_exc | rfl)
    (case l35 => first | k_is | k_exc | rfl)
    (case c35 => first | k_is | k_exc | rfl)
    (case k35 => first | k_is | k_exc | rfl)
    (case a36 => first | k_is | k_exc | rfl)
    (case l36 => first | k_is | k_exc | rfl)
    (case c36 => first | k_is | k_exc | rfl)
    (case k36 => first | k_is | k_exc | rfl)
    (case a37 => first | k_is | k_exc | rfl)
    (case l37 => first | k_is | k_exc | rfl)
    (case c37 => first | k_is | k_exc | rfl)
    (case k37 => first | k_is | k_exc | rfl)
    (case a38 => first | k_is | k_exc | rfl)
    (case l38 => first | k_is | k_exc | rfl)
    (case c38 => first | k_is | k_exc | rfl)
    (case k38 => first | k_is | k_exc | rfl)
    (case a39 => first | k_is | k_exc | rfl)
    (case l39 => first | k_is | k_exc | rfl)
    (case c39 => first | k_is | k_exc | rfl)
    (case k39 => first | k_is | k_exc | rfl)
    (case a40 => first | k_is | k_exc | rfl)
    (case l40 => first | k_is | k_exc | rfl)
    (case c40 => first | k_is | k_exc | rfl)
    (case k40 => first | k_is | k_exc | rfl)
    (case a41 => first | k_is | k_exc | rfl)
    (case l41 => first | k_is | k_exc | rfl)
    (case c41 => first | k_is | k_exc | rfl)
    (case k41 => first | k_is | k_exc | rfl)
    (case a42 => first | k_is | k_exc | rfl)
    (case l42 => first | k_is | k_exc | rfl)
    (case c42 => first | k_is | k_exc | rfl)
    (case k42 => first | k_is | k_exc | rfl)
    (case a43 => first | k_is | k_exc | rfl)
    (case l43 => first | k_is | k_exc | rfl)
    (case c43 => first | k_is | k_exc | rfl)
    (case k43 => first | k_is | k_exc | rfl)
    (case a44 => first | k_is | k_exc | rfl)
    (case l44 => first | k_is | k_exc | rfl)
    (case c44 => first | k_is | k_exc | rfl)
    (case k44 => first | k_is | k_exc | rfl)
    (case a45 => first | k_is | k_exc | rfl)
    (case l45 => first | k_is | k_exc | rfl)
    (case c45 => first | k_is | k_exc | rfl)
    (case k45 => first | k_is | k_exc | rfl)
    (case a46 => first | k_is | k_exc | rfl)
    (case l46 => first | k_is | k_exc | rfl)
    (case c46 => first | k_is | k_exc | rfl)
    (case k46 => first | k_is | k_exc | rfl)
    (case a47 => first | k_is | k_exc | rfl)
    (case l47 => first | k_is | k_exc | rfl)
    (case c47 => first | k_is | k_exc | rfl)
    (case k47 => first | k_is | k_exc | rfl)
    (case a48 => first | k_is | k_exc | rfl)
    (case l48 => first | k_is | k_exc | rfl)
    (case c48 => first | k_is | k_exc | rfl)
    (case k48 => first | k_is | k_exc | rfl)
    (case a49 => first | k_is | k_exc | rfl)
    (case l49 => first | k_is | k_exc | rfl)
    (case c49 => first | k_is | k_exc | rfl)
    (case k49 => first | k_is | k_exc | rfl)
    (case a50 => first | k_is | k_exc | rfl)
    (case l50 => first | k_is | k_exc | rfl)
    (case c50 => first | k_is | k_exc | rfl)
    (case k50 => first | k_is | k_exc | rfl)
    (case a51 => first | k_is | k_exc | rfl)
    (case l51 => first | k_is | k_exc | rfl)
    (case c51 => first | k_is | k_exc | rfl)
    (case k51 => first | k_is | k_exc | rfl)
    (case a52 => first | k_is | k_exc | rfl)
    (case l52 => first | k_is | k_exc | rfl)
    (case c52 => first | k_is | k_exc | rfl)
    (case k52 => first | k_is | k_exc | rfl)
    (case a53 => first | k_is | k_exc | rfl)
    (case l53 => first | k_is | k_exc | rfl)
    (case c53 => first | k_is | k_exc | rfl)
    (case k53 => first | k_is | k_exc | rfl)
    (case a54 => first | k_is | k_exc | rfl)
    (case l54 => first | k_is | k_exc | rfl)
    (case c54 => first | k_is | k_exc | rfl)
    (case k54 => first | k_is | k_exc | rfl)
    (case a55 => first | k_is | k_exc | rfl)
    (case l55 => first | k_is | k_exc | rfl)
    (case c55 => first | k_is | k_exc | rfl)
    (case k55 => first | k_is | k_exc | rfl)
    (case a56 => first | k_is | k_exc | rfl)
    (case l56 => first | k_is | k_exc | rfl)
    (case c56 => first | k_is | k_exc | rfl)
    (case k56 => first | k_is | k_exc | rfl)
    (case a57 => first | k_is | k_exc | rfl)
    (case l57 => first | k_is | k_exc | rfl)
    (case c57 => first | k_is | k_exc | rfl)
    (case k57 => first | k_is | k_exc | rfl)
    (case a58 => first | k_is | k_exc | rfl)
    (case l58 => first | k_is | k_exc | rfl)
    (case c58 => first | k_is | k_exc | rfl)
    (case k58 => first | k_is | k_exc | rfl)
    (case a59 => first | k_is | k_exc | rfl)
    (case l59 => first | k_is | k_exc | rfl)
    (case c59 => first | k_is | k_exc | rfl)
    (case k59 => first | k_is | k_exc | rfl)
    (case gWalkError => first | k_is | k_exc | rfl)
    (case kWalkError => first | k_is | k_exc | rfl)
    (case bWalkError => first | k_is | k_exc | rfl)
    (case tWalkError => first | k_is | k_exc | rfl)
    (case iWalkError => first | k_is | k_exc | rfl)
    (case gNoNumber => first | k_is | k_exc | rfl)
    (case xNoNumber => first | k_is | k_exc | rfl)
    (case kNoNumber => first | k_is | k_exc | rfl)
    (case bNoNumber => first | k_is | k_exc | rfl)
    (case tNoNumber => first | k_is | k_exc | rfl)
    (case iNoNumber => first | k_is | k_exc | rfl)
    (case gBadMachine => first | k_is | k_exc | rfl)
    (case xBadMachine => first | k_is | k_exc | rfl)
    (case kBadMachine => first | k_is | k_exc | rfl)
    (case bBadMachine => first | k_is | k_exc | rfl)
    (case tBadMachine => first | k_is | k_exc | rfl)
    (case iBadMachine => first | k_is | k_exc | rfl)
    (case gTooMany => first | k_is | k_exc | rfl)
    (case xTooMany => first | k_is | k_exc | rfl)
    (case kTooMany => first | k_is | k_exc | rfl)
    (case bTooMany => first | k_is | k_exc | rfl)
    (case tTooMany => first | k_is | k_exc | rfl)
    (case iTooMany => first | k_is | k_exc | rfl)
    (case gNoRun => first | k_is | k_exc | rfl)
    (case kNoRun => first | k_is | k_exc | rfl)
    (case bNoRun => first | k_is | k_exc | rfl)
    (case tNoRun => first | k_is | k_exc | rfl)
    (case iNoRun => first | k_is | k_exc | rfl)
    (case gNoMark => first | k_is | k_exc | rfl)
    (case xNoMark => first | k_is | k_exc | rfl)
    (case kNoMark => first | k_is | k_exc | rfl)
    (case bNoMark => first | k_is | k_exc | rfl)
    (case tNoMark => first | k_is | k_exc | rfl)
    (case iNoMark => first | k_is | k_exc | rfl)
    (case gNoRoad => first | k_is | k_exc | rfl)
    (case xNoRoad => first | k_is | k_exc | rfl)
    (case kNoRoad => first | k_is | k_exc | rfl)
    (case bNoRoad => first | k_is | k_exc | rfl)
    (case tNoRoad => first | k_is | k_exc | rfl)
    (case iNoRoad => first | k_is | k_exc | rfl)
    (case gLETTERS => first | k_is | k_exc | rfl)
    (case gMOST_DOORS_machines => first | k_is | k_exc | rfl)
    (case gMOST_DOORS_roads => first | k_is | k_exc | rfl)
    (case gMOST_ROOMS => first | k_is | k_exc | rfl)
    (case gMOST_WATCHES => first | k_is | k_exc | rfl)
    (case gNOUGHT => first | k_is | k_exc | rfl)
    (case zValueError => first | k_is | k_exc | rfl)
    (case zabs => first | k_is | k_exc | rfl)
    (case zall => first | k_is | k_exc | rfl)
    (case zbool => first | k_is | k_exc | rfl)
    (case zint => first | k_is | k_exc | rfl)
    (case zisinstance => first | k_is | k_exc | rfl)
    (case zlen => first | k_is | k_exc | rfl)
    (case zlist => first | k_is | k_exc | rfl)
    (case zmin => first | k_is | k_exc | rfl)
    (case zrange => first | k_is | k_exc | rfl)
    (case zset => first | k_is | k_exc | rfl)
    (case zstr => first | k_is | k_exc | rfl)
    (case ztuple => first | k_is | k_exc | rfl)
    (case he1_NoRoad => first | k_is | k_exc | rfl)
    (case he2_NoRoad => first | k_is | k_exc | rfl)
    (case he4_NoRoad => first | k_is | k_exc | rfl)
    (case he5_NoRoad => first | k_is | k_exc | rfl)
    (case he8_NoRoad => first | k_is | k_exc | rfl)
    (case hk_NoRoad_WalkError => first | k_is | k_exc | rfl)
    (case hk_NoRoad_NoRun => first | k_is | k_exc | rfl)
    (case he1_NoMark => first | k_is | k_exc | rfl)
    (case he2_NoMark => first | k_is | k_exc | rfl)
    (case he4_NoMark => first | k_is | k_exc | rfl)
    (case he5_NoMark => first | k_is | k_exc | rfl)
    (case he8_NoMark => first | k_is | k_exc | rfl)
    (case hk_NoMark_WalkError => first | k_is | k_exc | rfl)
    (case hk_NoMark_NoRun => first | k_is | k_exc | rfl)
    (case hs_NoRoad_NoRoad => first | k_is | k_exc | rfl)
    (case hs_NoMark_NoRoad => first | k_is | k_exc | rfl)
    (case hs_NoMark_NoMark => first | k_is | k_exc | rfl)
    (case he6_ => first | k_is | k_exc | rfl)
    (case he7_ => first | k_is | k_exc | rfl)
    (case hk_NoRoad_NoMark => first | k_is | k_exc | rfl)
    (case hk_NoMark_NoRoad => first | k_is | k_exc | rfl)
    (case hk_NoRoad_v => first | k_is | k_exc | rfl)
