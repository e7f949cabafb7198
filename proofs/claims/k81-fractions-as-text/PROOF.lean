import PyProof.Rows.All
import Wide.All
import OpenK.AllK
import Wide.FinOn
import HandS.ForMost
import HandS.ForExc
import HandS.Wide
import HandS.WideBits
import HandS.IsInst
import HandS.TupLe
import KE.BitLaws
import HandS.Defaults
import HandS.ExcIs
import HandS.Conv
import HandS.Zip
import HandS.More
import HandS.SetKeys
import HandS.Strs
import HandS.Codes
import PySem.Challenge.RW_zonewalk_k81_fractions_as_text
set_option Elab.async false
set_option linter.all false
set_option maxRecDepth 100000
set_option maxHeartbeats 4000000

namespace ZW
theorem fmod_gcd (a b : Int) : Int.gcd b (a.fmod b) = Int.gcd a b := by
  rw [Int.fmod_def, Int.gcd_comm a b]
  exact Int.gcd_sub_mul_left_right b a (a.fdiv b)
theorem fmod_lt (a b : Int) (hb : b ≠ 0) : (a.fmod b).natAbs < b.natAbs := by
  rcases Int.lt_or_lt_of_ne hb with h | h
  · have h1 := Int.fmod_def a b
    have e : a.fmod b = -((-a).fmod (-b)) := by simp
    rw [e, Int.fmod_eq_emod_of_nonneg _ (by omega)]
    have := Int.emod_lt_of_pos (-a) (b := -b) (by omega)
    have := Int.emod_nonneg (-a) (b := -b) (by omega)
    omega
  · rw [Int.fmod_eq_emod_of_nonneg a (by omega)]
    have := Int.emod_lt_of_pos a h
    have := Int.emod_nonneg a hb
    omega
theorem gcd_pos_right {a b : Int} (hb : b ≠ 0) : (0 : Int) < Int.gcd a b := by
  have := Int.gcd_pos_of_ne_zero_right a hb
  omega
/-- both divided by their gcd -/
structure Low (a b t u : Int) : Prop where
  pos : 0 < b → 0 < u
  top : t * Int.gcd a b = a
  bot : u * Int.gcd a b = b
  eq : t * b = a * u
  one : Int.gcd t u = 1
theorem low_of {a b : Int} (hb : b ≠ 0) : Low a b (a.fdiv (Int.gcd a b)) (b.fdiv (Int.gcd a b)) := by
  have g := gcd_pos_right (a := a) hb
  have d1 : (Int.gcd a b : Int) ∣ a := Int.gcd_dvd_left ..
  have d2 : (Int.gcd a b : Int) ∣ b := Int.gcd_dvd_right ..
  rw [Int.fdiv_eq_ediv_of_nonneg _ (by omega), Int.fdiv_eq_ediv_of_nonneg _ (by omega)]
  have e1 := Int.ediv_mul_cancel d1
  have e2 := Int.ediv_mul_cancel d2
  generalize hx : a / (Int.gcd a b : Int) = x at *
  generalize hy : b / (Int.gcd a b : Int) = y at *
  generalize hg : (Int.gcd a b : Int) = G at *
  refine ⟨fun h => ?_, ?_, ?_, ?_, ?_⟩
  · rcases Int.lt_or_le 0 y with z | z
    · exact z
    · have := Int.mul_nonpos_of_nonpos_of_nonneg z (Int.le_of_lt g)
      omega
  · rw [hg]; exact e1
  · rw [hg]; exact e2
  · rw [← e2, ← e1]; rw [Int.mul_comm y G, ← Int.mul_assoc]
  · have q : Int.gcd (x * G) (y * G) = Int.gcd x y * G.natAbs := Int.gcd_mul_right ..
    rw [e1, e2] at q
    have hG : G.natAbs = Int.gcd a b := by omega
    rw [hG] at q
    have gp : 0 < Int.gcd a b := by omega
    exact Nat.eq_of_mul_eq_mul_right gp (by rw [Nat.one_mul]; exact q.symm)
theorem quo_le {t G a : Int} (h : t * G = a) (hG : 0 < G) : t.natAbs ≤ a.natAbs := by
  rw [← h, Int.natAbs_mul]
  exact Nat.le_mul_of_pos_right _ (by omega)
/-- the fraction t / u, in lowest terms, that stands so to a and b -/
structure Red (a b t u : Int) : Prop where
  pos : 0 < u
  eq : t * b = a * u
  one : Int.gcd t u = 1
  tle : t.natAbs ≤ a.natAbs
  ule : u.natAbs ≤ b.natAbs
theorem Low.red {a b t u : Int} (l : Low a b t u) (h : 0 < b) : Red a b t u := ⟨l.pos h, l.eq, l.one, quo_le l.top (gcd_pos_right (by omega)), quo_le l.bot (gcd_pos_right (by omega))⟩
theorem red_neg {a b : Int} (hb : b < 0) : Red a b (a.fdiv (0 - (Int.gcd a b : Int))) (b.fdiv (0 - (Int.gcd a b : Int))) := by
  have l := low_of (a := a) (b := b) (by omega)
  have g := gcd_pos_right (a := a) (b := b) (by omega)
  have k : ∀ x t : Int, t * (Int.gcd a b : Int) = x → x.fdiv (0 - (Int.gcd a b : Int)) = - t := by
    intro x t e
    rw [Int.zero_sub, show x = (-(Int.gcd a b : Int)) * (-t) by rw [Int.neg_mul_neg, Int.mul_comm, e], Int.mul_fdiv_cancel_left _ (by omega)]
  rw [k _ _ l.top, k _ _ l.bot]
  have hu : b.fdiv (Int.gcd a b) < 0 := by
    rcases Int.lt_or_le (b.fdiv (Int.gcd a b)) 0 with z | z
    · exact z
    · have := Int.mul_nonneg z (Int.le_of_lt g); rw [l.bot] at this; omega
  refine ⟨by omega, by rw [Int.neg_mul, Int.mul_neg, l.eq], by rw [Int.gcd_neg, Int.neg_gcd]; exact l.one, by rw [Int.natAbs_neg]; exact quo_le l.top g, by rw [Int.natAbs_neg]; exact quo_le l.bot g⟩
theorem gcd_le_size {a b : Int} (hb : b ≠ 0) : (Int.gcd a b) ≤ b.natAbs := by
  have := Int.gcd_dvd_right (a := a) (b := b)
  exact Nat.le_of_dvd (by omega) (by simpa using Int.natAbs_dvd_natAbs.mpr this)
theorem log_lt {i : Int} {n m : Nat} (h : i.natAbs < 2 ^ n) (h0 : 0 < n) (hm : n ≤ m) : i.natAbs.log2 < m := by
  by_cases e : i.natAbs = 0
  · rw [e]; simp; omega
  · exact Nat.lt_of_lt_of_le ((Nat.log2_lt e).mpr h) hm
open PySem PySem.Spec PyProof.Rows L2
theorem upd_keep {H : Hp} {p : Addr} {o : HO} (h : H p = none) : Same H (upd H p o) := fun b x e => by
  rw [upd_ne (ne_of_none e h)]
  exact e
theorem Same.to {H H' : Hp} (s : Same H H') {a : Addr} {o : HO} (h : H a = some o) : H' a = some o := s a o h
theorem seq_step {t u : TS} {D : Ends} {σ : L2.St} {H : Hp} (h : t { D with nx := u D } σ H) : tSeq t u D σ H := h
theorem ite_d {c : Prop} [Decidable c] {A B : Prop} (h1 : c → A) (h2 : ¬ c → B) : if decide c = true then A else B := by
  by_cases h : c
  · rw [if_pos (decide_eq_true h)]; exact h1 h
  · rw [if_neg (by rw [decide_eq_false h]; exact Bool.false_ne_true)]; exact h2 h
theorem cxK {CX : CXT} {P : Program} {w : World} {K : PySem.W.Frag} {mg : Str → Option Value} {base : Heap} {N : List Str} {qual : Str} {scope : Scope} {f : Addr} {cd : Value} {A : Around} {outer : List Env} {s : Shared} {H : Hp} {E : XK} :
    (cxOf CX P w K mg base N qual scope f cd A outer s H E).K = K := rfl
theorem ix_l {K : PySem.W.Frag} {H : Hp} {p : Addr} {xs : List V} {i : Int} {v : V} {Q : VK} (h : SqL K H p xs) (hi : 0 ≤ i) (hv : xs[i.toNat]? = some v) (q : Q v H) : rIxL K (.ref p) (.int i) H Q :=
  ⟨p, xs, i, v, rfl, rfl, h, at_of (j := i.toNat) (by omega) hv, q⟩
theorem ix_t {K : PySem.W.Frag} {H : Hp} {p : Addr} {xs : List V} {i : Int} {v : V} {Q : VK} (h : SqT K H p xs) (hi : 0 ≤ i) (hv : xs[i.toNat]? = some v) (q : Q v H) : rIxT K (.ref p) (.int i) H Q :=
  ⟨p, xs, i, v, rfl, rfl, h, at_of (j := i.toNat) (by omega) hv, q⟩
theorem fm_pos {c m : Int} (h : 0 < m) : 0 ≤ c.fmod m ∧ c.fmod m < m := by
  rw [Int.fmod_eq_emod_of_nonneg _ (by omega)]
  exact ⟨Int.emod_nonneg _ (by omega), Int.emod_lt_of_pos _ h⟩
/-- a number of at most n bits -/
def Sz (n : Nat) (i : Int) : Prop := i.natAbs < 2 ^ n
theorem Sz.mono {i : Int} {a c : Nat} (ha : Sz a i) (h : a ≤ c) : Sz c i := Nat.lt_of_lt_of_le ha (Nat.pow_le_pow_right (by decide) h)
theorem Sz.mulW {i j : Int} {a b : Nat} (ha : Sz a i) (hb : Sz b j) (h : a + b ≤ 999998) : CMulW i j :=
  wide_mul (a := a + 1) (b := b + 1) (Sz.mono ha (by omega)) (Sz.mono hb (by omega)) (by omega) (by omega) (by omega)
theorem Sz.mul {i j : Int} {a b c : Nat} (ha : Sz a i) (hb : Sz b j) (h : a + b ≤ c) : Sz c (i * j) := Sz.mono (wide_lt ha hb) h
theorem Sz.le {i j : Int} {a : Nat} (h : i.natAbs ≤ j.natAbs) (hj : Sz a j) : Sz a i := Nat.lt_of_le_of_lt h hj
/-- a divisor that the rule takes -/
def DivOk (j : Int) : Prop := j ≠ 0 ∧ j.natAbs.log2 < 9000
theorem DivOk.of {j : Int} {n : Nat} (h : j ≠ 0) (hs : Sz n j) (hn : n ≤ 8000) : DivOk j := ⟨h, log_lt (n := 8000) (hs.mono hn) (by omega) (by omega)⟩
theorem sz_line {n : Nat} (h : n ≤ 1000) : (n ≤ sizeLine) = True := eq_true (Nat.le_of_lt (small1000 h))
section
variable {X : Cx}
theorem op_fdivZ : OpR X (binaryOp .FloorDiv) (rI (fun _ j => DivOk j) fun i j => .int (i.fdiv j)) := opI fun _ _ _ _ _ _ _ hc q =>
  floordiv_int hc.1 q (.inl (PyProof.noPylong_of_log2 hc.2))
end
theorem sqt {K : PySem.W.Frag} {H : Hp} {a : Addr} {xs : List V} (h : H a = some (.tup xs)) : SqT K H a xs := SqT.of h
section
variable {X : Cx} {e : Expr} {es : List Expr} {t t' : TE} {ta : TA} {pos : Pos}
theorem pe_imp (h : PE X e t) (k : ∀ σ H Q, t' σ H Q → t σ H Q) : PE X e t' := ⟨fun pins s σ H Q I q => h.run pins s σ H Q I (k σ H Q q)⟩
def tWk (ta : TA) : TA := fun σ H Q => ∃ Q0 : List V → Hp → Prop, ta σ H Q0 ∧ ∀ xs H1, Q0 xs H1 → Q xs H1
theorem pa_wk (h : PA X es ta) : PA X es (tWk ta) := ⟨fun pos pins s σ H _ I ⟨Q0, a, k⟩ => thn (h.run pos pins s σ H Q0 I a) fun _ _ ⟨xs, H1, I1, r, q⟩ => ⟨xs, H1, I1, r, k _ _ q⟩⟩
/-- a new tuple, a new list: nothing but what is tracked is told of the heap behind -/
def tTupN (ta : TA) : TE := fun σ H Q => ta σ H fun xs H1 => xs.length ≤ sizeLine ∧ ∀ p H2, Same H1 H2 → H1 p = none → H2 p = some (.tup xs) → Q (.ref p) H2
def tLstN (ta : TA) : TE := fun σ H Q => ta σ H fun xs H1 => xs.length ≤ sizeLine ∧ ∀ p H2, Same H1 H2 → H1 p = none → H2 p = some (.lst xs) → Q (.ref p) H2
theorem pe_tupN {x1} (h : PA X es ta) : PE X (.Tuple es x1 pos) (tTupN ta) :=
  pe_imp (pe_tup (pa_wk h)) fun _ _ _ q => ⟨_, q, fun _ _ ⟨z, k⟩ => ⟨z, fun p hp => k p _ (upd_keep hp) hp upd_same⟩⟩
theorem pe_lstN (h : PA X es ta) : PE X (.List es pos) (tLstN ta) :=
  pe_imp (pe_lst (pa_wk h)) fun _ _ _ q => ⟨_, q, fun _ _ ⟨z, k⟩ => ⟨z, fun p hp => k p _ (upd_keep hp) hp upd_same⟩⟩
def rSlN (K : PySem.W.Frag) : V → Option Int → Option Int → Hp → VK → Prop := fun x lo hi H Q => ∃ a xs, x = .ref a ∧ SqL K H a xs ∧ ∀ p H2, Same H H2 → H p = none → H2 p = some (.lst (cutV xs lo hi)) → Q (.ref p) H2
theorem op_imp {f : Value → Value → Sem Value} {r r' : R2} (h : OpR X f r) (k : ∀ x y H Q, r' x y H Q → r x y H Q) : OpR X f r' := fun pins s σ H x y v u Q I rx ry q => h pins s σ H x y v u Q I rx ry (k x y H Q q)
def rCatN : R2 := fun x y H Q => ∃ l b xs zs, x = .ref l ∧ y = .ref b ∧ H l = some (.lst xs) ∧ H b = some (.lst zs) ∧ xs.length + zs.length ≤ sizeLine ∧ ∀ p H2, Same H H2 → H p = none → H2 p = some (.lst (xs ++ zs)) → Q (.ref p) H2
theorem op_catN : OpR X (binaryOp .Add) rCatN := op_imp op_cat fun _ _ _ _ ⟨l, b, xs, zs, e1, e2, h1, h2, z, q⟩ => ⟨l, b, xs, zs, e1, e2, h1, h2, z, fun p hp => q p _ (upd_keep hp) hp upd_same⟩
def rRepN : R2 := fun x y H Q => ∃ l k xs, x = .ref l ∧ y = .int k ∧ H l = some (.lst xs) ∧ -(2 ^ 63) ≤ k ∧ k < 2 ^ 63 ∧ xs.length * k.toNat ≤ sizeLine ∧ ∀ p H2, Same H H2 → H p = none → H2 p = some (.lst (List.replicate k.toNat xs).flatten) → Q (.ref p) H2
theorem small1000' {n : Nat} (h : n ≤ 1000) : n ≤ sizeLine := Nat.le_of_lt (small1000 h)
def rListN (K : PySem.W.Frag) : List V → Hp → VK → Prop := fun xs H Q => ∃ p ys, xs = [.ref p] ∧ (SqL K H p ys ∨ SqT K H p ys) ∧ ∀ l H2, Same H H2 → H l = none → H2 l = some (.lst ys) → Q (.ref l) H2
def rIntB : List V → Hp → VK → Prop := fun xs H Q => ∃ k, xs = [.bl k] ∧ Q (.int (if k then 1 else 0)) H
end
theorem isi {K : PySem.W.Frag} {H : Hp} {x : V} {a b : String} {r : Bool} {Q : VK} (h : TyX K H x (.type a)) (k : kitB a b = some r) (q : Q (.bl r) H) : rIsi K [x, .ty b] H Q := ⟨x, .ty b, _, _, r, rfl, .ty b, h, kit_ty k, q⟩
theorem funD_mk {K : PySem.W.Frag} {x qual : Str} {st : Stmt} {f t : Addr} {oc kV doc pm cdv ct : Value} {od an : Option Addr} {osl : Array (Option Value)} {o : Obj} {n : Nat} {its : List Value} {dvs : List V}
    (l : K.lookup f = some ⟨oc, od, .func (PySem.W.fnOf x qual (defArgs st) (defBody st) (defScope st) (.ref t) kV doc pm an cdv ct), osl⟩) (c : PySem.W.codeIn K cdv qual = true) (k : PySem.W.keepIn K (.ref f) = true)
    (lt : K.lookup t = some o) (ld : o.data = .seq its.toArray n) (hv : Vals dvs its) (hd : dvs ≠ []) : FunD K x qual (defArgs st) (defBody st) (defScope st) dvs [] f (PySem.W.fnOf x qual (defArgs st) (defBody st) (defScope st) (.ref t) kV doc pm an cdv ct) :=
  ⟨⟨oc, od, .ref t, kV, doc, pm, an, cdv, ct, osl, rfl, l, c, .inr ⟨hd, t, o, its, n, rfl, lt, ld, hv⟩, .inl rfl⟩, k⟩
section
variable {X : Cx} {D a : Addr} {cls : Value} {d : Option Addr} {oe : Obj} {pn : List (Addr × Obj)}
/-- isinstance of the caught error: its class is told in the reading -/
theorem call_isE2 (hz : Zc cls d oe) (hf : ∃ vs, oe.data = .fields vs) : CallR (X.suite a ((a, oe) :: pn)) (.builtin "isinstance") (fun xs H Q => ∃ D, cls = .ref D ∧ d = none ∧ ExcC X.K D ∧ rIsE X.K D a xs H Q) := by
  intro pins s σ H xs us Q I r ⟨D, h1, h2, C, h⟩
  subst h1; subst h2
  exact call_isE C hz hf pins s σ H xs us Q I r h
end
def kinds : List String := ["int", "bool", "NoneType", "str", "list", "tuple", "dict"]
/-- whether a thing is a whole number -/
def spWhole (K : PySem.W.Frag) : Sp := fun vs H Q _ => ∃ (x : V) (t : String), vs = [x] ∧ TyX K H x (.type t) ∧ t ∈ kinds ∧ Q (.bl (decide (t = "int"))) H
/-- two numbers in lowest terms with a bottom above 0, as a new tuple -/
def RedT (a b : Int) (H : Hp) (Q : VK) : Prop := ∀ (t u : Int) (p : Addr) (H' : Hp), Red a b t u → Same H H' → H' p = some (.tup [.int t, .int u]) → Q (.ref p) H'
theorem ncast (n : Nat) : ((no_index (OfNat.ofNat n) : Nat) : Int) = OfNat.ofNat n := rfl
theorem exm_two {K : PySem.W.Frag} {C : Addr} {cls : Value} {b : Bool} (h1 : PySem.W.subIn K (.ref C) (.type "BaseException") = some true) (h2 : PySem.W.hasDictIn K C = true) (h3 : PySem.W.typeIn K (.ref C) = some (.type "type")) (h4 : PySem.W.subIn K cls (.ref C) = some b) : PySem.W.exmOne K cls (.ref C) = some b := PySem.W.exm_ref h1 h2 h3 h4
/-- what stands behind a statement is shown once, for all its ways -/
theorem join_if {t R : TS} {D : Ends} {σ : L2.St} {H : Hp} (P : L2.St → Hp → Prop) (h2 : ∀ σ' H', P σ' H' → R D σ' H') (h1 : (∀ σ' H', P σ' H' → R D σ' H') → tSeq t R D σ H) : tSeq t R D σ H := h1 h2
section
variable {X : Cx} {K : PySem.W.Frag}
theorem call_isiA (h : X.K = K) : CallR X (.builtin "isinstance") (rIsi K) := by subst h; exact call_isi
theorem ix_listA (h : X.K = K) : IxR X (rIxL K) := by subst h; exact ix_list
theorem ix_tupA (h : X.K = K) : IxR X (rIxT K) := by subst h; exact ix_tup
def tRevN (K : PySem.W.Frag) (te : TE) : TE := fun σ H Q => te σ H fun x H1 => ∃ a xs, x = .ref a ∧ SqL K H1 a xs ∧ ∀ p H2, Same H1 H2 → H1 p = none → H2 p = some (.lst xs.reverse) → Q (.ref p) H2
theorem op_mulOk : OpR X (binaryOp .Mult) (rI IntMulOk fun i j => .int (i * j)) := opI fun _ _ _ _ _ _ _ hc q => mul_int q hc
theorem op_notIn_seqA (h : X.K = K) : OpR X (compareOp .NotIn) (rIn K true) := by subst h; exact op_notIn_seq
theorem pg_tupA {es : List Expr} {k : Nat} {t : TGs} {n : Nat} (h' : X.K = K) (hc : X.calm = true) (h : PGs X es t)
    (hn : (assignEach es X.env).length = n := by rfl) (hst : (assignEach es X.env).findIdx? (·.1) = none := by rfl) {pos : PySem.Pos} : PG X (.Tuple es k pos) (gTup K n t) := by subst h'; exact pg_tup hc h hn hst
end
/-- what is asked whether it is a fraction, and the answer -/
inductive FrIn (K : PySem.W.Frag) (H : Hp) : V → Bool → Prop where
  | other {x : V} {t : String} (h : TyX K H x (.type t)) (k : t ∈ kinds) (n : t ≠ "tuple") : FrIn K H x false
  | len {p : Addr} {xs : List V} (h : H p = some (.tup xs)) (n : xs.length ≠ 2) : FrIn K H (.ref p) false
  | odd {p : Addr} {v0 v1 : V} {t0 t1 : String} (h : H p = some (.tup [v0, v1])) (h0 : TyX K H v0 (.type t0)) (h1 : TyX K H v1 (.type t1)) (k0 : t0 ∈ kinds) (k1 : t1 ∈ kinds) (n : t0 ≠ "int" ∨ t1 ≠ "int") : FrIn K H (.ref p) false
  | num {p : Addr} {a b : Int} (h : H p = some (.tup [.int a, .int b])) : FrIn K H (.ref p) (decide (1 ≤ b ∧ Int.gcd a b = 1))
def tDictN : TE := fun _ H Q => ∀ p H2, Same H H2 → H p = none → H2 p = some (.dK []) → Q (.ref p) H2
/-! ### own classes -/
section
variable {X : Cx} {CX : CXT} {k : Nat} {f C : Addr} {fd : FuncData} {ps : List Str} {ds : List Value} {dvs : List V} {sp : Sp} {E : XK} {x : Str} {e : Expr} {es : List Expr} {t : TA} {p pos : Pos}
end
/-! ### a call within a try, with what it leaves out -/
section
variable {X : Cx} {CX : CXT} {k : Nat} {f : Addr} {fd : FuncData} {ps : List Str} {sp : Sp} {E : L2.St → XK} {x : Str} {p pos : Pos} {e : Expr} {es : List Expr} {t : TA} {ds : List Value} {dvs : List V}
def tCallSD (sp : Sp) (dvs : List V) (E : L2.St → XK) (t : TA) : TE := fun σ H Q => t σ H fun vs H1 => sp (vs ++ dvs) H1 Q (E σ)
end
/-- what simp leaves alone -/
def Kp (p : Prop) : Prop := p
theorem Kp.of {p : Prop} (h : p) : Kp p := h
end ZW

namespace ZW
open PySem PySem.Spec PyProof.Rows L2
theorem dvl_3 : DivOk 3 = True := eq_true ⟨by decide, by decide +kernel⟩
theorem dvl_4 : DivOk 4 = True := eq_true ⟨by decide, by decide +kernel⟩
theorem dvl_9 : DivOk 9 = True := eq_true ⟨by decide, by decide +kernel⟩
theorem dvl_10 : DivOk 10 = True := eq_true ⟨by decide, by decide +kernel⟩
theorem dvl_32 : DivOk 32 = True := eq_true ⟨by decide, by decide +kernel⟩
theorem dvl_100000000000000000000 : DivOk 100000000000000000000 = True := eq_true ⟨by decide, by decide +kernel⟩
theorem pwl_10_20 : CPow 10 20 = True := eq_true ⟨by decide, by decide, by decide +kernel⟩
theorem pwl_10_59 : CPow 10 59 = True := eq_true ⟨by decide, by decide, by decide +kernel⟩
theorem pwl_10_60 : CPow 10 60 = True := eq_true ⟨by decide, by decide, by decide +kernel⟩
end ZW
local macro_rules | `(tactic| walk_at "rd") => `(tactic| ((try simp only [L2.start, List.map_cons, List.map_nil, List.length_cons, List.length_nil, Nat.reduceAdd, Nat.zero_add, Nat.reduceSub, Nat.sub_self, List.replicate, List.cons_append, List.nil_append, List.append_nil]); try simp only [L2.tIfS, L2.tTest, L2.tB, L2.tOp, L2.tUn, L2.tVar, L2.tC, L2.tRet, L2.tRetN, L2.tNext, L2.tAsg, L2.tPar, L2.gName, L2.tCons, L2.tNil, L2.tCall, L2.tCB, L2.tAnd, L2.tOr, L2.tNot, L2.tAndV, L2.tOrV, L2.tNotV, L2.tIf, L2.rI0, L2.rI, L2.rU, L2.rAdd, L2.rSub, L2.rEq, L2.rNe, L2.scal, L2.tTup, L2.tLst, ZW.tTupN, ZW.tLstN, L2.tSl, L2.tPart, L2.tNoPart, ZW.rSlN, ZW.rCatN, ZW.rRepN, ZW.rListN, ZW.rIntB,  L2.tDrop, L2.tIsN, L2.tNotN, L2.tCmp, L2.t2I,
  List.map_cons, List.map_nil, List.length_cons, List.length_nil, List.append_nil, List.nil_append, List.cons_append, List.getElem?_cons_zero, List.getElem?_cons_succ, List.set_cons_zero, List.set_cons_succ, Nat.reduceSub, Nat.reduceAdd, Nat.sub_self, Nat.zero_add, List.getElem?_nil, List.append_eq,
  Option.some.injEq, L2.V.int.injEq, L2.V.bl.injEq, L2.V.ref.injEq, reduceCtorEq, exists_eq_left', exists_eq_left, exists_eq, true_and, and_true, exists_and_left, exists_eq_right, exists_eq_right', decide_true, decide_false, Bool.not_true, Bool.not_false, if_true, if_false, ite_true, ite_false, Bool.false_eq_true, List.cons.injEq, ite_self, and_self, and_assoc, L2.gCons, L2.gNil, Int.reduceToNat, Int.reduceMul, Int.reduceSub, Int.reduceAdd, Int.reduceNe, Int.reduceLE, Int.reduceLT, Int.reduceNeg, Int.reduceEq, ZW.dvl_3, ZW.dvl_4, ZW.dvl_9, ZW.dvl_10, ZW.dvl_32, ZW.dvl_100000000000000000000, ZW.pwl_10_20, ZW.pwl_10_59, ZW.pwl_10_60, ZW.sz_line, Nat.reduceLT, Nat.reduceLeDiff, Nat.reduceLeDiff, ne_eq, not_false_eq_true, Int.reducePow, Int.pow_one,  forall_const, implies_true, ZW.cxK, ZW.ncast, L2.tCallS, ZW.tCallSD, ZW.tRevN, L2.tYes, L2.gSub, Int.zero_add, ZW.tDictN, L2.wipe, L2.tDGet, L2.tDIn, L2.tDNotIn, L2.sDPut]))
local macro_rules | `(tactic| walk_at "ix") => `(tactic| (walk_at "rd"; first | refine ZW.ix_l (L2.SqL.of (by assumption)) (by decide) rfl ?_ | refine ZW.ix_t (L2.SqT.of (by assumption)) (by decide) rfl ?_))
local macro_rules | `(tactic| walk_at "sq") => `(tactic| (walk_at "rd"; refine ZW.seq_step ?_; walk_at "rd"))
local macro_rules | `(tactic| walk_at "isT") => `(tactic| (walk_at "rd"; refine ZW.isi (r := true) (by first | exact .base (.int _) | exact .base (.bl _) | exact .base .non | exact .base (.str _) | exact .base (.tup (by assumption)) | exact .base (.lst (by assumption)) | exact .base (.dK (by assumption))) (by decide +kernel) ?_; walk_at "rd"))
local macro_rules | `(tactic| walk_at "isF") => `(tactic| (walk_at "rd"; refine ZW.isi (r := false) (by first | exact .base (.int _) | exact .base (.bl _) | exact .base .non | exact .base (.str _) | exact .base (.tup (by assumption)) | exact .base (.lst (by assumption)) | exact .base (.dK (by assumption))) (by decide +kernel) ?_; walk_at "rd"))
local macro_rules | `(tactic| walk_at "rt") => `(tactic| (walk_at "rd"; (try simp only [L2.V.str.injEq, L2.tChain, exists_eq_left', exists_eq_left, exists_eq_right', true_and, and_true, exists_and_left]); (try walk_at "rd"); (try simp only [L2.V.str.injEq, exists_eq_left', exists_eq_left, exists_eq_right', true_and, and_true, exists_and_left])))

namespace ZW
open PySem PySem.Spec PyProof.Rows L2
def topS (i : Nat) : Stmt := PySem.Challenge.pw_zonewalk_k81_fractions_as_text.main.body.getD i (.Pass ⟨0, 0, 0, 0⟩)
abbrev s_is_whole : Stmt := topS 12
theorem sc_is_whole : FnScope ["thing"] ["thing"] (defScope s_is_whole) := ⟨rfl, rfl, rfl, by decide +kernel, rfl, by decide +kernel, by decide +kernel⟩
abbrev s_divisor : Stmt := topS 13
theorem sc_divisor : FnScope ["one", "other"] ["one", "other"] (defScope s_divisor) := ⟨rfl, rfl, rfl, by decide +kernel, rfl, by decide +kernel, by decide +kernel⟩
abbrev s_is_fraction : Stmt := topS 14
theorem sc_is_fraction : FnScope ["thing"] ["thing"] (defScope s_is_fraction) := ⟨rfl, rfl, rfl, by decide +kernel, rfl, by decide +kernel, by decide +kernel⟩
abbrev s_fraction : Stmt := topS 15
theorem sc_fraction : FnScope ["top", "bottom", "share"] ["top", "bottom"] (defScope s_fraction) := ⟨rfl, rfl, rfl, by decide +kernel, rfl, by decide +kernel, by decide +kernel⟩
abbrev s_read_number : Stmt := topS 19
theorem sc_read_number : FnScope ["word", "sign"] ["word"] (defScope s_read_number) := ⟨rfl, rfl, rfl, by decide +kernel, rfl, by decide +kernel, by decide +kernel⟩
abbrev s_show_fraction : Stmt := topS 20
theorem sc_show_fraction : FnScope ["value"] ["value"] (defScope s_show_fraction) := ⟨rfl, rfl, rfl, by decide +kernel, rfl, by decide +kernel, by decide +kernel⟩
abbrev s_read_fraction : Stmt := topS 21
theorem sc_read_fraction : FnScope ["text", "top", "stroke", "bottom", "value"] ["text"] (defScope s_read_fraction) := ⟨rfl, rfl, rfl, by decide +kernel, rfl, by decide +kernel, by decide +kernel⟩
abbrev s_l_cell_at : Stmt := topS 23
theorem sc_l_cell_at : FnScope ["_law_script", "_law_k"] ["_law_script", "_law_k"] (defScope s_l_cell_at) := ⟨rfl, rfl, rfl, by decide +kernel, rfl, by decide +kernel, by decide +kernel⟩
abbrev s_l_divisor : Stmt := topS 24
theorem sc_l_divisor : FnScope ["_law_one", "_law_other"] ["_law_one", "_law_other"] (defScope s_l_divisor) := ⟨rfl, rfl, rfl, by decide +kernel, rfl, by decide +kernel, by decide +kernel⟩
abbrev s_l_size : Stmt := topS 25
theorem sc_l_size : FnScope ["_law_cell"] ["_law_cell"] (defScope s_l_size) := ⟨rfl, rfl, rfl, by decide +kernel, rfl, by decide +kernel, by decide +kernel⟩
abbrev s_l_refused : Stmt := topS 26
theorem sc_l_refused : FnScope ["_law_text", "e", "_law_others"] ["_law_text"] (defScope s_l_refused) := ⟨rfl, rfl, rfl, by decide +kernel, rfl, by decide +kernel, by decide +kernel⟩
abbrev s_l_wrong : Stmt := topS 27
theorem sc_l_wrong : FnScope ["_law_cell", "_law_one", "_law_other", "_law_top", "_law_bottom", "_law_some", "_law_share"] ["_law_cell", "_law_one", "_law_other"] (defScope s_l_wrong) := ⟨rfl, rfl, rfl, by decide +kernel, rfl, by decide +kernel, by decide +kernel⟩
abbrev s_law : Stmt := topS 28
theorem sc_law : FnScope ["_law_script", "_law_top", "_law_bottom", "_law_share", "_law_value", "_law_text", "_law_found", "_law_k", "_law_cell"] ["_law_script"] (defScope s_law) := ⟨rfl, rfl, rfl, by decide +kernel, rfl, by decide +kernel, by decide +kernel⟩
set_option genInjectivity false in
set_option genSizeOf false in
structure Top (K : PySem.W.Frag) (mg : Str → Option Value) where
  f_is_whole : Addr
  d_is_whole : FuncData
  F_is_whole : Fun K "is_whole" "is_whole" s_is_whole f_is_whole d_is_whole
  b_is_whole : Binds K d_is_whole ["thing"] []
  g_is_whole : mg "is_whole" = some (.ref f_is_whole)
  f_divisor : Addr
  d_divisor : FuncData
  F_divisor : Fun K "divisor" "divisor" s_divisor f_divisor d_divisor
  b_divisor : Binds K d_divisor ["one", "other"] []
  g_divisor : mg "divisor" = some (.ref f_divisor)
  f_is_fraction : Addr
  d_is_fraction : FuncData
  F_is_fraction : Fun K "is_fraction" "is_fraction" s_is_fraction f_is_fraction d_is_fraction
  b_is_fraction : Binds K d_is_fraction ["thing"] []
  g_is_fraction : mg "is_fraction" = some (.ref f_is_fraction)
  f_fraction : Addr
  d_fraction : FuncData
  F_fraction : FunD K "fraction" "fraction" (defArgs s_fraction) (defBody s_fraction) (defScope s_fraction) [.int 1] [] f_fraction d_fraction
  b_fraction : Binds K d_fraction ["top", "bottom"] []
  g_fraction : mg "fraction" = some (.ref f_fraction)
  dv_fraction : List Value
  v_fraction : Vals [.int 1] dv_fraction
  bd_fraction : Binds K d_fraction ["top", "bottom"] dv_fraction
  f_read_number : Addr
  d_read_number : FuncData
  F_read_number : Fun K "read_number" "read_number" s_read_number f_read_number d_read_number
  b_read_number : Binds K d_read_number ["word"] []
  g_read_number : mg "read_number" = some (.ref f_read_number)
  f_show_fraction : Addr
  d_show_fraction : FuncData
  F_show_fraction : Fun K "show_fraction" "show_fraction" s_show_fraction f_show_fraction d_show_fraction
  b_show_fraction : Binds K d_show_fraction ["value"] []
  g_show_fraction : mg "show_fraction" = some (.ref f_show_fraction)
  f_read_fraction : Addr
  d_read_fraction : FuncData
  F_read_fraction : Fun K "read_fraction" "read_fraction" s_read_fraction f_read_fraction d_read_fraction
  b_read_fraction : Binds K d_read_fraction ["text"] []
  g_read_fraction : mg "read_fraction" = some (.ref f_read_fraction)
  f_l_cell_at : Addr
  d_l_cell_at : FuncData
  F_l_cell_at : Fun K "_law_cell_at" "_law_cell_at" s_l_cell_at f_l_cell_at d_l_cell_at
  b_l_cell_at : Binds K d_l_cell_at ["_law_script", "_law_k"] []
  g_l_cell_at : mg "_law_cell_at" = some (.ref f_l_cell_at)
  f_l_divisor : Addr
  d_l_divisor : FuncData
  F_l_divisor : Fun K "_law_divisor" "_law_divisor" s_l_divisor f_l_divisor d_l_divisor
  b_l_divisor : Binds K d_l_divisor ["_law_one", "_law_other"] []
  g_l_divisor : mg "_law_divisor" = some (.ref f_l_divisor)
  f_l_size : Addr
  d_l_size : FuncData
  F_l_size : Fun K "_law_size" "_law_size" s_l_size f_l_size d_l_size
  b_l_size : Binds K d_l_size ["_law_cell"] []
  g_l_size : mg "_law_size" = some (.ref f_l_size)
  f_l_refused : Addr
  d_l_refused : FuncData
  F_l_refused : Fun K "_law_refused" "_law_refused" s_l_refused f_l_refused d_l_refused
  b_l_refused : Binds K d_l_refused ["_law_text"] []
  g_l_refused : mg "_law_refused" = some (.ref f_l_refused)
  f_l_wrong : Addr
  d_l_wrong : FuncData
  F_l_wrong : Fun K "_law_wrong" "_law_wrong" s_l_wrong f_l_wrong d_l_wrong
  b_l_wrong : Binds K d_l_wrong ["_law_cell", "_law_one", "_law_other"] []
  g_l_wrong : mg "_law_wrong" = some (.ref f_l_wrong)
  f_law : Addr
  d_law : FuncData
  F_law : Fun K "law" "law" s_law f_law d_law
  b_law : Binds K d_law ["_law_script"] []
  g_law : mg "law" = some (.ref f_law)
  C_WalkError : Addr
  g_WalkError : mg "WalkError" = some (.ref C_WalkError)
  k_WalkError : PySem.W.keepIn K (.ref C_WalkError) = true
  b_WalkError : PySem.W.subIn K (.ref C_WalkError) (.type "BaseException") = some true
  t_WalkError : PySem.W.typeIn K (.ref C_WalkError) = some (.type "type")
  i_WalkError : PySem.W.isClsIn K C_WalkError = true
  C_NoNumber : Addr
  g_NoNumber : mg "NoNumber" = some (.ref C_NoNumber)
  x_NoNumber : PySem.W.excIn K C_NoNumber [.type "ValueError", .type "Exception", .type "BaseException", .type "object"] "ValueError.__new__" = true
  k_NoNumber : PySem.W.keepIn K (.ref C_NoNumber) = true
  b_NoNumber : PySem.W.subIn K (.ref C_NoNumber) (.type "BaseException") = some true
  t_NoNumber : PySem.W.typeIn K (.ref C_NoNumber) = some (.type "type")
  i_NoNumber : PySem.W.isClsIn K C_NoNumber = true
  C_BadMachine : Addr
  g_BadMachine : mg "BadMachine" = some (.ref C_BadMachine)
  k_BadMachine : PySem.W.keepIn K (.ref C_BadMachine) = true
  b_BadMachine : PySem.W.subIn K (.ref C_BadMachine) (.type "BaseException") = some true
  t_BadMachine : PySem.W.typeIn K (.ref C_BadMachine) = some (.type "type")
  i_BadMachine : PySem.W.isClsIn K C_BadMachine = true
  C_TooMany : Addr
  g_TooMany : mg "TooMany" = some (.ref C_TooMany)
  k_TooMany : PySem.W.keepIn K (.ref C_TooMany) = true
  b_TooMany : PySem.W.subIn K (.ref C_TooMany) (.type "BaseException") = some true
  t_TooMany : PySem.W.typeIn K (.ref C_TooMany) = some (.type "type")
  i_TooMany : PySem.W.isClsIn K C_TooMany = true
  C_NoRun : Addr
  g_NoRun : mg "NoRun" = some (.ref C_NoRun)
  k_NoRun : PySem.W.keepIn K (.ref C_NoRun) = true
  b_NoRun : PySem.W.subIn K (.ref C_NoRun) (.type "BaseException") = some true
  t_NoRun : PySem.W.typeIn K (.ref C_NoRun) = some (.type "type")
  i_NoRun : PySem.W.isClsIn K C_NoRun = true
  C_NoMark : Addr
  g_NoMark : mg "NoMark" = some (.ref C_NoMark)
  k_NoMark : PySem.W.keepIn K (.ref C_NoMark) = true
  b_NoMark : PySem.W.subIn K (.ref C_NoMark) (.type "BaseException") = some true
  t_NoMark : PySem.W.typeIn K (.ref C_NoMark) = some (.type "type")
  i_NoMark : PySem.W.isClsIn K C_NoMark = true
  C_NoRoad : Addr
  g_NoRoad : mg "NoRoad" = some (.ref C_NoRoad)
  k_NoRoad : PySem.W.keepIn K (.ref C_NoRoad) = true
  b_NoRoad : PySem.W.subIn K (.ref C_NoRoad) (.type "BaseException") = some true
  t_NoRoad : PySem.W.typeIn K (.ref C_NoRoad) = some (.type "type")
  i_NoRoad : PySem.W.isClsIn K C_NoRoad = true
  C_NoRoom : Addr
  g_NoRoom : mg "NoRoom" = some (.ref C_NoRoom)
  k_NoRoom : PySem.W.keepIn K (.ref C_NoRoom) = true
  b_NoRoom : PySem.W.subIn K (.ref C_NoRoom) (.type "BaseException") = some true
  t_NoRoom : PySem.W.typeIn K (.ref C_NoRoom) = some (.type "type")
  i_NoRoom : PySem.W.isClsIn K C_NoRoom = true
  C_NoText : Addr
  g_NoText : mg "NoText" = some (.ref C_NoText)
  x_NoText : PySem.W.excIn K C_NoText [.type "ValueError", .type "Exception", .type "BaseException", .type "object"] "ValueError.__new__" = true
  k_NoText : PySem.W.keepIn K (.ref C_NoText) = true
  b_NoText : PySem.W.subIn K (.ref C_NoText) (.type "BaseException") = some true
  t_NoText : PySem.W.typeIn K (.ref C_NoText) = some (.type "type")
  i_NoText : PySem.W.isClsIn K C_NoText = true
  C_NoRow : Addr
  g_NoRow : mg "NoRow" = some (.ref C_NoRow)
  k_NoRow : PySem.W.keepIn K (.ref C_NoRow) = true
  b_NoRow : PySem.W.subIn K (.ref C_NoRow) (.type "BaseException") = some true
  t_NoRow : PySem.W.typeIn K (.ref C_NoRow) = some (.type "type")
  i_NoRow : PySem.W.isClsIn K C_NoRow = true
  t_FIGURES : Tok
  g_FIGURES : mg "FIGURES" = some (.str "0123456789" t_FIGURES)
  t_MOST_FIGURES : Tok
  g_MOST_FIGURES : mg "MOST_FIGURES" = some (.int 60 t_MOST_FIGURES)
  m_ValueError : mg "ValueError" = none
  m_abs : mg "abs" = none
  m_bool : mg "bool" = none
  m_int : mg "int" = none
  m_isinstance : mg "isinstance" = none
  m_len : mg "len" = none
  m_range : mg "range" = none
  m_str : mg "str" = none
  m_tuple : mg "tuple" = none
  hd_WalkError : PySem.W.hasDictIn K C_WalkError = true
  s_NoText_WalkError : PySem.W.subIn K (.ref C_NoText) (.ref C_WalkError) = some true
  e1_NoText : PySem.W.findIn K (.ref C_NoText) "__getattribute__" = some (some (.builtin "BaseException.__getattribute__"))
  e2_NoText : PySem.W.findIn K (.ref C_NoText) "__getattr__" = some none
  e4_NoText : PySem.W.hasDictIn K C_NoText = true
  e5_NoText : PySem.W.findIn K (.ref C_NoText) "__class__" = some (some (.builtin "object.__class__"))
  e6_ : PySem.W.specialIn K (.builtin "object.__class__") "__get__" = some (some (.builtin "getset_descriptor.__get__"))
  e7_ : PySem.W.takesIn K (.builtin "object.__class__") = some true
  e8_NoText : PySem.W.mroIn K C_NoText (.type "object") = some true
  kk_BadMachine : PySem.W.kitOne K (.ref C_NoText) (.ref C_BadMachine) = some false
  kk_NoMark : PySem.W.kitOne K (.ref C_NoText) (.ref C_NoMark) = some false
  kk_NoNumber : PySem.W.kitOne K (.ref C_NoText) (.ref C_NoNumber) = some false
  kk_NoRoad : PySem.W.kitOne K (.ref C_NoText) (.ref C_NoRoad) = some false
  kk_NoRoom : PySem.W.kitOne K (.ref C_NoText) (.ref C_NoRoom) = some false
  kk_NoRow : PySem.W.kitOne K (.ref C_NoText) (.ref C_NoRow) = some false
  kk_NoRun : PySem.W.kitOne K (.ref C_NoText) (.ref C_NoRun) = some false
  kk_TooMany : PySem.W.kitOne K (.ref C_NoText) (.ref C_TooMany) = some false
  kk_NoText : PySem.W.kitOne K (.ref C_NoText) (.ref C_NoText) = some true
  kk_VE : PySem.W.kitOne K (.ref C_NoText) (.type "ValueError") = some true
section
variable {P : Program} {w : World} {K : PySem.W.Frag} {mg : Str → Option Value} {base : Heap}
/-! ### texts times ints; comprehensions over enumerate -/
def rMulS : R2 := fun x y H Q => ∃ i n, x = .str i ∧ y = .int n ∧ MulOk i n ∧ Q (.str (Txt.mul i n)) H
theorem op_mulS {X : Cx} : OpR X (binaryOp .Mult) rMulS := by
  intro pins s σ H x y v u Q I rx ry h
  obtain ⟨i, n, rfl, rfl, hok, q⟩ := h
  obtain ⟨t, rfl⟩ := rx
  obtain ⟨t', rfl⟩ := ry
  exact SB.mul hok (fun t' tk => ⟨.str _, H, I.tok _, ⟨_, rfl⟩, q⟩)
/-! ### texts: figures and fractions -/
section
open SX TL NumText
theorem lit_no : ("" : Str) = SX.S [] := by decide +kernel
theorem lit_slash : ("/" : Str) = SX.S [47] := by decide +kernel
theorem lit_0 : ("0" : Str) = SX.S [48] := by decide +kernel
theorem lit_fig : ("0123456789" : Str) = SX.S [48, 49, 50, 51, 52, 53, 54, 55, 56, 57] := by decide +kernel
/-- a text that writes a whole number from 0 on, of at most sixty figures -/
def numOk (a : List Nat) : Bool := decide (1 ≤ a.length) && decide (a.length ≤ 60) && (a.all fun c => decide (48 ≤ c) && decide (c ≤ 57)) && (!decide (a.head? = some 48) || decide (a = [48]))
/-- the fraction that a text writes -/
def frD (a : List Nat) : Option (Nat × Nat) := match TL.par [47] [] a with
  | none => if numOk a = true then some (NumText.digitsVal a, 1) else none
  | some (p, q) => if numOk p = true ∧ numOk q = true ∧ 2 ≤ NumText.digitsVal q ∧ Nat.gcd (NumText.digitsVal p) (NumText.digitsVal q) = 1 then some (NumText.digitsVal p, NumText.digitsVal q) else none
/-- a fraction's text -/
def shF (n m : Nat) : List Nat := if m = 1 then TL.numL n else TL.numL n ++ 47 :: TL.numL m
theorem starts_S (a : List Nat) (c : Nat) : Txt.startswith (SX.S a) (SX.S [c]) = decide (a.head? = some c) := by
  unfold Txt.startswith
  rw [PySem.StrLaws.subAt_eq]
  cases a with
  | nil => simp [Str.length, SX.S]
  | cons d r =>
    simp [Str.length, SX.S]
    by_cases e : d = c <;> simp [e]
theorem numL_head : ∀ n : Nat, (TL.numL n).head? = some 48 → n = 0 := by
  intro n
  induction n using Nat.strongRecOn with
  | _ n ih =>
    intro h
    by_cases c : n < 10
    · rw [TL.numL_lt c] at h
      simp only [List.head?_cons, Option.some.injEq] at h
      omega
    · rw [TL.numL_step (by omega)] at h
      have := ih (n / 10) (by omega) (by
        cases e : TL.numL (n / 10) with
        | nil => exact absurd e (TL.numL_ne _)
        | cons x y => rw [e] at h; exact h)
      omega
theorem numOk_num {n : Nat} (h : n < 10 ^ 60) : numOk (TL.numL n) = true := by
  unfold numOk
  have h1 := TL.numL_len (n := n) (k := 60) (by decide) h
  have h2 := TL.numL_ne n
  have h3 : 1 ≤ (TL.numL n).length := by
    cases e : TL.numL n with
    | nil => exact absurd e h2
    | cons => simp
  simp only [Bool.and_eq_true, decide_eq_true_eq, Bool.or_eq_true, Bool.not_eq_true', decide_eq_false_iff_not, List.all_eq_true]
  refine ⟨⟨⟨h3, h1⟩, fun c hc => TL.numL_digits n c hc⟩, ?_⟩
  by_cases c : (TL.numL n).head? = some 48
  · right
    rw [numL_head n c]
    decide +kernel
  · exact .inl c
theorem numOk_sign {a : List Nat} {c : Nat} (h : c ∈ a) (hc : c < 48 ∨ 57 < c) : numOk a = false := by
  cases e : numOk a with
  | false => rfl
  | true =>
    unfold numOk at e
    simp only [Bool.and_eq_true, decide_eq_true_eq, List.all_eq_true] at e
    have := e.1.2 c h
    omega
theorem numOk_len {a : List Nat} (h : 60 < a.length) : numOk a = false := by
  unfold numOk
  rw [decide_eq_false (show ¬ a.length ≤ 60 by omega)]
  simp
theorem numOk_nil : numOk [] = false := by decide
theorem numOk_zero {a : List Nat} (h : a ≠ []) : numOk (48 :: a) = false := by
  unfold numOk
  rw [decide_eq_false (show ¬ 48 :: a = [48] from fun z => h (List.cons.inj z).2)]
  simp
theorem par_no {a : List Nat} (h : 47 ∉ a) : TL.par [47] [] a = none := SX.par_head_none h
theorem par_at' {p : List Nat} (q : List Nat) (h : 47 ∉ p) : TL.par [47] [] (p ++ 47 :: q) = some (p, q) := SX.par_head q h
theorem frD_plain {a : List Nat} (h : 47 ∉ a) (n : numOk a = false) : frD a = none := by
  unfold frD
  rw [par_no h]
  simp [n]
theorem frD_top {p : List Nat} (q : List Nat) (h : 47 ∉ p) (n : numOk p = false) : frD (p ++ 47 :: q) = none := by
  unfold frD
  rw [par_at' q h]
  simp [n]
theorem frD_bot {p : List Nat} {q : List Nat} (h : 47 ∉ p) (n : numOk q = false ∨ NumText.digitsVal q < 2 ∨ Nat.gcd (NumText.digitsVal p) (NumText.digitsVal q) ≠ 1) : frD (p ++ 47 :: q) = none := by
  unfold frD
  rw [par_at' q h]
  refine if_neg fun ⟨_, h2, h3, h4⟩ => ?_
  rcases n with n | n | n
  · rw [n] at h2; cases h2
  · omega
  · exact n h4
theorem slash_num (n : Nat) : 47 ∉ TL.numL n := TL.numL_free (by omega)
theorem frD_sh {n m : Nat} (hn : n < 10 ^ 60) (hm : m < 10 ^ 60) (h1 : 1 ≤ m) (g : Nat.gcd n m = 1) : frD (shF n m) = some (n, m) := by
  unfold shF
  by_cases c : m = 1
  · rw [if_pos c]
    unfold frD
    rw [par_no (slash_num n)]
    show (if _ then _ else _) = _
    rw [if_pos (numOk_num hn), TL.numL_val, c]
  · rw [if_neg c]
    unfold frD
    rw [par_at' _ (slash_num n)]
    show (if _ then _ else _) = _
    rw [TL.numL_val, TL.numL_val, if_pos ⟨numOk_num hn, numOk_num hm, by omega, g⟩]
theorem shF_len {n m : Nat} (hn : n < 10 ^ 60) (hm : m < 10 ^ 60) : (shF n m).length ≤ 121 := by
  have h1 := TL.numL_len (n := n) (k := 60) (by decide) hn
  have h2 := TL.numL_len (n := m) (k := 60) (by decide) hm
  unfold shF
  split
  · omega
  · rw [List.length_append, List.length_cons]; omega
theorem sz60 {n : Nat} (h : n < 10 ^ 60) : Sz 200 (n : Int) := by
  show (n : Int).natAbs < 2 ^ 200
  rw [Int.natAbs_natCast]
  exact Nat.lt_trans h (by decide +kernel)
end
/-! a text cut at its first sign -/
def rPart : V → List V → Hp → VK → Prop := fun x xs H Q => ∃ a b : Str, x = .str a ∧ xs = [.str b] ∧ (b.length == 0) = false ∧ a.length ≤ 16777216 ∧
  ∀ p H2, Same H H2 → H p = none → H2 p = some (.tup [.str (Txt.partition a b).1, .str (Txt.partition a b).2.1, .str (Txt.partition a b).2.2]) → Q (.ref p) H2
theorem mt_partN {X : Cx} : MtR X "str.partition" rPart := by
  intro pins s σ H x xs v us Q I rx rs h
  obtain ⟨a, b, rfl, rfl, hb, hz, h⟩ := h
  exact mt_partition pins s σ H _ _ v us Q I rx rs ⟨a, b, rfl, rfl, hb, (by rw [sizeLine_eq]; exact hz), fun p hp => h p _ (upd_keep hp) hp upd_same⟩
/-! a for over a text -/
def ForTx (x : Str) (g : TG) (tb : TS) (D : Ends) (σ : L2.St) (H : Hp) : Prop := ∃ W : Nat → Nat → L2.St → Hp → Prop, (∃ m, W 0 m σ H) ∧ ∀ i m σ H, W i m σ H →
  ((Its x).stop i H ∧ D.nx σ H) ∨ ((Its x).go i H ∧ ∃ N : L2.St → Hp → Prop, (∀ σ' H', N σ' H' → ∃ m', m' < m ∧ W (i + 1) m' σ' H') ∧ ∀ x' H', (Its x).yld i H x' H' → g x' σ H' fun σ2 H2 => tb { D with nx := N, ct := N, bk := D.nx } σ2 H2)
theorem for_tx {te : TE} {g : TG} {tb : TS} {D : Ends} {σ : L2.St} {H : Hp} (h : te σ H fun v H1 => ∃ x, v = .str x ∧ ForTx x g tb D σ H1) : tFor (iStr te) g tb D σ H := h
theorem forTx_by {l : List Nat} {g : TG} {tb : TS} {D : Ends} {σ : L2.St} {H : Hp} (Pv : Nat → L2.St → Hp → Prop) (h0 : Pv 0 σ H)
    (hs : ∀ i c σ H, l[i]? = some c → Pv i σ H → g (.str (SX.S [c])) σ H fun σ2 H2 => tb { D with nx := Pv (i + 1), ct := Pv (i + 1), bk := D.nx } σ2 H2) (hd : ∀ σ H, Pv l.length σ H → D.nx σ H) : ForTx (SX.S l) g tb D σ H := by
  have e1 : (SX.S l).cps.size = l.length := by simp [SX.S]
  have e2 : ∀ i : Nat, (SX.S l).cps[i]? = l[i]? := fun i => by simp [SX.S]
  refine ⟨fun i m σ H => m = l.length - i ∧ i ≤ l.length ∧ Pv i σ H, ⟨_, rfl, Nat.zero_le _, h0⟩, ?_⟩
  rintro i m σ H ⟨rfl, hi, hp⟩
  by_cases c : i < l.length
  · refine .inr ⟨by show i < (SX.S l).cps.size; rw [e1]; exact c, Pv (i + 1), fun σ' H' p2 => ⟨_, by omega, rfl, c, p2⟩, ?_⟩
    rintro x' H' ⟨rfl, d, hd', rfl⟩
    rw [e2] at hd'
    exact hs i d σ _ hd' hp
  · refine .inl ⟨by show (SX.S l).cps.size ≤ i; rw [e1]; omega, hd σ H ?_⟩
    rw [show l.length = i by omega]
    exact hp
/-! texts put together -/
def rAddS : R2 := fun x y H Q => ∃ a b : List Nat, x = .str (SX.S a) ∧ y = .str (SX.S b) ∧ a.length + b.length ≤ 16777216 ∧ Q (.str (SX.S (a ++ b))) H
theorem op_addS {X : Cx} : OpR X (binaryOp .Add) rAddS := by
  intro pins s σ H x y v u Q I rx ry h
  obtain ⟨a, b, rfl, rfl, hl, q⟩ := h
  rw [← SX.S_cat] at q
  exact op_add_str pins s σ H _ _ v u Q I rx ry ⟨_, _, rfl, rfl, by rw [SX.S_len, SX.S_len, sizeLine_eq]; exact hl, q⟩
theorem rep_arr (a : List Nat) : ∀ (n : Nat) (acc : List Nat), (List.replicate n a.toArray).foldl (fun x y => x ++ y) acc.toArray = (acc ++ (List.replicate n a).flatten).toArray
  | 0, acc => by simp
  | n + 1, acc => by
    rw [List.replicate_succ, List.foldl_cons, List.append_toArray, rep_arr a n (acc ++ a), List.replicate_succ, List.flatten_cons, List.append_assoc]
theorem mul_S (a : List Nat) (n : Nat) : Txt.mul (SX.S a) (n : Int) = SX.S (List.replicate n a).flatten := by
  unfold Txt.mul
  by_cases c : (n : Int) < 1
  · rw [if_pos c, show n = 0 by omega]
    rfl
  · rw [if_neg c]
    split
    · rename_i h
      rw [SX.S_len] at h
      simp only [Bool.or_eq_true, beq_iff_eq] at h
      rcases h with h | h
      · rw [show n = 1 by omega]
        simp
      · rw [List.length_eq_zero_iff.mp h]
        simp [SX.S]
    · have := rep_arr a n []
      rw [List.nil_append] at this
      rw [Int.toNat_natCast]
      show Str.mk _ = Str.mk _
      rw [← this]
def repT (a : List Nat) (n : Nat) : List Nat := (List.replicate n a).flatten
theorem repT_len (a : List Nat) (n : Nat) : (repT a n).length = n * a.length := by
  unfold repT
  simp
def rMulT : R2 := fun x y H Q => ∃ (a : List Nat) (n : Int), x = .str (SX.S a) ∧ y = .int n ∧ 0 ≤ n ∧ a.length = 1 ∧ n ≤ 10000 ∧ Q (.str (SX.S (repT a n.toNat))) H
theorem op_mulT {X : Cx} : OpR X (binaryOp .Mult) rMulT := by
  intro pins s σ H x y v u Q I rx ry h
  obtain ⟨a, n, rfl, rfl, h0, hl, hn, q⟩ := h
  obtain ⟨n, rfl⟩ := Int.eq_ofNat_of_zero_le h0
  rw [Int.toNat_natCast] at q
  unfold repT at q
  rw [← mul_S] at q
  refine op_mulS pins s σ H _ _ v u Q I rx ry ⟨SX.S a, (n : Int), rfl, rfl, ?_, q⟩
  refine ⟨?_, fun h1 h2 z => ?_, fun h1 h2 => ?_⟩
  · rw [decide_eq_false (by omega), decide_eq_false (by omega)]; rfl
  · rw [SX.S_len, hl] at z
    have : (1 : Int) ≤ (2 ^ 63 - 1) / (n : Int) := Int.le_ediv_of_mul_le (by omega) (by omega)
    have : (((1 : Nat) : Int)) > (2 ^ 63 - 1) / (n : Int) := z
    omega
  · rw [SX.S_len, hl]
    show decide _ = false
    rw [decide_eq_false]
    rw [Int.toNat_natCast, sizeLine_eq]
    omega
theorem vS_eq (a b : List Nat) : (V.str (SX.S a) = V.str (SX.S b)) = (a = b) := propext ⟨fun h => by injection h with h; exact SX.S_inj h, fun h => by rw [h]⟩
theorem call_intT {X : Cx} : CallR X (.type "int") (fun xs H Q => ∃ n : Nat, xs = [.str (SX.S (TL.numL n))] ∧ n < 10 ^ 60 ∧ Q (.int (n : Int)) H) := by
  intro pins s σ H xs us Q I rs h
  obtain ⟨n, rfl, hl, q⟩ := h
  have hl := TL.numL_len (n := n) (k := 60) (by decide) hl
  refine call_int_str pins s σ H _ us Q I rs ⟨_, _, rfl, ?_, by rw [SX.S_len]; omega, q⟩
  rw [← SX.num_S]
  exact TL.int_num (by omega)
theorem call_strN {X : Cx} : CallR X (.type "str") (fun xs H Q => ∃ i : Int, xs = [.int i] ∧ 0 ≤ i ∧ i < 10 ^ 60 ∧ Q (.str (SX.S (TL.numL i.toNat))) H) := by
  intro pins s σ H xs us Q I rs h
  obtain ⟨i, rfl, h0, hl, q⟩ := h
  obtain ⟨n, rfl⟩ := Int.eq_ofNat_of_zero_le h0
  rw [Int.toNat_natCast, ← SX.num_S] at q
  refine call_str_int pins s σ H _ us Q I rs ⟨_, rfl, ?_, q⟩
  exact log_lt (n := 200) (sz60 (by omega)) (by omega) (by omega)
theorem lit_z0 : ("/0" : Str) = SX.S [47, 48] := by decide +kernel
theorem lit_z1 : ("/1" : Str) = SX.S [47, 49] := by decide +kernel
theorem lit_mi : ("-" : Str) = SX.S [45] := by decide +kernel
theorem lit_smi : ("/-" : Str) = SX.S [47, 45] := by decide +kernel
theorem lit_pl : ("+" : Str) = SX.S [43] := by decide +kernel
theorem lit_dot : ("." : Str) = SX.S [46] := by decide +kernel
theorem lit_bl : (" " : Str) = SX.S [32] := by decide +kernel
theorem lit_ss : ("//" : Str) = SX.S [47, 47] := by decide +kernel
theorem lit_bs : (" /" : Str) = SX.S [32, 47] := by decide +kernel
theorem lit_1 : ("1" : Str) = SX.S [49] := by decide +kernel
theorem lit_oo : ("1/1" : Str) = SX.S [49, 47, 49] := by decide +kernel
theorem lit_lf : ("\n" : Str) = SX.S [10] := by decide +kernel
theorem lit_x : ("x" : Str) = SX.S [120] := by decide +kernel
theorem lit_1u0 : ("1_0" : Str) = SX.S [49, 95, 48] := by decide +kernel
theorem lit_0x1 : ("0x1" : Str) = SX.S [48, 120, 49] := by decide +kernel
theorem lit_00 : ("00" : Str) = SX.S [48, 48] := by decide +kernel
theorem lit_0s : ("0/" : Str) = SX.S [48, 47] := by decide +kernel
theorem lit_9 : ("9" : Str) = SX.S [57] := by decide +kernel
theorem lit_1s : ("1/" : Str) = SX.S [49, 47] := by decide +kernel
def spCell_at (K : PySem.W.Frag) : Sp := fun vs H Q _ => ∃ (a : Addr) (ns : List Int) (k : Int), vs = [.ref a, .int k] ∧ SqL K H a (ns.map V.int) ∧ 0 ≤ k ∧ Q (.int (ns.getD k.toNat 0)) H
theorem ok_l_cell_at (T : Top K mg) : FnOk P w K mg base CX0 1 T.f_l_cell_at T.d_l_cell_at ["_law_script", "_law_k"] (spCell_at K) := by
  refine T.F_l_cell_at.ok sc_l_cell_at (fun vs H Q E h => ?_) (fun cdv A outer s H vs Q E hr h => ?_)
  · obtain ⟨a, ns, k, rfl, _⟩ := h; rfl
  · obtain ⟨a, ns, k, rfl, hS, hk, q⟩ := h
    refine ⟨_, (pss_cons (ps_if (pt_cmpR op_lt (pv 1) (pe_callB call_len_seq (by rfl) T.m_len (by decide +kernel) (pa_cons (pv 0) pa_nil)) (nomark _)) (pss_one (ps_ret (pe_ix (ix_listA (K := K) rfl) (pv 0) (pv 1) (fun _ _ => rfl)))) pss_nil)
      (pss_one (ps_ret pe_int))), ?_⟩
    refine seq_step ?_
    walk_at "rd"
    refine ⟨_, .inl hS, ite_d (fun c => ?_) (fun c => ?_)⟩
    · rw [List.length_map] at c
      have hl : k.toNat < ns.length := by omega
      refine ⟨a, _, k, .int (ns[k.toNat]), rfl, rfl, hS, at_of (j := k.toNat) (by omega) (by rw [List.getElem?_map, List.getElem?_eq_getElem hl]; rfl), ?_⟩
      rw [List.getD_eq_getElem?_getD, List.getElem?_eq_getElem hl] at q
      exact q
    · rw [List.length_map] at c
      rw [List.getD_eq_getElem?_getD, List.getElem?_eq_none (by omega)] at q
      exact q
def spDiv_divisor (K : PySem.W.Frag) : Sp := fun vs H Q _ => ∃ a b : Int, vs = [.int a, .int b] ∧ Q (.int (Int.gcd a b)) H
theorem ok_divisor (T : Top K mg) : FnOk P w K mg base CX0 1 T.f_divisor T.d_divisor ["one", "other"] (spDiv_divisor K) := by
  refine T.F_divisor.ok sc_divisor (fun vs H Q E h => ?_) (fun cdv A outer s H vs Q E hr h => ?_)
  · obtain ⟨a, b, rfl, _⟩ := h; rfl
  · obtain ⟨a, b, rfl, q⟩ := h
    refine ⟨_, (pss_cons (ps_while PassesOwn.never (pt_cmpR op_ne (pv 1) pe_int (nomark _)) (pss_one (ps_par (i := 0) (j := 1) (by rfl) sc_divisor.nd rfl rfl (by decide) rfl rfl (pa_cons (pv 1) (pa_cons (pe_op op_modN (pv 0) (pv 1)) pa_nil)) (by rfl))))
      (pss_one (ps_ret (pe_callB call_abs (by rfl) T.m_abs (by decide +kernel) (pa_cons (pv 0) pa_nil))))), ?_⟩
    refine seq_step ?_
    refine while_by (fun σ H' => H' = H ∧ ∃ x y : Int, σ = [some (.int x), some (.int y)] ∧ Int.gcd x y = Int.gcd a b) (fun σ _ => match σ with | [_, some (.int y)] => y.natAbs | _ => 0) ⟨rfl, a, b, rfl, rfl⟩ ?_ ?_
    · rintro σ H' ⟨rfl, x, y, rfl, hg⟩
      walk_at "rd"
      by_cases c : y = 0
      · subst c
        rw [decide_eq_true rfl, Bool.not_true, if_neg Bool.false_ne_true]
        have e : (if x < 0 then -x else x) = ((Int.gcd a b : Nat) : Int) := by
          rw [← hg, Int.gcd_zero_right]; split <;> omega
        rw [e]; exact q
      · rw [decide_eq_false c, Bool.not_false, if_pos rfl]
        exact ⟨c, by rw [fmod_gcd, hg], fmod_lt x y c⟩
    · rintro σ H Q Q' m ⟨v, hv, hs, k, hk, q⟩
      exact ⟨v, hv, hs, k, hk, m _ _ q⟩
def spDiv_l_divisor (K : PySem.W.Frag) : Sp := fun vs H Q _ => ∃ a b : Int, vs = [.int a, .int b] ∧ Q (.int (Int.gcd a b)) H
theorem ok_l_divisor (T : Top K mg) : FnOk P w K mg base CX0 1 T.f_l_divisor T.d_l_divisor ["_law_one", "_law_other"] (spDiv_l_divisor K) := by
  refine T.F_l_divisor.ok sc_l_divisor (fun vs H Q E h => ?_) (fun cdv A outer s H vs Q E hr h => ?_)
  · obtain ⟨a, b, rfl, _⟩ := h; rfl
  · obtain ⟨a, b, rfl, q⟩ := h
    refine ⟨_, (pss_cons (ps_while PassesOwn.never (pt_cmpR op_ne (pv 1) pe_int (nomark _)) (pss_one (ps_par (i := 0) (j := 1) (by rfl) sc_l_divisor.nd rfl rfl (by decide) rfl rfl (pa_cons (pv 1) (pa_cons (pe_op op_modN (pv 0) (pv 1)) pa_nil)) (by rfl))))
      (pss_one (ps_ret (pe_callB call_abs (by rfl) T.m_abs (by decide +kernel) (pa_cons (pv 0) pa_nil))))), ?_⟩
    refine seq_step ?_
    refine while_by (fun σ H' => H' = H ∧ ∃ x y : Int, σ = [some (.int x), some (.int y)] ∧ Int.gcd x y = Int.gcd a b) (fun σ _ => match σ with | [_, some (.int y)] => y.natAbs | _ => 0) ⟨rfl, a, b, rfl, rfl⟩ ?_ ?_
    · rintro σ H' ⟨rfl, x, y, rfl, hg⟩
      walk_at "rd"
      by_cases c : y = 0
      · subst c
        rw [decide_eq_true rfl, Bool.not_true, if_neg Bool.false_ne_true]
        have e : (if x < 0 then -x else x) = ((Int.gcd a b : Nat) : Int) := by
          rw [← hg, Int.gcd_zero_right]; split <;> omega
        rw [e]; exact q
      · rw [decide_eq_false c, Bool.not_false, if_pos rfl]
        exact ⟨c, by rw [fmod_gcd, hg], fmod_lt x y c⟩
    · rintro σ H Q Q' m ⟨v, hv, hs, k, hk, q⟩
      exact ⟨v, hv, hs, k, hk, m _ _ q⟩
theorem ok_is_whole (T : Top K mg) : FnOk P w K mg base CX0 1 T.f_is_whole T.d_is_whole ["thing"] (spWhole K) := by
  refine T.F_is_whole.ok sc_is_whole (fun vs H Q E h => ?_) (fun cdv A outer s H vs Q E hr h => ?_)
  · obtain ⟨x, t, rfl, _⟩ := h; rfl
  · obtain ⟨x, t, rfl, hx, ht, q⟩ := h
    refine ⟨_, (pss_one (ps_ret (pe_and (pe_callB (call_isiA (K := K) rfl) (by rfl) T.m_isinstance (by decide +kernel) (pa_cons (pv 0) (pa_cons (pe_bltn (v := .ty "int") (u := .type "int") (by rfl) T.m_int (by decide +kernel) rfl) pa_nil))) (pe_one (pe_not (pe_callB (call_isiA (K := K) rfl) (by rfl) T.m_isinstance (by decide +kernel) (pa_cons (pv 0) (pa_cons (pe_bltn (v := .ty "bool") (u := .type "bool") (by rfl) T.m_bool (by decide +kernel) rfl) pa_nil)))))))), ?_⟩
    walk_at "rd"
    have k1 : ∃ r, kitB t "int" = some r ∧ ∃ r2, kitB t "bool" = some r2 ∧ (decide (t = "int")) = (r && !r2) := by
      simp only [kinds, List.mem_cons, List.not_mem_nil, or_false] at ht
      rcases ht with rfl | rfl | rfl | rfl | rfl | rfl | rfl
      · exact ⟨true, by decide +kernel, false, by decide +kernel, by decide +kernel⟩
      · exact ⟨true, by decide +kernel, true, by decide +kernel, by decide +kernel⟩
      · exact ⟨false, by decide +kernel, false, by decide +kernel, by decide +kernel⟩
      · exact ⟨false, by decide +kernel, false, by decide +kernel, by decide +kernel⟩
      · exact ⟨false, by decide +kernel, false, by decide +kernel, by decide +kernel⟩
      · exact ⟨false, by decide +kernel, false, by decide +kernel, by decide +kernel⟩
      · exact ⟨false, by decide +kernel, false, by decide +kernel, by decide +kernel⟩
    obtain ⟨r, e1, r2, e2, e3⟩ := k1
    refine isi hx e1 ?_
    rw [e3] at q
    walk_at "rd"
    cases r with
    | false => exact q
    | true =>
      walk_at "rd"
      refine isi hx e2 ?_
      walk_at "rd"
      exact q
def spIsFr (K : PySem.W.Frag) : Sp := fun vs H Q _ => ∃ (x : V) (r : Bool), vs = [x] ∧ FrIn K H x r ∧ Q (.bl r) H
theorem kit_tuple {t : String} (h : t ∈ kinds) (n : t ≠ "tuple") : kitB t "tuple" = some false := by
  simp only [kinds, List.mem_cons, List.not_mem_nil, or_false] at h
  rcases h with rfl | rfl | rfl | rfl | rfl | rfl | rfl
  · decide +kernel
  · decide +kernel
  · decide +kernel
  · decide +kernel
  · decide +kernel
  · exact absurd rfl n
  · decide +kernel
theorem ok_is_fraction (T : Top K mg) : FnOk P w K mg base CX0 2 T.f_is_fraction T.d_is_fraction ["thing"] (spIsFr K) := by
  refine T.F_is_fraction.ok sc_is_fraction (fun vs H Q E h => ?_) (fun cdv A outer s H vs Q E hr h => ?_)
  · obtain ⟨x, r, rfl, _⟩ := h; rfl
  · obtain ⟨x, r, rfl, hx, q⟩ := h
    refine ⟨_, (pss_cons (ps_if (PW.pt (pw_or (pt_not (pt_val (pe_callB (call_isiA (K := K) rfl) (by rfl) T.m_isinstance (by decide +kernel) (pa_cons (pv 0) (pa_cons (pe_bltn (v := .ty "tuple") (u := .type "tuple") (by rfl) T.m_tuple (by decide +kernel) rfl) pa_nil))))) (pw_or1 (pt_cmpR op_ne (pe_callB call_len_seq (by rfl) T.m_len (by decide +kernel) (pa_cons (pv 0) pa_nil)) pe_int (nomark _))))) (pss_one (ps_ret pe_bl)) pss_nil)
      (pss_cons (ps_if (PW.pt (pw_or (pt_not (pt_val (pe_call (ok_is_whole T) (hr.mono (by decide)) rfl T.g_is_whole T.F_is_whole.kp T.b_is_whole .nil pass0 (pa_cons (pe_ix (ix_tupA (K := K) rfl) (pv 0) pe_int (fun _ _ => rfl)) pa_nil)))) (pw_or (pt_not (pt_val (pe_call (ok_is_whole T) (hr.mono (by decide)) rfl T.g_is_whole T.F_is_whole.kp T.b_is_whole .nil pass0 (pa_cons (pe_ix (ix_tupA (K := K) rfl) (pv 0) pe_int (fun _ _ => rfl)) pa_nil)))) (pw_or1 (pt_cmpR op_lt (pe_ix (ix_tupA (K := K) rfl) (pv 0) pe_int (fun _ _ => rfl)) pe_int (nomark _)))))) (pss_one (ps_ret pe_bl)) pss_nil)
      (pss_one (ps_ret (pe_cmpR op_eq (pe_call (ok_divisor T) (hr.mono (by decide)) rfl T.g_divisor T.F_divisor.kp T.b_divisor .nil pass0 (pa_cons (pe_ix (ix_tupA (K := K) rfl) (pv 0) pe_int (fun _ _ => rfl)) (pa_cons (pe_ix (ix_tupA (K := K) rfl) (pv 0) pe_int (fun _ _ => rfl)) pa_nil))) pe_int (nomark _)))))), ?_⟩
    refine seq_step ?_
    walk_at "rd"
    cases hx with
    | other h k n =>
      refine isi (r := false) h (kit_tuple k n) ?_
      walk_at "rd"
      exact q
    | len h n =>
      refine isi (r := true) (.base (.tup h)) (by decide +kernel) ?_
      walk_at "rd"
      refine ⟨_, .inr (sqt h), ?_⟩
      rw [show (!decide (((_ : List V).length : Int) = 2)) = true from by
        rw [decide_eq_false (by omega)]; rfl]
      walk_at "rd"
      exact q
    | odd h h0 h1 k0 k1 n =>
      refine isi (r := true) (.base (.tup h)) (by decide +kernel) ?_
      walk_at "rd"
      refine ⟨_, .inr (sqt h), ?_⟩
      walk_at "rd"
      refine seq_step ?_
      walk_at "ix"
      refine ⟨_, _, rfl, h0, k0, ?_⟩
      walk_at "rd"
      rename_i t0 t1
      by_cases c : t0 = "int"
      · rw [decide_eq_true c]
        walk_at "rd"
        walk_at "ix"
        refine ⟨_, _, rfl, h1, k1, ?_⟩
        walk_at "rd"
        rw [decide_eq_false (show ¬ t1 = "int" from fun z => by rcases n with n | n; exact n c; exact n z)]
        walk_at "rd"
        exact q
      · rw [decide_eq_false c]
        walk_at "rd"
        exact q
    | num h =>
      rename_i p a b
      refine isi (r := true) (.base (.tup h)) (by decide +kernel) ?_
      walk_at "rd"
      refine ⟨_, .inr (sqt h), ?_⟩
      walk_at "rd"
      refine seq_step ?_
      walk_at "ix"
      refine ⟨_, "int", rfl, .base (.int _), by decide, ?_⟩
      walk_at "rd"
      walk_at "ix"
      refine ⟨_, "int", rfl, .base (.int _), by decide, ?_⟩
      walk_at "rd"
      walk_at "ix"
      walk_at "rd"
      refine ite_d (fun c => ?_) (fun c => ?_)
      · rw [decide_eq_false (show ¬ (1 ≤ b ∧ Int.gcd a b = 1) by omega)] at q
        exact q
      · walk_at "ix"
        walk_at "ix"
        refine ⟨_, _, rfl, ?_⟩
        walk_at "rd"
        rw [show decide (1 ≤ b ∧ Int.gcd a b = 1) = decide (((Int.gcd a b : Nat) : Int) = 1) from decide_eq_decide.mpr (by omega)] at q
        exact q
def spFraction (C : Addr) (K : PySem.W.Frag) : Sp := fun vs H Q E => (∃ a b : Int, vs = [.int a, .int b] ∧ b ≠ 0 ∧ Sz 8000 b ∧ RedT a b H Q) ∨
  (∃ (x y : V) (t u : String), vs = [x, y] ∧ TyX K H x (.type t) ∧ TyX K H y (.type u) ∧ t ∈ kinds ∧ u ∈ kinds ∧ (t ≠ "int" ∨ u ≠ "int" ∨ y = .int 0) ∧ E (.ref C) none H)
theorem ok_fraction (T : Top K mg) : FnOk P w K mg base (L2.CX P w) 2 T.f_fraction T.d_fraction ["top", "bottom"] (spFraction T.C_NoNumber K) := by
  refine T.F_fraction.ok sc_fraction (fun vs H Q E h => ?_) (fun cdv A outer s H vs Q E hr h => ?_)
  · rcases h with ⟨a, b, rfl, _⟩ | ⟨a, b, _, _, rfl, _⟩ <;> rfl
  · refine ⟨_, (pss_cons (ps_if (PW.pt (pw_or (pt_not (pt_val (pe_call (ok_is_whole T) (hr.mono (by decide)) rfl T.g_is_whole T.F_is_whole.kp T.b_is_whole .nil pass0 (pa_cons (pv 0) pa_nil)))) (pw_or (pt_not (pt_val (pe_call (ok_is_whole T) (hr.mono (by decide)) rfl T.g_is_whole T.F_is_whole.kp T.b_is_whole .nil pass0 (pa_cons (pv 1) pa_nil)))) (pw_or1 (pt_cmpR op_eq (pv 1) pe_int (nomark _)))))) (pss_one (ps_raise rfl (takes_of rfl rfl rfl rfl) (pmk_own PySem.F.excBase_ValueError T.x_NoNumber T.g_NoNumber T.k_NoNumber (raises_own T.b_NoNumber T.t_NoNumber) rfl))) pss_nil)
      (pss_cons (ps_set (i := 2) sc_fraction.nd rfl (.inl rfl) (pe_call (ok_divisor T) (hr.mono (by decide)) rfl T.g_divisor T.F_divisor.kp T.b_divisor .nil pass0 (pa_cons (pv 0) (pa_cons (pv 1) pa_nil))))
      (pss_cons (ps_if (pt_cmpR op_lt (pv 1) pe_int (nomark _)) (pss_one (ps_set (i := 2) sc_fraction.nd rfl (.inl rfl) (pe_op op_sub pe_int (pv 2)))) pss_nil)
      (pss_one (ps_ret (pe_tupN (pa_cons (pe_op op_fdivZ (pv 0) (pv 2)) (pa_cons (pe_op op_fdivZ (pv 1) (pv 2)) pa_nil)))))))), ?_⟩
    rcases h with ⟨a, b, rfl, hb, hz, q⟩ | ⟨x, y, t, u, rfl, hx, hy, ht, hu, hbad, e⟩
    · refine seq_step ?_
      walk_at "rd"
      refine ⟨_, "int", rfl, .base (.int _), by decide, ?_⟩
      walk_at "rd"
      refine ⟨_, "int", rfl, .base (.int _), by decide, ?_⟩
      walk_at "rd"
      rw [decide_eq_false hb, if_neg Bool.false_ne_true]
      refine seq_step ?_
      walk_at "rd"
      refine ⟨a, b, rfl, ?_⟩
      walk_at "rd"
      have g := gcd_pos_right (a := a) hb
      have gs := gcd_le_size (a := a) hb
      refine seq_step ?_
      walk_at "rd"
      refine ite_d (fun c => ?_) (fun c => ?_)
      · have d : DivOk (0 - ((Int.gcd a b : Nat) : Int)) := .of (by omega) (Sz.le (j := b) (by omega) hz) (by omega)
        exact ⟨d, d, fun p H2 s2 _ e2 => q _ _ p H2 (red_neg c) s2 e2⟩
      · have d : DivOk ((Int.gcd a b : Nat) : Int) := .of (by omega) (Sz.le (by omega) hz) (by omega)
        exact ⟨d, d, fun p H2 s2 _ e2 => q _ _ p H2 ((low_of hb).red (by omega)) s2 e2⟩
    · refine seq_step ?_
      walk_at "rd"
      refine ⟨_, t, rfl, hx, ht, ?_⟩
      walk_at "rd"
      by_cases c : t = "int"
      · rw [decide_eq_true c]
        walk_at "rd"
        refine ⟨_, u, rfl, hy, hu, ?_⟩
        walk_at "rd"
        by_cases c2 : u = "int"
        · rw [decide_eq_true c2]
          walk_at "rd"
          obtain rfl : y = .int 0 := by
            rcases hbad with z | z | z
            · exact absurd c z
            · exact absurd c2 z
            · exact z
          walk_at "rd"
          exact e
        · rw [decide_eq_false c2]
          walk_at "rd"
          exact e
      · rw [decide_eq_false c]
        walk_at "rd"
        exact e
theorem frac_ok {C : Addr} {K : PySem.W.Frag} {a b : Int} {H : Hp} {Q : VK} {E : XK} (hb : b ≠ 0) (hz : Sz 8000 b) (q : RedT a b H Q) : spFraction C K [.int a, .int b] H Q E := .inl ⟨a, b, rfl, hb, hz, q⟩
-- CUT
theorem ite_skip {p q : Bool} {A L : Prop} (h : ¬(p = true ∧ q = true)) (hl : L) : if p = true then (if q = true then A else L) else L := by
  cases p <;> cases q <;> simp_all
theorem fig_in (c : Nat) : decide (c ∈ (SX.S [48, 49, 50, 51, 52, 53, 54, 55, 56, 57]).cps.toList) = decide (48 ≤ c ∧ c ≤ 57) := by
  refine decide_eq_decide.mpr ⟨fun h => ?_, fun h => ?_⟩
  · simp only [SX.S, List.mem_cons, List.not_mem_nil, or_false] at h
    omega
  · simp only [SX.S, List.mem_cons, List.not_mem_nil, or_false]
    omega
def spReadN (C : Addr) : Sp := fun vs H Q E => ∃ a : List Nat, vs = [.str (SX.S a)] ∧ a.length ≤ 16777216 ∧ (numOk a = true → Q (.int (NumText.digitsVal a)) H) ∧ (numOk a = false → E (.ref C) none H)
theorem ok_read_number (T : Top K mg) : FnOk P w K mg base (L2.CX P w) 1 T.f_read_number T.d_read_number ["word"] (spReadN T.C_NoText) := by
  refine T.F_read_number.okX sc_read_number (fun vs H Q E h => ?_) (fun cdv A outer s H vs Q E hr h => ?_)
  · obtain ⟨a, rfl, _⟩ := h; rfl
  · obtain ⟨a, rfl, ha, qy, qn⟩ := h
    refine ⟨_, (pss_cons (ps_if (PW.pt (pw_or (pt_not (pt_chain op_le op_le pe_int (pe_callB call_len_str (by rfl) T.m_len (by decide +kernel) (pa_cons (pv 0) pa_nil)) (pe_glob (v := .int 60) rfl T.g_MOST_FIGURES ⟨_, rfl⟩))) (pw_or1 (PW.pt (pw_and (pt_val (pe_m1 PySem.F.slot_str_startswith PySem.F.type_str_startswith mt_startswith (pv 0) pe_str)) (pw_and1 (pt_cmpR op_ne (pv 0) pe_str (nomark _)))))))) (pss_one (ps_raise rfl (takes_of rfl rfl rfl rfl) (pmk_own PySem.F.excBase_ValueError T.x_NoText T.g_NoText T.k_NoText (raises_own T.b_NoText T.t_NoText) rfl))) pss_nil)
      (pss_cons (ps_for (passes_of rfl) rfl (pi_str (pv 0)) (pg_name (i := 1) sc_read_number.nd rfl (.inl rfl)) (pss_one (ps_if (pt_cmpR op_notIn_sign (pv 1) (pe_glob (v := .str "0123456789") rfl T.g_FIGURES ⟨_, rfl⟩) (by rfl)) (pss_one (ps_raise rfl (takes_of rfl rfl rfl rfl) (pmk_own PySem.F.excBase_ValueError T.x_NoText T.g_NoText T.k_NoText (raises_own T.b_NoText T.t_NoText) rfl))) pss_nil)))
      (pss_one (ps_ret (pe_callTy call_int_str (by rfl) T.m_int (by decide +kernel) (pa_cons (pv 0) pa_nil)))))), ?_⟩
    refine seq_step ?_
    walk_at "rt"
    simp only [L2.tM1, starts_S, lit_0, lit_fig, V.str.injEq]
    walk_at "rt"
    have el : (SX.S a).length = a.length := SX.S_len a
    refine ⟨by rw [el, sizeLine_eq]; exact ha, ?_⟩
    rw [el]
    refine ite_d (fun c1 => ?_) (fun c1 => qn (by unfold numOk; rw [decide_eq_false (show ¬ 1 ≤ a.length by omega)]; simp))
    by_cases c2 : a.length ≤ 60
    · rw [decide_eq_true (show (a.length : Int) ≤ 60 by omega), Bool.not_true, if_neg Bool.false_ne_true]
      refine ⟨⟨_, rfl⟩, ?_⟩
      rw [starts_S, show decide (SX.S a = SX.S [48]) = decide (a = [48]) from decide_eq_decide.mpr ⟨SX.S_inj, fun z => by rw [z]⟩]
      by_cases c3 : a.head? = some 48 ∧ a ≠ [48]
      · rw [decide_eq_true c3.1, if_pos rfl, decide_eq_false c3.2, Bool.not_false, if_pos rfl]
        refine qn ?_
        unfold numOk
        rw [decide_eq_true c3.1, decide_eq_false c3.2]
        simp
      · refine ite_skip (fun ⟨z1, z2⟩ => c3 ⟨of_decide_eq_true z1, by simpa using z2⟩) ?_
        refine seq_step ?_
        refine for_tx ?_
        walk_at "rd"
        refine ⟨_, rfl, ?_⟩
        refine forTx_by (fun i σ' H' => H' = H ∧ (∃ v, σ' = [some (.str (SX.S a)), v]) ∧ ∀ c ∈ a.take i, 48 ≤ c ∧ c ≤ 57) ⟨rfl, ⟨_, rfl⟩, by simp⟩ ?_ ?_
        · rintro i c σ' H' hc ⟨rfl, ⟨v, rfl⟩, hi⟩
          walk_at "rd"
          refine ⟨c, rfl, _, rfl, ?_⟩
          rw [fig_in]
          by_cases cc : 48 ≤ c ∧ c ≤ 57
          · rw [decide_eq_true cc, Bool.not_true, if_neg Bool.false_ne_true]
            refine ⟨⟨_, rfl⟩, fun d hd => ?_⟩
            rw [List.take_add_one, hc] at hd
            rcases List.mem_append.mp hd with hd | hd
            · exact hi d hd
            · simp only [Option.toList_some, List.mem_singleton] at hd
              rw [hd]; exact cc
          · rw [decide_eq_false cc, Bool.not_false, if_pos rfl]
            exact qn (numOk_sign (List.mem_of_getElem? hc) (by omega))
        · rintro σ' H' ⟨rfl, ⟨v, rfl⟩, hi⟩
          walk_at "rd"
          rw [List.take_length] at hi
          have al : (a.all fun c => decide (48 ≤ c) && decide (c ≤ 57)) = true := List.all_eq_true.mpr fun c hc => by
            have := hi c hc
            simp only [Bool.and_eq_true, decide_eq_true_eq]; exact this
          have ne : a ≠ [] := fun z => by rw [z] at c1; simp at c1
          have ok : numOk a = true := by
            unfold numOk
            rw [al, decide_eq_true (show 1 ≤ a.length by omega), decide_eq_true c2]
            by_cases h : a.head? = some 48
            · rw [decide_eq_true (show a = [48] from Decidable.byContradiction fun z => c3 ⟨h, z⟩)]; simp
            · rw [decide_eq_false h]; simp
          exact ⟨_, rfl, _, SX.int_S al ne (by omega), by rw [el]; omega, qy ok⟩
    · rw [decide_eq_false (show ¬ (a.length : Int) ≤ 60 by omega), Bool.not_false, if_pos rfl]
      exact qn (numOk_len (by omega))
theorem one_iff (m : Nat) : decide ((m : Int) = 1) = decide (m = 1) := decide_eq_decide.mpr (by omega)
theorem log60 {n : Nat} (h : n < 10 ^ 60) : ((n : Nat) : Int).natAbs.log2 < 1920 := log_lt (n := 200) (sz60 h) (by omega) (by omega)
theorem num60 {n : Nat} (h : n < 10 ^ 60) : (TL.numL n).length ≤ 60 := TL.numL_len (by decide) h
def spShowF : Sp := fun vs H Q _ => ∃ (p : Addr) (n m : Nat), vs = [.ref p] ∧ H p = some (.tup [.int n, .int m]) ∧ n < 10 ^ 60 ∧ m < 10 ^ 60 ∧ Q (.str (SX.S (shF n m))) H
theorem ok_show_fraction (T : Top K mg) : FnOk P w K mg base CX0 1 T.f_show_fraction T.d_show_fraction ["value"] spShowF := by
  refine T.F_show_fraction.ok sc_show_fraction (fun vs H Q E h => ?_) (fun cdv A outer s H vs Q E hr h => ?_)
  · obtain ⟨p, n, m, rfl, _⟩ := h; rfl
  · obtain ⟨p, n, m, rfl, hp, hn, hm, q⟩ := h
    refine ⟨_, (pss_cons (ps_if (pt_cmpR op_eq (pe_ix (ix_tupA (K := K) rfl) (pv 0) pe_int (fun _ _ => rfl)) pe_int (nomark _)) (pss_one (ps_ret (pe_callTy call_str_int (by rfl) T.m_str (by decide +kernel) (pa_cons (pe_ix (ix_tupA (K := K) rfl) (pv 0) pe_int (fun _ _ => rfl)) pa_nil)))) pss_nil)
      (pss_one (ps_ret (pe_op op_add_str (pe_op op_add_str (pe_callTy call_str_int (by rfl) T.m_str (by decide +kernel) (pa_cons (pe_ix (ix_tupA (K := K) rfl) (pv 0) pe_int (fun _ _ => rfl)) pa_nil)) pe_str) (pe_callTy call_str_int (by rfl) T.m_str (by decide +kernel) (pa_cons (pe_ix (ix_tupA (K := K) rfl) (pv 0) pe_int (fun _ _ => rfl)) pa_nil)))))), ?_⟩
    refine seq_step ?_
    walk_at "ix"
    walk_at "rd"
    rw [one_iff]
    unfold shF at q
    by_cases c : m = 1
    · rw [decide_eq_true c, if_pos rfl]
      rw [if_pos c] at q
      walk_at "ix"
      walk_at "rd"
      refine ⟨log60 hn, ?_⟩
      rw [SX.num_S]
      exact q
    · rw [decide_eq_false c, if_neg Bool.false_ne_true]
      rw [if_neg c] at q
      walk_at "ix"
      walk_at "rd"
      refine ⟨log60 hn, ?_⟩
      have l1 := num60 hn
      have l2 := num60 hm
      simp only [V.str.injEq, exists_eq_left', SX.num_S, lit_slash]
      refine ⟨by rw [SX.S_len, SX.S_len, sizeLine_eq]; simp only [List.length_cons, List.length_nil]; omega, ?_⟩
      walk_at "ix"
      walk_at "rd"
      refine ⟨log60 hm, ?_⟩
      try simp only [V.str.injEq, exists_eq_left']
      rw [SX.num_S, SX.S_cat, SX.S_cat]
      refine ⟨by rw [SX.S_len, SX.S_len, sizeLine_eq]; simp only [List.length_append, List.length_cons, List.length_nil]; omega, ?_⟩
      rw [List.append_assoc]
      exact q
theorem red_int {a t u : Int} (R : Red a 1 t u) : t = a ∧ u = 1 := by
  have h1 := R.pos
  have h2 := R.ule
  have h3 := R.eq
  obtain rfl : u = 1 := by omega
  omega
def spReadF (C : Addr) (K : PySem.W.Frag) : Sp := fun vs H Q E =>
  (∃ (a : List Nat) (n m : Nat), vs = [.str (SX.S a)] ∧ a.length ≤ 16777216 ∧ frD a = some (n, m) ∧ ∀ p H', Same H H' → H' p = some (.tup [.int n, .int m]) → Q (.ref p) H') ∨
  (∃ a : List Nat, vs = [.str (SX.S a)] ∧ a.length ≤ 16777216 ∧ frD a = none ∧ ∀ H', Same H H' → E (.ref C) none H') ∨
  (∃ (x : V) (t : String), vs = [x] ∧ TyX K H x (.type t) ∧ t ∈ kinds ∧ t ≠ "str" ∧ E (.ref C) none H)
theorem kit_str {t : String} (h : t ∈ kinds) (n : t ≠ "str") : kitB t "str" = some false := by
  simp only [kinds, List.mem_cons, List.not_mem_nil, or_false] at h
  rcases h with rfl | rfl | rfl | rfl | rfl | rfl | rfl
  all_goals first | exact absurd rfl n | decide +kernel
theorem par_len0 : ∀ (a acc p q : List Nat), TL.par [47] acc a = some (p, q) → p.length + q.length ≤ acc.length + a.length
  | [], _, _, _, h => by cases h
  | c :: r, acc, p, q, h => by
    unfold TL.par at h
    split at h
    · cases h
      simp
      try omega
    · have := par_len0 r (acc ++ [c]) p q h
      rw [List.length_append] at this
      simp at this
      rw [List.length_cons]
      omega
theorem par_len {a p q : List Nat} (h : TL.par [47] [] a = some (p, q)) : p.length + q.length ≤ a.length := by
  have := par_len0 a [] p q h
  simp at this
  exact this
theorem ok_read_fraction (T : Top K mg) : FnOk P w K mg base (L2.CX P w) 3 T.f_read_fraction T.d_read_fraction ["text"] (spReadF T.C_NoText K) := by
  refine T.F_read_fraction.okX sc_read_fraction (fun vs H Q E h => ?_) (fun cdv A outer s H vs Q E hr h => ?_)
  · rcases h with ⟨a, n, m, rfl, _⟩ | ⟨a, rfl, _⟩ | ⟨x, t, rfl, _⟩ <;> rfl
  · refine ⟨_, (pss_cons (ps_if (pt_not (pt_val (pe_callB (call_isiA (K := K) rfl) (by rfl) T.m_isinstance (by decide +kernel) (pa_cons (pv 0) (pa_cons (pe_bltn (v := .ty "str") (u := .type "str") (by rfl) T.m_str (by decide +kernel) rfl) pa_nil))))) (pss_one (ps_raise rfl (takes_of rfl rfl rfl rfl) (pmk_own PySem.F.excBase_ValueError T.x_NoText T.g_NoText T.k_NoText (raises_own T.b_NoText T.t_NoText) rfl))) pss_nil)
      (pss_cons (ps_asg (pe_m1 PySem.F.slot_str_partition PySem.F.type_str_partition mt_partN (pv 0) pe_str) (pg_tupA (K := K) (n := 3) rfl (by rfl) (pgs_cons (pg_name (i := 1) sc_read_fraction.nd rfl (.inl rfl)) (pgs_cons (pg_name (i := 2) sc_read_fraction.nd rfl (.inl rfl)) (pgs_cons (pg_name (i := 3) sc_read_fraction.nd rfl (.inl rfl)) pgs_nil)))))
      (pss_cons (ps_if (pt_cmpR op_eq (pv 2) pe_str (nomark _)) (pss_one (ps_ret (pe_call (ok_fraction T) (hr.mono (by decide)) rfl T.g_fraction T.F_fraction.kp T.bd_fraction T.v_fraction (passes_call (takes_of rfl rfl rfl rfl) (fun _ _ _ _ z => z)) (pa_cons (pe_call (ok_read_number T) (hr.mono (by decide)) rfl T.g_read_number T.F_read_number.kp T.b_read_number .nil (passes_call (takes_of rfl rfl rfl rfl) (fun _ _ _ _ z => z)) (pa_cons (pv 1) pa_nil)) pa_nil)))) pss_nil)
      (pss_cons (ps_set (i := 4) sc_read_fraction.nd rfl (.inl rfl) (pe_tupN (pa_cons (pe_call (ok_read_number T) (hr.mono (by decide)) rfl T.g_read_number T.F_read_number.kp T.b_read_number .nil (passes_call (takes_of rfl rfl rfl rfl) (fun _ _ _ _ z => z)) (pa_cons (pv 1) pa_nil)) (pa_cons (pe_call (ok_read_number T) (hr.mono (by decide)) rfl T.g_read_number T.F_read_number.kp T.b_read_number .nil (passes_call (takes_of rfl rfl rfl rfl) (fun _ _ _ _ z => z)) (pa_cons (pv 3) pa_nil)) pa_nil))))
      (pss_cons (ps_if (PW.pt (pw_or (pt_cmpR op_lt (pe_ix (ix_tupA (K := K) rfl) (pv 4) pe_int (fun _ _ => rfl)) pe_int (nomark _)) (pw_or1 (pt_not (pt_val (pe_call (ok_is_fraction T) (hr.mono (by decide)) rfl T.g_is_fraction T.F_is_fraction.kp T.b_is_fraction .nil pass0 (pa_cons (pv 4) pa_nil))))))) (pss_one (ps_raise rfl (takes_of rfl rfl rfl rfl) (pmk_own PySem.F.excBase_ValueError T.x_NoText T.g_NoText T.k_NoText (raises_own T.b_NoText T.t_NoText) rfl))) pss_nil)
      (pss_one (ps_ret (pv 4)))))))), ?_⟩
    have h' : (∃ a : List Nat, vs = [.str (SX.S a)] ∧ a.length ≤ 16777216 ∧ (∀ n m, frD a = some (n, m) → ∀ p H', Same H H' → H' p = some (.tup [.int (n : Nat), .int (m : Nat)]) → Q (.ref p) H') ∧ (frD a = none → ∀ H', Same H H' → E (.ref T.C_NoText) none H')) ∨
        (∃ (x : V) (t : String), vs = [x] ∧ TyX K H x (.type t) ∧ t ∈ kinds ∧ t ≠ "str" ∧ E (.ref T.C_NoText) none H) := by
      rcases h with ⟨a, n, m, rfl, ha, hf, q⟩ | ⟨a, rfl, ha, hf, q⟩ | h
      · exact .inl ⟨a, rfl, ha, (fun n' m' e => by rw [hf] at e; cases e; exact q), (fun e => by rw [hf] at e; cases e)⟩
      · exact .inl ⟨a, rfl, ha, (fun n' m' e => by rw [hf] at e; cases e), fun _ => q⟩
      · exact .inr h
    clear h
    rcases h' with ⟨a, rfl, ha, qy, qn⟩ | ⟨x, t, rfl, hx, hk, hn, e⟩
    · refine seq_step ?_
      walk_at "isT"
      refine seq_step ?_
      simp only [lit_slash, lit_no]
      walk_at "rd"
      simp only [L2.tM1, rPart]
      walk_at "rd"
      refine ⟨⟨_, rfl⟩, _, rfl, _, rfl, by decide, by rw [SX.S_len]; exact ha, fun pp H1 s1 f1 e1 => ?_⟩
      cases hp : TL.par [47] [] a with
      | none =>
        rw [SX.partition_none (by decide) hp] at e1
        have z := qn
        unfold frD at qy qn
        rw [hp] at qy qn
        simp only at qy qn
        refine ⟨pp, _, rfl, sqt e1, rfl, ?_⟩
        walk_at "rd"
        refine seq_step ?_
        walk_at "rd"
        refine ⟨a, rfl, ha, fun ok => ?_, fun no => qn (if_neg (by rw [no]; exact Bool.false_ne_true)) _ s1⟩
        refine frac_ok (by decide) (by show (1 : Int).natAbs < 2 ^ 8000; exact Nat.one_lt_two_pow (by decide)) fun t u p2 H2 R s2 e2 => ?_
        obtain ⟨rfl, rfl⟩ := red_int R
        exact qy _ _ (if_pos ok) p2 H2 (s1.trans s2) e2
      | some pq =>
        obtain ⟨p, r⟩ := pq
        rw [SX.partition_some (by decide) hp] at e1
        unfold frD at qy qn
        rw [hp] at qy qn
        simp only at qy qn
        refine ⟨pp, _, rfl, sqt e1, rfl, ?_⟩
        walk_at "rd"
        refine seq_step ?_
        walk_at "rd"
        have lpr := par_len hp
        rw [decide_eq_false (show ¬ V.str (SX.S [47]) = V.str (SX.S []) from fun z => by injection z with z; exact absurd (SX.S_inj z) (by decide)), if_neg Bool.false_ne_true]
        refine seq_step ?_
        walk_at "rd"
        refine ⟨p, rfl, by omega, fun okp => ?_, fun no => qn (if_neg (by rw [no]; simp)) _ s1⟩
        walk_at "rd"
        refine ⟨r, rfl, by omega, fun okr => ?_, fun no => qn (if_neg (by rw [no]; simp)) _ s1⟩
        walk_at "rd"
        intro pv H2 s2 f2 e2
        refine seq_step ?_
        walk_at "ix"
        walk_at "rd"
        refine ite_d (fun c => qn (if_neg (by omega)) _ (s1.trans s2)) (fun c => ?_)
        refine ⟨_, _, rfl, .num e2, ?_⟩
        have eg : (Int.gcd (NumText.digitsVal p : Int) (NumText.digitsVal r : Int)) = Nat.gcd (NumText.digitsVal p) (NumText.digitsVal r) := rfl
        rw [eg]
        by_cases g : Nat.gcd (NumText.digitsVal p) (NumText.digitsVal r) = 1
        · rw [decide_eq_true (show (1 : Int) ≤ (NumText.digitsVal r : Int) ∧ Nat.gcd (NumText.digitsVal p) (NumText.digitsVal r) = 1 from ⟨by omega, g⟩)]
          walk_at "rd"
          exact qy _ _ (if_pos ⟨okp, okr, by omega, g⟩) pv H2 (s1.trans s2) e2
        · rw [decide_eq_false (show ¬ ((1 : Int) ≤ (NumText.digitsVal r : Int) ∧ Nat.gcd (NumText.digitsVal p) (NumText.digitsVal r) = 1) from fun z => g z.2)]
          walk_at "rd"
          exact qn (if_neg fun z => g z.2.2.2) _ (s1.trans s2)
    · refine seq_step ?_
      walk_at "rd"
      refine isi (r := false) hx (kit_str hk hn) ?_
      walk_at "rd"
      exact e
def spSize81 : Sp := fun vs H Q _ => ∃ c : Int, vs = [.int c] ∧ ∀ n : Nat, n < 10 ^ 60 → Q (.int n) H
theorem ok_l_size (T : Top K mg) : FnOk P w K mg base CX0 1 T.f_l_size T.d_l_size ["_law_cell"] spSize81 := by
  refine T.F_l_size.ok sc_l_size (fun vs H Q E h => ?_) (fun cdv A outer s H vs Q E hr h => ?_)
  · obtain ⟨c, rfl, _⟩ := h; rfl
  · obtain ⟨c, rfl, q⟩ := h
    refine ⟨_, (pss_cons (ps_if (pt_cmpR op_eq (pe_op op_modN (pv 0) pe_int) pe_int (nomark _)) (pss_one (ps_ret (pe_op op_modN (pe_op op_fdivZ (pv 0) pe_int) pe_int))) pss_nil)
      (pss_cons (ps_if (pt_cmpR op_eq (pe_op op_modN (pv 0) pe_int) pe_int (nomark _)) (pss_one (ps_ret (pe_op op_modN (pe_op op_mulOk (pe_op op_fdivZ (pv 0) pe_int) pe_int) (pe_op op_pow pe_int pe_int)))) pss_nil)
      (pss_one (ps_ret (pe_op op_add (pe_op op_pow pe_int pe_int) (pe_op op_modN (pe_op op_mulOk (pe_op op_fdivZ (pv 0) pe_int) pe_int) (pe_op op_mulW pe_int (pe_op op_pow pe_int pe_int)))))))), ?_⟩
    have key : ∀ z : Int, 0 ≤ z → z < 10 ^ 60 → Q (.int z) H := fun z h0 h1 => by
      obtain ⟨n, rfl⟩ := Int.eq_ofNat_of_zero_le h0
      exact q n (by omega)
    refine seq_step ?_
    walk_at "rd"
    have m10 := fm_pos (c := c.fdiv 3) (m := 10) (by decide)
    refine ite_d (fun _ => key _ m10.1 (by omega)) (fun _ => ?_)
    refine seq_step ?_
    walk_at "rd"
    refine ite_d (fun _ => ?_) (fun _ => ?_)
    · refine ⟨.of_right (by decide +kernel), ?_⟩
      have m := fm_pos (c := c.fdiv 3 * 48271) (m := 100000000000000000000) (by decide)
      exact key _ m.1 (by omega)
    · walk_at "rd"
      refine ⟨.of_right (by decide +kernel), by unfold CMulW; decide +kernel, ?_⟩
      have m := fm_pos (c := c.fdiv 3 * 48271) (m := 900000000000000000000000000000000000000000000000000000000000) (by decide)
      exact key _ (by omega) (by omega)
def BadV (K : PySem.W.Frag) (H : Hp) (v : V) : Prop := (∃ a : List Nat, v = .str (SX.S a) ∧ a.length ≤ 16777216 ∧ frD a = none) ∨ (∃ t, TyX K H v (.type t) ∧ t ∈ kinds ∧ t ≠ "str")
theorem readf_bad {C : Addr} {K : PySem.W.Frag} {H : Hp} {v : V} {Q : VK} {E : XK} (hb : BadV K H v) (e : ∀ H', Same H H' → E (.ref C) none H') : spReadF C K [v] H Q E := by
  rcases hb with ⟨a, rfl, ha, hf⟩ | ⟨t, ht, hk, hn⟩
  · exact .inr (.inl ⟨a, rfl, ha, hf, e⟩)
  · exact .inr (.inr ⟨v, t, rfl, ht, hk, hn, e _ (Same.refl _)⟩)
def spRefused81 (K : PySem.W.Frag) : Sp := fun vs H Q _ => ∃ v, vs = [v] ∧ BadV K H v ∧ ∀ H', Same H H' → Q (.bl true) H'
theorem ok_l_refused (T : Top K mg) : FnOk P w K mg base CX0 4 T.f_l_refused T.d_l_refused ["_law_text"] (spRefused81 K) := by
  refine T.F_l_refused.ok sc_l_refused (fun vs H Q E h => ?_) (fun cdv A outer s H vs Q E hr h => ?_)
  · obtain ⟨v, rfl, _⟩ := h; rfl
  · obtain ⟨v, rfl, hb, q⟩ := h
    refine ⟨_, (pss_cons (ps_try_as (i := 1) rfl rfl sc_l_refused.nd rfl rfl ⟨rfl, by decide, .inl T.g_WalkError⟩ takes0 (fun W pn xe tk _ => (pss_one (ps_expr (pe_callS (ok_read_fraction T) (hr.mono (by decide)) rfl T.g_read_fraction T.F_read_fraction.kp T.b_read_fraction (fun σ => passAt tk σ) (pa_cons (pv 0) pa_nil))))) (fun a oe cls d pn hz hf => (pss_cons (ps_set (i := 2) sc_l_refused.nd rfl (.inl rfl) (pe_lstN (pa_cons (pe_callB (call_isE2 hz hf) (by rfl) T.m_isinstance (by decide +kernel) (pa_cons (pv 1) (pa_cons (pe_glob (v := .ref T.C_BadMachine) rfl T.g_BadMachine rfl) pa_nil))) (pa_cons (pe_callB (call_isE2 hz hf) (by rfl) T.m_isinstance (by decide +kernel) (pa_cons (pv 1) (pa_cons (pe_glob (v := .ref T.C_NoMark) rfl T.g_NoMark rfl) pa_nil))) (pa_cons (pe_callB (call_isE2 hz hf) (by rfl) T.m_isinstance (by decide +kernel) (pa_cons (pv 1) (pa_cons (pe_glob (v := .ref T.C_NoNumber) rfl T.g_NoNumber rfl) pa_nil))) (pa_cons (pe_callB (call_isE2 hz hf) (by rfl) T.m_isinstance (by decide +kernel) (pa_cons (pv 1) (pa_cons (pe_glob (v := .ref T.C_NoRoad) rfl T.g_NoRoad rfl) pa_nil))) pa_nil))))))
      (pss_cons (ps_set (i := 2) sc_l_refused.nd rfl (.inl rfl) (pe_op op_catN (pv 2) (pe_lstN (pa_cons (pe_callB (call_isE2 hz hf) (by rfl) T.m_isinstance (by decide +kernel) (pa_cons (pv 1) (pa_cons (pe_glob (v := .ref T.C_NoRoom) rfl T.g_NoRoom rfl) pa_nil))) (pa_cons (pe_callB (call_isE2 hz hf) (by rfl) T.m_isinstance (by decide +kernel) (pa_cons (pv 1) (pa_cons (pe_glob (v := .ref T.C_NoRow) rfl T.g_NoRow rfl) pa_nil))) (pa_cons (pe_callB (call_isE2 hz hf) (by rfl) T.m_isinstance (by decide +kernel) (pa_cons (pv 1) (pa_cons (pe_glob (v := .ref T.C_NoRun) rfl T.g_NoRun rfl) pa_nil))) (pa_cons (pe_callB (call_isE2 hz hf) (by rfl) T.m_isinstance (by decide +kernel) (pa_cons (pv 1) (pa_cons (pe_glob (v := .ref T.C_TooMany) rfl T.g_TooMany rfl) pa_nil))) pa_nil)))))))
      (pss_one (ps_ret (pe_and (pe_callB (call_isE2 hz hf) (by rfl) T.m_isinstance (by decide +kernel) (pa_cons (pv 1) (pa_cons (pe_glob (v := .ref T.C_NoText) rfl T.g_NoText rfl) pa_nil))) (pe_and (pe_callB (call_isE2 hz hf) (by rfl) T.m_isinstance (by decide +kernel) (pa_cons (pv 1) (pa_cons (pe_bltn (v := .ty "ValueError") (u := .type "ValueError") (by rfl) T.m_ValueError (by decide +kernel) rfl) pa_nil))) (pe_one (pe_cmpR (op_notIn_seqA (K := K) rfl) pe_bl (pv 2) (by rfl)))))))))))
      (pss_one (ps_ret pe_bl))), ?_⟩
    refine seq_step ?_
    walk_at "rd"
    refine readf_bad hb fun H3 s3 => ?_
    refine ⟨true, exm_two T.b_WalkError T.hd_WalkError T.t_WalkError T.s_NoText_WalkError, fun _ a ha => ?_, fun z => nomatch z⟩
    have X : ExcC K T.C_NoText := ⟨T.e1_NoText, T.e2_NoText, T.b_NoText, T.e4_NoText, T.e5_NoText, T.e6_, T.e7_, T.e8_NoText⟩
    refine seq_step ?_
    walk_at "rd"
    refine ⟨_, rfl, X, _, .ref T.C_BadMachine, _, rfl, (fun _ e => e), T.kk_BadMachine, ?_⟩
    walk_at "rd"
    refine ⟨_, rfl, X, _, .ref T.C_NoMark, _, rfl, (fun _ e => e), T.kk_NoMark, ?_⟩
    walk_at "rd"
    refine ⟨_, rfl, X, _, .ref T.C_NoNumber, _, rfl, (fun _ e => e), T.kk_NoNumber, ?_⟩
    walk_at "rd"
    refine ⟨_, rfl, X, _, .ref T.C_NoRoad, _, rfl, (fun _ e => e), T.kk_NoRoad, ?_⟩
    walk_at "rd"
    intro l1 H4 s4 f4 e4
    refine seq_step ?_
    walk_at "rd"
    refine ⟨_, rfl, X, _, .ref T.C_NoRoom, _, rfl, (fun _ e => e), T.kk_NoRoom, ?_⟩
    walk_at "rd"
    refine ⟨_, rfl, X, _, .ref T.C_NoRow, _, rfl, (fun _ e => e), T.kk_NoRow, ?_⟩
    walk_at "rd"
    refine ⟨_, rfl, X, _, .ref T.C_NoRun, _, rfl, (fun _ e => e), T.kk_NoRun, ?_⟩
    walk_at "rd"
    refine ⟨_, rfl, X, _, .ref T.C_TooMany, _, rfl, (fun _ e => e), T.kk_TooMany, ?_⟩
    walk_at "rd"
    intro l2 H5 s5 f5 e5
    refine ⟨_, s5 _ _ e4, _, e5, small1000' (by simp), fun l3 H6 s6 f6 e6 => ?_⟩
    walk_at "rd"
    refine ⟨_, rfl, X, _, .ref T.C_NoText, _, rfl, (fun _ e => e), T.kk_NoText, ?_⟩
    walk_at "rd"
    refine ⟨_, rfl, X, _, .type "ValueError", _, rfl, (fun _ e => e), T.kk_VE, ?_⟩
    walk_at "rd"
    refine ⟨l3, _, rfl, .inl (.of e6), rfl, rfl, ?_⟩
    walk_at "rd"
    exact q _ (s3.trans (s4.trans (s5.trans s6)))
def wrongL (A B X Y : List Nat) (pt pa : Addr) : List V :=
  [V.str (SX.S []), V.str (SX.S [47]), V.str (SX.S (A ++ [47])), V.str (SX.S (47 :: B)),
      V.str (SX.S (A ++ [47, 48])), V.str (SX.S (A ++ [47, 49])), V.str (SX.S (48 :: A)), V.str (SX.S (A ++ [47, 48] ++ B)), V.str (SX.S (45 :: A))] ++
    [V.str (SX.S (45 :: (A ++ [47] ++ B))), V.str (SX.S (A ++ [47, 45] ++ B)), V.str (SX.S (43 :: A)), V.str (SX.S (A ++ [46] ++ B)), V.str (SX.S (A ++ [32])), V.str (SX.S (32 :: A))] ++
    [V.str (SX.S (A ++ [47] ++ B ++ [47] ++ B)), V.str (SX.S (A ++ [47, 47] ++ B)), V.str (SX.S (A ++ [32, 47] ++ B)), V.str (SX.S (49 :: repT [48] 60))] ++
    [V.str (SX.S (49 :: 47 :: 49 :: repT [48] 60)), V.str (SX.S (A ++ [10])), V.str (SX.S [120]), V.str (SX.S (A ++ [120])), V.str (SX.S [49, 95, 48]), V.str (SX.S [48, 120, 49]),
      V.str (SX.S [48, 48]), V.str (SX.S (48 :: 47 :: B)), V.non, V.int 5, V.ref pt] ++
    [V.str (SX.S (repT [57] 4400)), V.str (SX.S (49 :: 47 :: repT [57] 4400)), V.str (SX.S (49 :: repT [48] 4300))] ++
    [V.str (SX.S (X ++ [47] ++ Y)), V.ref pa]
theorem rep_free {c d n : Nat} (h : c ≠ d) : d ∉ repT [c] n := by
  unfold repT
  intro hm
  rw [List.mem_flatten] at hm
  obtain ⟨l, h1, h2⟩ := hm
  rw [List.eq_of_mem_replicate h1] at h2
  exact h (List.mem_singleton.mp h2).symm
theorem wrong_bad {K : PySem.W.Frag} {H : Hp} {n m k : Nat} {A B : List Nat} {pt pa : Addr} {ts as : List V} (hA : TL.numL n = A) (hB : TL.numL m = B) (n20 : n < 10 ^ 20) (m20 : m ≤ 10 ^ 20 + 1) (m2 : 2 ≤ m) (k2 : 2 ≤ k) (k10 : k ≤ 10)
    (et : H pt = some (.tup ts)) (ea : H pa = some (.lst as)) : ∀ v ∈ wrongL A B (TL.numL (n * k)) (TL.numL (m * k)) pt pa, BadV K H v := by
  have fA : 47 ∉ A := hA ▸ slash_num n
  have fB : 47 ∉ B := hB ▸ slash_num m
  have nA : A ≠ [] := hA ▸ TL.numL_ne n
  have nB : B ≠ [] := hB ▸ TL.numL_ne m
  have lA : A.length ≤ 60 := hA ▸ num60 (by omega)
  have lB : B.length ≤ 60 := hB ▸ num60 (by omega)
  have hnk : n * k < 10 ^ 60 := Nat.lt_of_le_of_lt (Nat.mul_le_mul (Nat.le_of_lt n20) k10) (by decide)
  have hmk : m * k < 10 ^ 60 := Nat.lt_of_le_of_lt (Nat.mul_le_mul m20 k10) (by decide)
  have lX := num60 hnk
  have lY := num60 hmk
  have txt : ∀ a : List Nat, a.length ≤ 16777216 → frD a = none → BadV K H (.str (SX.S a)) := fun a h1 h2 => .inl ⟨a, rfl, h1, h2⟩
  intro v hv
  unfold wrongL at hv
  simp only [List.cons_append, List.nil_append, List.append_assoc, List.mem_cons, List.not_mem_nil, or_false] at hv
  rcases hv with rfl | rfl | rfl | rfl | rfl | rfl | rfl | rfl | rfl | rfl | rfl | rfl | rfl | rfl | rfl | rfl | rfl | rfl | rfl | rfl | rfl | rfl | rfl | rfl | rfl | rfl | rfl | rfl | rfl | rfl | rfl | rfl | rfl | rfl | rfl
  · exact txt _ (by simp) (by decide)
  · exact txt _ (by simp) (by decide)
  · exact txt _ (by simp; omega) (frD_bot fA (.inl numOk_nil))
  · exact txt _ (by simp; omega) (frD_top (p := []) B (by simp) numOk_nil)
  · exact txt _ (by simp; omega) (frD_bot (q := [48]) fA (.inr (.inl (by decide))))
  · exact txt _ (by simp; omega) (frD_bot (q := [49]) fA (.inr (.inl (by decide))))
  · exact txt _ (by simp; omega) (frD_plain (by simp [fA]) (numOk_zero nA))
  · exact txt _ (by simp; omega) (frD_bot (q := 48 :: B) fA (.inl (numOk_zero nB)))
  · exact txt _ (by simp; omega) (frD_plain (by simp [fA]) (numOk_sign (c := 45) (by simp) (by omega)))
  · exact txt _ (by simp; omega) (frD_top (p := 45 :: A) B (by simp [fA]) (numOk_sign (c := 45) (by simp) (by omega)))
  · exact txt _ (by simp; omega) (frD_bot (q := 45 :: B) fA (.inl (numOk_sign (c := 45) (by simp) (by omega))))
  · exact txt _ (by simp; omega) (frD_plain (by simp [fA]) (numOk_sign (c := 43) (by simp) (by omega)))
  · exact txt _ (by simp; omega) (frD_plain (by simp [fA, fB]) (numOk_sign (c := 46) (by simp) (by omega)))
  · exact txt _ (by simp; omega) (frD_plain (by simp [fA]) (numOk_sign (c := 32) (by simp) (by omega)))
  · exact txt _ (by simp; omega) (frD_plain (by simp [fA]) (numOk_sign (c := 32) (by simp) (by omega)))
  · exact txt _ (by simp; omega) (frD_bot (q := B ++ 47 :: B) fA (.inl (numOk_sign (c := 47) (by simp) (by omega))))
  · exact txt _ (by simp; omega) (frD_bot (q := 47 :: B) fA (.inl (numOk_sign (c := 47) (by simp) (by omega))))
  · have := frD_top (p := A ++ [32]) B (by simp [fA]) (numOk_sign (c := 32) (by simp) (by omega))
    rw [List.append_assoc] at this
    exact txt _ (by simp; omega) this
  · exact txt _ (by simp [repT_len]) (frD_plain (by simp [rep_free]) (numOk_len (by simp [repT_len])))
  · exact txt _ (by simp [repT_len]) (frD_bot (p := [49]) (q := 49 :: repT [48] 60) (by simp) (.inl (numOk_len (by simp [repT_len]))))
  · exact txt _ (by simp; omega) (frD_plain (by simp [fA]) (numOk_sign (c := 10) (by simp) (by omega)))
  · exact txt _ (by simp) (by decide)
  · exact txt _ (by simp; omega) (frD_plain (by simp [fA]) (numOk_sign (c := 120) (by simp) (by omega)))
  · exact txt _ (by simp) (by decide)
  · exact txt _ (by simp) (by decide)
  · exact txt _ (by simp) (by decide)
  · refine txt _ (by simp; omega) (frD_bot (p := [48]) (q := B) (by simp) (.inr (.inr ?_)))
    rw [← hB, TL.numL_val]
    show Nat.gcd 0 m ≠ 1
    rw [Nat.gcd_zero_left]
    omega
  · exact .inr ⟨_, .base .non, by decide, by decide⟩
  · exact .inr ⟨_, .base (.int _), by decide, by decide⟩
  · exact .inr ⟨_, .base (.tup et), by decide, by decide⟩
  · exact txt _ (by simp [repT_len]) (frD_plain (rep_free (by decide)) (numOk_len (by simp [repT_len])))
  · exact txt _ (by simp [repT_len]) (frD_bot (p := [49]) (q := repT [57] 4400) (by simp) (.inl (numOk_len (by simp [repT_len]))))
  · exact txt _ (by simp [repT_len]) (frD_plain (by simp [rep_free]) (numOk_len (by simp [repT_len])))
  · refine txt _ (by simp; omega) (frD_bot (p := TL.numL (n * k)) (q := TL.numL (m * k)) (slash_num _) (.inr (.inr ?_)))
    rw [TL.numL_val, TL.numL_val, Nat.gcd_mul_right]
    intro z
    have := Nat.eq_one_of_mul_eq_one_left z
    omega
  · exact .inr ⟨_, .base (.lst ea), by decide, by decide⟩
def spWrong81 (K : PySem.W.Frag) : Sp := fun vs H Q _ => ∃ c x y : Int, vs = [.int c, .int x, .int y] ∧ ∀ v H', Same H H' → BadV K H' v → Q v H'
theorem ok_l_wrong (T : Top K mg) : FnOk P w K mg base CX0 1 T.f_l_wrong T.d_l_wrong ["_law_cell", "_law_one", "_law_other"] (spWrong81 K) := by
  refine T.F_l_wrong.ok sc_l_wrong (fun vs H Q E h => ?_) (fun cdv A outer s H vs Q E hr h => ?_)
  · obtain ⟨c, x, y, rfl, _⟩ := h; rfl
  · obtain ⟨c, x, y, rfl, q⟩ := h
    refine ⟨_, (pss_cons (ps_set (i := 3) sc_l_wrong.nd rfl (.inl rfl) (pe_callTy call_strN (by rfl) T.m_str (by decide +kernel) (pa_cons (pe_op op_modN (pv 1) (pe_op op_pow pe_int pe_int)) pa_nil)))
      (pss_cons (ps_set (i := 4) sc_l_wrong.nd rfl (.inl rfl) (pe_callTy call_strN (by rfl) T.m_str (by decide +kernel) (pa_cons (pe_op op_add pe_int (pe_op op_modN (pv 2) (pe_op op_pow pe_int pe_int))) pa_nil)))
      (pss_cons (ps_set (i := 5) sc_l_wrong.nd rfl (.inl rfl) (pe_lstN (pa_cons pe_str (pa_cons pe_str (pa_cons (pe_op op_addS (pv 3) pe_str) (pa_cons (pe_op op_addS pe_str (pv 4)) (pa_cons (pe_op op_addS (pv 3) pe_str) (pa_cons (pe_op op_addS (pv 3) pe_str) (pa_cons (pe_op op_addS pe_str (pv 3)) (pa_cons (pe_op op_addS (pe_op op_addS (pv 3) pe_str) (pv 4)) (pa_cons (pe_op op_addS pe_str (pv 3)) pa_nil)))))))))))
      (pss_cons (ps_set (i := 5) sc_l_wrong.nd rfl (.inl rfl) (pe_op op_catN (pv 5) (pe_lstN (pa_cons (pe_op op_addS (pe_op op_addS (pe_op op_addS pe_str (pv 3)) pe_str) (pv 4)) (pa_cons (pe_op op_addS (pe_op op_addS (pv 3) pe_str) (pv 4)) (pa_cons (pe_op op_addS pe_str (pv 3)) (pa_cons (pe_op op_addS (pe_op op_addS (pv 3) pe_str) (pv 4)) (pa_cons (pe_op op_addS (pv 3) pe_str) (pa_cons (pe_op op_addS pe_str (pv 3)) pa_nil)))))))))
      (pss_cons (ps_set (i := 5) sc_l_wrong.nd rfl (.inl rfl) (pe_op op_catN (pv 5) (pe_lstN (pa_cons (pe_op op_addS (pe_op op_addS (pe_op op_addS (pe_op op_addS (pv 3) pe_str) (pv 4)) pe_str) (pv 4)) (pa_cons (pe_op op_addS (pe_op op_addS (pv 3) pe_str) (pv 4)) (pa_cons (pe_op op_addS (pe_op op_addS (pv 3) pe_str) (pv 4)) (pa_cons (pe_op op_addS pe_str (pe_op op_mulT pe_str pe_int)) pa_nil)))))))
      (pss_cons (ps_set (i := 5) sc_l_wrong.nd rfl (.inl rfl) (pe_op op_catN (pv 5) (pe_lstN (pa_cons (pe_op op_addS pe_str (pe_op op_mulT pe_str pe_int)) (pa_cons (pe_op op_addS (pv 3) pe_str) (pa_cons pe_str (pa_cons (pe_op op_addS (pv 3) pe_str) (pa_cons pe_str (pa_cons pe_str (pa_cons pe_str (pa_cons (pe_op op_addS pe_str (pv 4)) (pa_cons pe_non (pa_cons pe_int (pa_cons (pe_tupN (pa_cons pe_int (pa_cons pe_int pa_nil))) pa_nil))))))))))))))
      (pss_cons (ps_set (i := 5) sc_l_wrong.nd rfl (.inl rfl) (pe_op op_catN (pv 5) (pe_lstN (pa_cons (pe_op op_mulT pe_str pe_int) (pa_cons (pe_op op_addS pe_str (pe_op op_mulT pe_str pe_int)) (pa_cons (pe_op op_addS pe_str (pe_op op_mulT pe_str pe_int)) pa_nil))))))
      (pss_cons (ps_set (i := 6) sc_l_wrong.nd rfl (.inl rfl) (pe_callTy call_strN (by rfl) T.m_str (by decide +kernel) (pa_cons (pe_op op_add pe_int (pe_op op_modN (pe_op op_fdivZ (pv 0) pe_int) pe_int)) pa_nil)))
      (pss_cons (ps_set (i := 5) sc_l_wrong.nd rfl (.inl rfl) (pe_op op_catN (pv 5) (pe_lstN (pa_cons (pe_op op_addS (pe_op op_addS (pe_callTy call_strN (by rfl) T.m_str (by decide +kernel) (pa_cons (pe_op op_mulW (pe_callTy call_intT (by rfl) T.m_int (by decide +kernel) (pa_cons (pv 3) pa_nil)) (pe_callTy call_intT (by rfl) T.m_int (by decide +kernel) (pa_cons (pv 6) pa_nil))) pa_nil)) pe_str) (pe_callTy call_strN (by rfl) T.m_str (by decide +kernel) (pa_cons (pe_op op_mulW (pe_callTy call_intT (by rfl) T.m_int (by decide +kernel) (pa_cons (pv 4) pa_nil)) (pe_callTy call_intT (by rfl) T.m_int (by decide +kernel) (pa_cons (pv 6) pa_nil))) pa_nil))) (pa_cons (pe_lstN (pa_cons (pv 3) pa_nil)) pa_nil)))))
      (pss_one (ps_ret (pe_ix (ix_listA (K := K) rfl) (pv 5) (pe_op op_modN (pv 0) (pe_callB call_len_seq (by rfl) T.m_len (by decide +kernel) (pa_cons (pv 5) pa_nil))) (fun _ _ => rfl))))))))))))), ?_⟩
    refine seq_step ?_
    walk_at "rd"
    have mx := fm_pos (c := x) (m := 100000000000000000000) (by decide)
    have my := fm_pos (c := y) (m := 100000000000000000000) (by decide)
    refine ⟨mx.1, by omega, ?_⟩
    refine seq_step ?_
    walk_at "rd"
    refine ⟨by omega, by omega, ?_⟩
    obtain ⟨n, hn⟩ : ∃ n, (x.fmod 100000000000000000000).toNat = n := ⟨_, rfl⟩
    obtain ⟨m, hm⟩ : ∃ m, (2 + y.fmod 100000000000000000000).toNat = m := ⟨_, rfl⟩
    rw [hn, hm]
    have n20 : n < 10 ^ 20 := by omega
    have m20 : m ≤ 10 ^ 20 + 1 := by omega
    have m2 : 2 ≤ m := by omega
    have ln := num60 (n := n) (by omega)
    have lm := num60 (n := m) (by omega)
    obtain ⟨A, hA⟩ : ∃ A, TL.numL n = A := ⟨_, rfl⟩
    obtain ⟨B, hB⟩ : ∃ B, TL.numL m = B := ⟨_, rfl⟩
    rw [hA] at ln ⊢
    rw [hB] at lm ⊢
    simp only [lit_no, lit_slash, lit_0, lit_z0, lit_z1, lit_mi, lit_smi, lit_pl, lit_dot, lit_bl, lit_ss, lit_bs, lit_1, lit_oo, lit_lf, lit_x, lit_1u0, lit_0x1, lit_00, lit_0s, lit_9, lit_1s]
    refine seq_step ?_
    walk_at "rd"
    simp only [rAddS, rMulT, vS_eq]
    walk_at "rd"
    repeat (refine ⟨by (try simp only [List.length_append, List.length_cons, List.length_nil]); omega, ?_⟩)
    intro l0 H1 s1 f1 e1
    refine seq_step ?_
    walk_at "rd"
    simp only [rAddS, rMulT, vS_eq]
    walk_at "rd"
    repeat (refine ⟨by (try simp only [List.length_append, List.length_cons, List.length_nil]); omega, ?_⟩)
    intro k1 H2 s2 f2 e2
    refine ⟨_, s2 _ _ e1, _, e2, small1000' (by simp), fun l1 H3 s3 f3 e3 => ?_⟩
    refine seq_step ?_
    walk_at "rd"
    simp only [rAddS, rMulT, vS_eq]
    walk_at "rd"
    repeat (refine ⟨by (try simp only [List.length_append, List.length_cons, List.length_nil, repT_len]); omega, ?_⟩)
    intro k2 H4 s4 f4 e4
    refine ⟨_, s4 _ _ e3, _, e4, small1000' (by simp), fun l2 H5 s5 f5 e5 => ?_⟩
    refine seq_step ?_
    walk_at "rd"
    simp only [rAddS, rMulT, vS_eq]
    walk_at "rd"
    repeat (refine ⟨by (try simp only [List.length_append, List.length_cons, List.length_nil, repT_len]); omega, ?_⟩)
    intro pt H6 s6 f6 e6 k3 H7 s7 f7 e7
    refine ⟨_, s7 _ _ (s6 _ _ e5), _, e7, small1000' (by simp), fun l3 H8 s8 f8 e8 => ?_⟩
    refine seq_step ?_
    walk_at "rd"
    simp only [rAddS, rMulT, vS_eq]
    walk_at "rd"
    repeat (refine ⟨by (try simp only [List.length_append, List.length_cons, List.length_nil, repT_len]); omega, ?_⟩)
    intro k4 H9 s9 f9 e9
    refine ⟨_, s9 _ _ e8, _, e9, small1000' (by simp), fun l4 H10 s10 f10 e10 => ?_⟩
    refine seq_step ?_
    walk_at "rd"
    have mc := fm_pos (c := c.fdiv 32) (m := 9) (by decide)
    refine ⟨by omega, by omega, ?_⟩
    obtain ⟨k, hk⟩ : ∃ k, (2 + (c.fdiv 32).fmod 9).toNat = k := ⟨_, rfl⟩
    rw [hk]
    have k2' : 2 ≤ k := by omega
    have k10 : k ≤ 10 := by omega
    refine seq_step ?_
    walk_at "rd"
    simp only [rAddS, rMulT, vS_eq]
    walk_at "rd"
    refine ⟨n, hA.symm, by omega, k, rfl, by omega, ?_⟩
    have hnk : n * k < 10 ^ 60 := Nat.lt_of_le_of_lt (Nat.mul_le_mul (Nat.le_of_lt n20) k10) (by decide)
    have hmk : m * k < 10 ^ 60 := Nat.lt_of_le_of_lt (Nat.mul_le_mul m20 k10) (by decide)
    have lnk := num60 hnk
    have lmk := num60 hmk
    have p1 : 0 ≤ (n : Int) * (k : Int) ∧ (n : Int) * (k : Int) < 1000000000000000000000000000000000000000000000000000000000000 := by rw [← Int.natCast_mul]; omega
    have p2 : 0 ≤ (m : Int) * (k : Int) ∧ (m : Int) * (k : Int) < 1000000000000000000000000000000000000000000000000000000000000 := by rw [← Int.natCast_mul]; omega
    have q1 : ((n : Int) * (k : Int)).toNat = n * k := by rw [← Int.natCast_mul]; exact Int.toNat_natCast _
    have q2 : ((m : Int) * (k : Int)).toNat = m * k := by rw [← Int.natCast_mul]; exact Int.toNat_natCast _
    refine ⟨(sz60 (by omega)).mulW (sz60 (by omega)) (by omega), p1.1, p1.2, by rw [q1]; omega, m, hB.symm, by omega, k, rfl, by omega, (sz60 (by omega)).mulW (sz60 (by omega)) (by omega), p2.1, p2.2, by rw [q1, q2, List.length_append]; simp only [List.length_cons, List.length_nil]; omega, ?_⟩
    rw [q1, q2]
    intro pa H11 s11 f11 e11 k5 H12 s12 f12 e12
    refine ⟨_, s12 _ _ (s11 _ _ e10), _, e12, small1000' (by simp), fun l5 H13 s13 f13 e13 => ?_⟩
    have e13 : H13 l5 = some (.lst (wrongL A B (TL.numL (n * k)) (TL.numL (m * k)) pt pa)) := e13
    walk_at "rd"
    refine ⟨_, .inl (.of e13), ?_⟩
    have sT : Same H6 H13 := s7.trans (s8.trans (s9.trans (s10.trans (s11.trans (s12.trans s13)))))
    have sA : Same H11 H13 := s12.trans s13
    have sH : Same H H13 := s1.trans (s2.trans (s3.trans (s4.trans (s5.trans (s6.trans sT)))))
    have hbad := wrong_bad (K := K) (H := H13) hA hB n20 m20 m2 k2' k10 (sT _ _ e6) (sA _ _ e11)
    have hlen : (wrongL A B (TL.numL (n * k)) (TL.numL (m * k)) pt pa).length = 35 := rfl
    generalize wrongL A B (TL.numL (n * k)) (TL.numL (m * k)) pt pa = L at *
    rw [hlen]
    have mi := fm_pos (c := c) (m := ((35 : Nat) : Int)) (by decide)
    refine ⟨by decide, ?_⟩
    have hi : (c.fmod ((35 : Nat) : Int)).toNat < L.length := by omega
    refine ix_l (.of e13) mi.1 (List.getElem?_eq_getElem hi) ?_
    exact q _ _ sH (hbad _ (List.getElem_mem hi))
def spLaw (K : PySem.W.Frag) : Sp := fun vs H Q _ => ∃ (a : Addr) (ns : List Int), vs = [.ref a] ∧ SqL K H a (ns.map V.int) ∧ ns.length ≤ 63 ∧ ∀ H', Q (.bl true) H'
theorem ok_law (T : Top K mg) : FnOk P w K mg base CX0 5 T.f_law T.d_law ["_law_script"] (spLaw K) := by
  refine T.F_law.ok sc_law (fun vs H Q E h => ?_) (fun cdv A outer s H vs Q E hr h => ?_)
  · obtain ⟨a, ns, rfl, _⟩ := h; rfl
  · obtain ⟨a, ns, rfl, hS, hlen, q⟩ := h
    refine ⟨_, (pss_cons (ps_set (i := 1) sc_law.nd rfl (.inl rfl) (pe_call (ok_l_size T) (hr.mono (by decide)) rfl T.g_l_size T.F_l_size.kp T.b_l_size .nil pass0 (pa_cons (pe_call (ok_l_cell_at T) (hr.mono (by decide)) rfl T.g_l_cell_at T.F_l_cell_at.kp T.b_l_cell_at .nil pass0 (pa_cons (pv 0) (pa_cons pe_int pa_nil))) pa_nil)))
      (pss_cons (ps_set (i := 2) sc_law.nd rfl (.inl rfl) (pe_op op_add pe_int (pe_op op_modN (pe_call (ok_l_size T) (hr.mono (by decide)) rfl T.g_l_size T.F_l_size.kp T.b_l_size .nil pass0 (pa_cons (pe_call (ok_l_cell_at T) (hr.mono (by decide)) rfl T.g_l_cell_at T.F_l_cell_at.kp T.b_l_cell_at .nil pass0 (pa_cons (pv 0) (pa_cons pe_int pa_nil))) pa_nil)) (pe_op op_sub (pe_op op_pow pe_int pe_int) pe_int))))
      (pss_cons (ps_if (pt_cmpR op_eq (pe_op op_modN (pe_call (ok_l_cell_at T) (hr.mono (by decide)) rfl T.g_l_cell_at T.F_l_cell_at.kp T.b_l_cell_at .nil pass0 (pa_cons (pv 0) (pa_cons pe_int pa_nil))) pe_int) pe_int (nomark _)) (pss_one (ps_set (i := 2) sc_law.nd rfl (.inl rfl) pe_int)) pss_nil)
      (pss_cons (ps_set (i := 3) sc_law.nd rfl (.inl rfl) (pe_call (ok_l_divisor T) (hr.mono (by decide)) rfl T.g_l_divisor T.F_l_divisor.kp T.b_l_divisor .nil pass0 (pa_cons (pv 1) (pa_cons (pv 2) pa_nil))))
      (pss_cons (ps_set (i := 4) sc_law.nd rfl (.inl rfl) (pe_tupN (pa_cons (pe_op op_fdivZ (pv 1) (pv 3)) (pa_cons (pe_op op_fdivZ (pv 2) (pv 3)) pa_nil))))
      (pss_cons (ps_set (i := 5) sc_law.nd rfl (.inl rfl) (pe_callTy call_strN (by rfl) T.m_str (by decide +kernel) (pa_cons (pe_ix (ix_tupA (K := K) rfl) (pv 4) pe_int (fun _ _ => rfl)) pa_nil)))
      (pss_cons (ps_if (pt_cmpR op_gt (pe_ix (ix_tupA (K := K) rfl) (pv 4) pe_int (fun _ _ => rfl)) pe_int (nomark _)) (pss_one (ps_set (i := 5) sc_law.nd rfl (.inl rfl) (pe_op op_addS (pe_op op_addS (pv 5) pe_str) (pe_callTy call_strN (by rfl) T.m_str (by decide +kernel) (pa_cons (pe_ix (ix_tupA (K := K) rfl) (pv 4) pe_int (fun _ _ => rfl)) pa_nil))))) pss_nil)
      (pss_cons (ps_if (pt_cmpR op_ne (pe_call (ok_show_fraction T) (hr.mono (by decide)) rfl T.g_show_fraction T.F_show_fraction.kp T.b_show_fraction .nil pass0 (pa_cons (pv 4) pa_nil)) (pv 5) (nomark _)) (pss_one (ps_ret pe_bl)) pss_nil)
      (pss_cons (ps_set (i := 6) sc_law.nd rfl (.inl rfl) (pe_call (ok_read_fraction T) (hr.mono (by decide)) rfl T.g_read_fraction T.F_read_fraction.kp T.b_read_fraction .nil passL (pa_cons (pv 5) pa_nil)))
      (pss_cons (ps_if (PW.pt (pw_or (pt_not (pt_val (pe_callB (call_isiA (K := K) rfl) (by rfl) T.m_isinstance (by decide +kernel) (pa_cons (pv 6) (pa_cons (pe_bltn (v := .ty "tuple") (u := .type "tuple") (by rfl) T.m_tuple (by decide +kernel) rfl) pa_nil))))) (pw_or (pt_cmpR (op_neD hr.units) (pv 6) (pv 4) (nomark _)) (pw_or (pt_val (pe_callB (call_isiA (K := K) rfl) (by rfl) T.m_isinstance (by decide +kernel) (pa_cons (pe_ix (ix_tupA (K := K) rfl) (pv 6) pe_int (fun _ _ => rfl)) (pa_cons (pe_bltn (v := .ty "bool") (u := .type "bool") (by rfl) T.m_bool (by decide +kernel) rfl) pa_nil)))) (pw_or1 (pt_val (pe_callB (call_isiA (K := K) rfl) (by rfl) T.m_isinstance (by decide +kernel) (pa_cons (pe_ix (ix_tupA (K := K) rfl) (pv 6) pe_int (fun _ _ => rfl)) (pa_cons (pe_bltn (v := .ty "bool") (u := .type "bool") (by rfl) T.m_bool (by decide +kernel) rfl) pa_nil))))))))) (pss_one (ps_ret pe_bl)) pss_nil)
      (pss_cons (ps_for PassesOwn.never rfl (pi_range1 (by rfl) T.m_range (pa_cons pe_int pa_nil)) (pg_name (i := 7) sc_law.nd rfl (.inl rfl)) (pss_cons (ps_set (i := 8) sc_law.nd rfl (.inl rfl) (pe_op op_add (pe_op op_fdivZ (pe_call (ok_l_cell_at T) (hr.mono (by decide)) rfl T.g_l_cell_at T.F_l_cell_at.kp T.b_l_cell_at .nil pass0 (pa_cons (pv 0) (pa_cons pe_int pa_nil))) (pe_op op_add (pv 7) pe_int)) (pe_op op_mulW pe_int (pv 7))))
      (pss_one (ps_if (pt_not (pt_val (pe_call (ok_l_refused T) (hr.mono (by decide)) rfl T.g_l_refused T.F_l_refused.kp T.b_l_refused .nil pass0 (pa_cons (pe_call (ok_l_wrong T) (hr.mono (by decide)) rfl T.g_l_wrong T.F_l_wrong.kp T.b_l_wrong .nil pass0 (pa_cons (pv 8) (pa_cons (pe_call (ok_l_cell_at T) (hr.mono (by decide)) rfl T.g_l_cell_at T.F_l_cell_at.kp T.b_l_cell_at .nil pass0 (pa_cons (pv 0) (pa_cons (pe_op op_add pe_int (pv 7)) pa_nil))) (pa_cons (pe_call (ok_l_cell_at T) (hr.mono (by decide)) rfl T.g_l_cell_at T.F_l_cell_at.kp T.b_l_cell_at .nil pass0 (pa_cons (pv 0) (pa_cons pe_int pa_nil))) pa_nil)))) pa_nil)))) (pss_one (ps_ret pe_bl)) pss_nil))))
      (pss_one (ps_ret (pe_cmpR (op_eqD hr.units) (pe_call (ok_read_fraction T) (hr.mono (by decide)) rfl T.g_read_fraction T.F_read_fraction.kp T.b_read_fraction .nil passL (pa_cons (pv 5) pa_nil)) (pv 4) (nomark _))))))))))))))), ?_⟩
    refine seq_step ?_
    walk_at "rd"
    refine ⟨a, ns, 0, rfl, hS, by decide, ?_⟩
    walk_at "rd"
    refine ⟨_, rfl, fun n hn => ?_⟩
    refine seq_step ?_
    walk_at "rd"
    refine ⟨a, ns, 1, rfl, hS, by decide, ?_⟩
    walk_at "rd"
    refine ⟨_, rfl, fun m0 hm0 => ?_⟩
    walk_at "rd"
    obtain ⟨b0, hb0, b01, b06⟩ : ∃ b0 : Nat, (1 : Int) + (m0 : Int).fmod 999999999999999999999999999999999999999999999999999999999999 = (b0 : Int) ∧ 1 ≤ b0 ∧ b0 < 10 ^ 60 := by
      have mm := fm_pos (c := (m0 : Int)) (m := 999999999999999999999999999999999999999999999999999999999999) (by decide)
      exact ⟨((1 : Int) + (m0 : Int).fmod 999999999999999999999999999999999999999999999999999999999999).toNat, by omega, by omega, by omega⟩
    rw [hb0]
    refine join_if (fun σ' H' => ∃ b : Nat, σ' = [some (.ref a), some (.int n), some (.int b), none, none, none, none, none, none] ∧ 1 ≤ b ∧ b < 10 ^ 60 ∧ H' = H) (fun σ' H' h => ?_) (fun j => ?_)
    rotate_left
    · refine seq_step ?_
      walk_at "rd"
      refine ⟨a, ns, 2, rfl, hS, by decide, ?_⟩
      walk_at "rd"
      refine ite_d (fun _ => ?_) (fun _ => j _ _ ⟨b0, rfl, b01, b06, rfl⟩)
      exact j _ _ ⟨1, rfl, by omega, by decide, rfl⟩
    obtain ⟨b, rfl, b1, b60, rfl⟩ := h
    refine seq_step ?_
    walk_at "rd"
    refine ⟨_, _, rfl, ?_⟩
    have g := gcd_pos_right (a := (n : Int)) (b := (b : Int)) (by omega)
    have gs := gcd_le_size (a := (n : Int)) (b := (b : Int)) (by omega)
    have dv : DivOk ((Int.gcd n b : Nat) : Int) := .of (by omega) (Sz.le (by omega) (sz60 b60)) (by omega)
    have R := (low_of (a := (n : Int)) (b := (b : Int)) (by omega)).red (by omega)
    refine seq_step ?_
    walk_at "rd"
    refine ⟨dv, dv, fun pv H1 s1 f1 e1 => ?_⟩
    obtain ⟨t, ht⟩ : ∃ t : Nat, (n : Int).fdiv (Int.gcd n b : Nat) = t := Int.eq_ofNat_of_zero_le (by rw [Int.fdiv_eq_ediv_of_nonneg _ (by omega)]; exact Int.ediv_nonneg (by omega) (by omega))
    obtain ⟨u, hu⟩ : ∃ u : Nat, (b : Int).fdiv (Int.gcd n b : Nat) = u := Int.eq_ofNat_of_zero_le (by rw [Int.fdiv_eq_ediv_of_nonneg _ (by omega)]; exact Int.ediv_nonneg (by omega) (by omega))
    rw [ht, hu] at R e1
    have t60 : t < 10 ^ 60 := by have := R.tle; omega
    have u60 : u < 10 ^ 60 := by have := R.ule; omega
    have u1 : 1 ≤ u := by have := R.pos; omega
    have gg : Nat.gcd t u = 1 := R.one
    have hf := frD_sh t60 u60 u1 gg
    have lf := shF_len t60 u60
    have lt := num60 t60
    have lu := num60 u60
    clear R dv g gs
    refine seq_step ?_
    walk_at "ix"
    walk_at "rd"
    refine ⟨by omega, by omega, ?_⟩
    rw [Int.toNat_natCast]
    refine join_if (fun σ' H' => σ' = [some (.ref a), some (.int n), some (.int b), some (.int (Int.gcd n b : Nat)), some (.ref pv), some (.str (SX.S (shF t u))), none, none, none] ∧ H' = H1) (fun σ' H' h => ?_) (fun j => ?_)
    rotate_left
    · refine seq_step ?_
      walk_at "ix"
      walk_at "rd"
      unfold shF at j
      refine ite_d (fun c => ?_) (fun c => ?_)
      · rw [if_neg (by omega)] at j
        simp only [lit_slash, rAddS, vS_eq]
        walk_at "rd"
        refine ⟨by omega, ?_⟩
        walk_at "ix"
        walk_at "rd"
        refine ⟨by omega, by omega, ?_⟩
        simp only [vS_eq, Int.toNat_natCast]
        walk_at "rd"
        refine ⟨by rw [List.length_append]; simp only [List.length_cons, List.length_nil]; omega, ?_⟩
        refine j _ _ ⟨?_, rfl⟩
        rw [List.append_assoc]
        rfl
      · rw [if_pos (by omega)] at j
        exact j _ _ ⟨rfl, rfl⟩
    obtain ⟨rfl, rfl⟩ := h
    refine seq_step ?_
    walk_at "rd"
    refine ⟨pv, t, u, rfl, e1, t60, u60, ?_⟩
    walk_at "rd"
    refine seq_step ?_
    walk_at "rd"
    refine .inl ⟨_, t, u, rfl, by omega, hf, fun pf H2 s2 e2 => ?_⟩
    walk_at "rd"
    refine seq_step ?_
    walk_at "isT"
    refine ⟨_, _, .tup (sqt e2) (.cons (.int _) (.cons (.int _) .nil)), .tup (sqt (s2 _ _ e1)) (.cons (.int _) (.cons (.int _) .nil)), rfl, rfl, ?_⟩
    rw [SeqAt.eqv_refl _ rfl]
    walk_at "rd"
    walk_at "ix"
    walk_at "isF"
    walk_at "ix"
    walk_at "isF"
    refine seq_step ?_
    refine ⟨3, rfl, by decide, by decide, ?_⟩
    have hS2 := s2.seq (s1.seq hS)
    refine for_range (lo := 0) (n := 3) (fun i σ' H' => (∃ v7 v8, σ' = [some (.ref a), some (.int n), some (.int b), some (.int (Int.gcd n b : Nat)), some (.ref pv), some (.str (SX.S (shF t u))), some (.ref pf), v7, v8]) ∧ Same H2 H') ⟨⟨none, none, rfl⟩, Same.refl _⟩ ?_ ?_
    · rintro i σ' H4 hi ⟨⟨v7, v8, rfl⟩, s4⟩
      have hS4 := s4.seq hS2
      walk_at "rd"
      refine seq_step ?_
      walk_at "rd"
      refine ⟨a, ns, 2, rfl, hS4, by decide, ?_⟩
      walk_at "rd"
      refine ⟨.of (n := 8) (by omega) (by show ((i : Int) + 1).natAbs < 2 ^ 8; omega) (by decide), Sz.mulW (a := 8) (b := 8) (by show (7 : Int).natAbs < 2 ^ 8; decide) (by show (i : Int).natAbs < 2 ^ 8; omega) (by decide), ?_⟩
      refine ⟨a, ns, _, rfl, hS4, by omega, ?_⟩
      refine ⟨a, ns, 4, rfl, hS4, by decide, ?_⟩
      refine ⟨_, _, _, rfl, fun v H5 s5 hb => ?_⟩
      refine ⟨v, rfl, hb, fun H6 s6 => ?_⟩
      walk_at "rd"
      exact ⟨⟨_, rfl⟩, s4.trans (s5.trans s6)⟩
    · rintro σ' H4 ⟨⟨v7, v8, rfl⟩, s4⟩
      walk_at "rd"
      refine .inl ⟨_, t, u, rfl, by omega, hf, fun pf H5 s5 e5 => ?_⟩
      walk_at "rd"
      refine ⟨_, _, .tup (sqt e5) (.cons (.int _) (.cons (.int _) .nil)), .tup (sqt (s5 _ _ (s4 _ _ (s2 _ _ e1)))) (.cons (.int _) (.cons (.int _) .nil)), rfl, rfl, ?_⟩
      rw [SeqAt.eqv_refl _ rfl]
      exact q _
end
/-! ### what the top has left -/
theorem all_mk {P : Program} {w : World} {K : PySem.W.Frag} {h : Heap} {mg : Str → Option Value} {fa : Addr} (X : K.In h) (G : h.Ns mainGlobals mg) (hfa : mg "law" = some (.ref fa))
    {f0 : Addr} {od0 an0 : Option Addr} {sl0 : Array (Option Value)} {oc0 kV0 dc0 pm0 cd0 ct0 : Value}
    {f1 : Addr} {od1 an1 : Option Addr} {sl1 : Array (Option Value)} {oc1 kV1 dc1 pm1 cd1 ct1 : Value}
    {f2 : Addr} {od2 an2 : Option Addr} {sl2 : Array (Option Value)} {oc2 kV2 dc2 pm2 cd2 ct2 : Value}
    {f3 : Addr} {od3 an3 : Option Addr} {sl3 : Array (Option Value)} {oc3 kV3 dc3 pm3 cd3 ct3 : Value}
    {t3 : Addr} {o3 : Obj} {n3 : Nat}
    {tk3 : Tok}
    {f4 : Addr} {od4 an4 : Option Addr} {sl4 : Array (Option Value)} {oc4 kV4 dc4 pm4 cd4 ct4 : Value}
    {f5 : Addr} {od5 an5 : Option Addr} {sl5 : Array (Option Value)} {oc5 kV5 dc5 pm5 cd5 ct5 : Value}
    {f6 : Addr} {od6 an6 : Option Addr} {sl6 : Array (Option Value)} {oc6 kV6 dc6 pm6 cd6 ct6 : Value}
    {f7 : Addr} {od7 an7 : Option Addr} {sl7 : Array (Option Value)} {oc7 kV7 dc7 pm7 cd7 ct7 : Value}
    {f8 : Addr} {od8 an8 : Option Addr} {sl8 : Array (Option Value)} {oc8 kV8 dc8 pm8 cd8 ct8 : Value}
    {f9 : Addr} {od9 an9 : Option Addr} {sl9 : Array (Option Value)} {oc9 kV9 dc9 pm9 cd9 ct9 : Value}
    {f10 : Addr} {od10 an10 : Option Addr} {sl10 : Array (Option Value)} {oc10 kV10 dc10 pm10 cd10 ct10 : Value}
    {f11 : Addr} {od11 an11 : Option Addr} {sl11 : Array (Option Value)} {oc11 kV11 dc11 pm11 cd11 ct11 : Value}
    {f12 : Addr} {od12 an12 : Option Addr} {sl12 : Array (Option Value)} {oc12 kV12 dc12 pm12 cd12 ct12 : Value}
    {CWalkError : Addr}
    {CNoNumber : Addr}
    {CBadMachine : Addr}
    {CTooMany : Addr}
    {CNoRun : Addr}
    {CNoMark : Addr}
    {CNoRoad : Addr}
    {CNoRoom : Addr}
    {CNoText : Addr}
    {CNoRow : Addr}
    {uFIGURES : Tok}
    {uMOST_FIGURES : Tok}
    (a0 : PySem.W.nsIn K mainGlobals "is_whole" = some (some (.ref f0)))
    (l0 : K.lookup f0 = some ⟨oc0, od0, .func (PySem.W.fnOf "is_whole" "is_whole" (defArgs s_is_whole) (defBody s_is_whole) (defScope s_is_whole) .none kV0 dc0 pm0 an0 cd0 ct0), sl0⟩)
    (c0 : PySem.W.codeIn K cd0 "is_whole" = true)
    (k0 : PySem.W.keepIn K (.ref f0) = true)
    (a1 : PySem.W.nsIn K mainGlobals "divisor" = some (some (.ref f1)))
    (l1 : K.lookup f1 = some ⟨oc1, od1, .func (PySem.W.fnOf "divisor" "divisor" (defArgs s_divisor) (defBody s_divisor) (defScope s_divisor) .none kV1 dc1 pm1 an1 cd1 ct1), sl1⟩)
    (c1 : PySem.W.codeIn K cd1 "divisor" = true)
    (k1 : PySem.W.keepIn K (.ref f1) = true)
    (a2 : PySem.W.nsIn K mainGlobals "is_fraction" = some (some (.ref f2)))
    (l2 : K.lookup f2 = some ⟨oc2, od2, .func (PySem.W.fnOf "is_fraction" "is_fraction" (defArgs s_is_fraction) (defBody s_is_fraction) (defScope s_is_fraction) .none kV2 dc2 pm2 an2 cd2 ct2), sl2⟩)
    (c2 : PySem.W.codeIn K cd2 "is_fraction" = true)
    (k2 : PySem.W.keepIn K (.ref f2) = true)
    (a3 : PySem.W.nsIn K mainGlobals "fraction" = some (some (.ref f3)))
    (l3 : K.lookup f3 = some ⟨oc3, od3, .func (PySem.W.fnOf "fraction" "fraction" (defArgs s_fraction) (defBody s_fraction) (defScope s_fraction) (.ref t3) kV3 dc3 pm3 an3 cd3 ct3), sl3⟩)
    (c3 : PySem.W.codeIn K cd3 "fraction" = true)
    (k3 : PySem.W.keepIn K (.ref f3) = true)
    (lt3 : K.lookup t3 = some o3)
    (ld3 : o3.data = .seq ([Value.int 1 tk3] : List Value).toArray n3)
    (a4 : PySem.W.nsIn K mainGlobals "read_number" = some (some (.ref f4)))
    (l4 : K.lookup f4 = some ⟨oc4, od4, .func (PySem.W.fnOf "read_number" "read_number" (defArgs s_read_number) (defBody s_read_number) (defScope s_read_number) .none kV4 dc4 pm4 an4 cd4 ct4), sl4⟩)
    (c4 : PySem.W.codeIn K cd4 "read_number" = true)
    (k4 : PySem.W.keepIn K (.ref f4) = true)
    (a5 : PySem.W.nsIn K mainGlobals "show_fraction" = some (some (.ref f5)))
    (l5 : K.lookup f5 = some ⟨oc5, od5, .func (PySem.W.fnOf "show_fraction" "show_fraction" (defArgs s_show_fraction) (defBody s_show_fraction) (defScope s_show_fraction) .none kV5 dc5 pm5 an5 cd5 ct5), sl5⟩)
    (c5 : PySem.W.codeIn K cd5 "show_fraction" = true)
    (k5 : PySem.W.keepIn K (.ref f5) = true)
    (a6 : PySem.W.nsIn K mainGlobals "read_fraction" = some (some (.ref f6)))
    (l6 : K.lookup f6 = some ⟨oc6, od6, .func (PySem.W.fnOf "read_fraction" "read_fraction" (defArgs s_read_fraction) (defBody s_read_fraction) (defScope s_read_fraction) .none kV6 dc6 pm6 an6 cd6 ct6), sl6⟩)
    (c6 : PySem.W.codeIn K cd6 "read_fraction" = true)
    (k6 : PySem.W.keepIn K (.ref f6) = true)
    (a7 : PySem.W.nsIn K mainGlobals "_law_cell_at" = some (some (.ref f7)))
    (l7 : K.lookup f7 = some ⟨oc7, od7, .func (PySem.W.fnOf "_law_cell_at" "_law_cell_at" (defArgs s_l_cell_at) (defBody s_l_cell_at) (defScope s_l_cell_at) .none kV7 dc7 pm7 an7 cd7 ct7), sl7⟩)
    (c7 : PySem.W.codeIn K cd7 "_law_cell_at" = true)
    (k7 : PySem.W.keepIn K (.ref f7) = true)
    (a8 : PySem.W.nsIn K mainGlobals "_law_divisor" = some (some (.ref f8)))
    (l8 : K.lookup f8 = some ⟨oc8, od8, .func (PySem.W.fnOf "_law_divisor" "_law_divisor" (defArgs s_l_divisor) (defBody s_l_divisor) (defScope s_l_divisor) .none kV8 dc8 pm8 an8 cd8 ct8), sl8⟩)
    (c8 : PySem.W.codeIn K cd8 "_law_divisor" = true)
    (k8 : PySem.W.keepIn K (.ref f8) = true)
    (a9 : PySem.W.nsIn K mainGlobals "_law_size" = some (some (.ref f9)))
    (l9 : K.lookup f9 = some ⟨oc9, od9, .func (PySem.W.fnOf "_law_size" "_law_size" (defArgs s_l_size) (defBody s_l_size) (defScope s_l_size) .none kV9 dc9 pm9 an9 cd9 ct9), sl9⟩)
    (c9 : PySem.W.codeIn K cd9 "_law_size" = true)
    (k9 : PySem.W.keepIn K (.ref f9) = true)
    (a10 : PySem.W.nsIn K mainGlobals "_law_refused" = some (some (.ref f10)))
    (l10 : K.lookup f10 = some ⟨oc10, od10, .func (PySem.W.fnOf "_law_refused" "_law_refused" (defArgs s_l_refused) (defBody s_l_refused) (defScope s_l_refused) .none kV10 dc10 pm10 an10 cd10 ct10), sl10⟩)
    (c10 : PySem.W.codeIn K cd10 "_law_refused" = true)
    (k10 : PySem.W.keepIn K (.ref f10) = true)
    (a11 : PySem.W.nsIn K mainGlobals "_law_wrong" = some (some (.ref f11)))
    (l11 : K.lookup f11 = some ⟨oc11, od11, .func (PySem.W.fnOf "_law_wrong" "_law_wrong" (defArgs s_l_wrong) (defBody s_l_wrong) (defScope s_l_wrong) .none kV11 dc11 pm11 an11 cd11 ct11), sl11⟩)
    (c11 : PySem.W.codeIn K cd11 "_law_wrong" = true)
    (k11 : PySem.W.keepIn K (.ref f11) = true)
    (a12 : PySem.W.nsIn K mainGlobals "law" = some (some (.ref f12)))
    (l12 : K.lookup f12 = some ⟨oc12, od12, .func (PySem.W.fnOf "law" "law" (defArgs s_law) (defBody s_law) (defScope s_law) .none kV12 dc12 pm12 an12 cd12 ct12), sl12⟩)
    (c12 : PySem.W.codeIn K cd12 "law" = true)
    (k12 : PySem.W.keepIn K (.ref f12) = true)
    (gWalkError : PySem.W.nsIn K mainGlobals "WalkError" = some (some (.ref CWalkError)))
    (kWalkError : PySem.W.keepIn K (.ref CWalkError) = true)
    (bWalkError : PySem.W.subIn K (.ref CWalkError) (.type "BaseException") = some true)
    (tWalkError : PySem.W.typeIn K (.ref CWalkError) = some (.type "type"))
    (iWalkError : PySem.W.isClsIn K CWalkError = true)
    (gNoNumber : PySem.W.nsIn K mainGlobals "NoNumber" = some (some (.ref CNoNumber)))
    (xNoNumber : PySem.W.excIn K CNoNumber [.type "ValueError", .type "Exception", .type "BaseException", .type "object"] "ValueError.__new__" = true)
    (kNoNumber : PySem.W.keepIn K (.ref CNoNumber) = true)
    (bNoNumber : PySem.W.subIn K (.ref CNoNumber) (.type "BaseException") = some true)
    (tNoNumber : PySem.W.typeIn K (.ref CNoNumber) = some (.type "type"))
    (iNoNumber : PySem.W.isClsIn K CNoNumber = true)
    (gBadMachine : PySem.W.nsIn K mainGlobals "BadMachine" = some (some (.ref CBadMachine)))
    (kBadMachine : PySem.W.keepIn K (.ref CBadMachine) = true)
    (bBadMachine : PySem.W.subIn K (.ref CBadMachine) (.type "BaseException") = some true)
    (tBadMachine : PySem.W.typeIn K (.ref CBadMachine) = some (.type "type"))
    (iBadMachine : PySem.W.isClsIn K CBadMachine = true)
    (gTooMany : PySem.W.nsIn K mainGlobals "TooMany" = some (some (.ref CTooMany)))
    (kTooMany : PySem.W.keepIn K (.ref CTooMany) = true)
    (bTooMany : PySem.W.subIn K (.ref CTooMany) (.type "BaseException") = some true)
    (tTooMany : PySem.W.typeIn K (.ref CTooMany) = some (.type "type"))
    (iTooMany : PySem.W.isClsIn K CTooMany = true)
    (gNoRun : PySem.W.nsIn K mainGlobals "NoRun" = some (some (.ref CNoRun)))
    (kNoRun : PySem.W.keepIn K (.ref CNoRun) = true)
    (bNoRun : PySem.W.subIn K (.ref CNoRun) (.type "BaseException") = some true)
    (tNoRun : PySem.W.typeIn K (.ref CNoRun) = some (.type "type"))
    (iNoRun : PySem.W.isClsIn K CNoRun = true)
    (gNoMark : PySem.W.nsIn K mainGlobals "NoMark" = some (some (.ref CNoMark)))
    (kNoMark : PySem.W.keepIn K (.ref CNoMark) = true)
    (bNoMark : PySem.W.subIn K (.ref CNoMark) (.type "BaseException") = some true)
    (tNoMark : PySem.W.typeIn K (.ref CNoMark) = some (.type "type"))
    (iNoMark : PySem.W.isClsIn K CNoMark = true)
    (gNoRoad : PySem.W.nsIn K mainGlobals "NoRoad" = some (some (.ref CNoRoad)))
    (kNoRoad : PySem.W.keepIn K (.ref CNoRoad) = true)
    (bNoRoad : PySem.W.subIn K (.ref CNoRoad) (.type "BaseException") = some true)
    (tNoRoad : PySem.W.typeIn K (.ref CNoRoad) = some (.type "type"))
    (iNoRoad : PySem.W.isClsIn K CNoRoad = true)
    (gNoRoom : PySem.W.nsIn K mainGlobals "NoRoom" = some (some (.ref CNoRoom)))
    (kNoRoom : PySem.W.keepIn K (.ref CNoRoom) = true)
    (bNoRoom : PySem.W.subIn K (.ref CNoRoom) (.type "BaseException") = some true)
    (tNoRoom : PySem.W.typeIn K (.ref CNoRoom) = some (.type "type"))
    (iNoRoom : PySem.W.isClsIn K CNoRoom = true)
    (gNoText : PySem.W.nsIn K mainGlobals "NoText" = some (some (.ref CNoText)))
    (xNoText : PySem.W.excIn K CNoText [.type "ValueError", .type "Exception", .type "BaseException", .type "object"] "ValueError.__new__" = true)
    (kNoText : PySem.W.keepIn K (.ref CNoText) = true)
    (bNoText : PySem.W.subIn K (.ref CNoText) (.type "BaseException") = some true)
    (tNoText : PySem.W.typeIn K (.ref CNoText) = some (.type "type"))
    (iNoText : PySem.W.isClsIn K CNoText = true)
    (gNoRow : PySem.W.nsIn K mainGlobals "NoRow" = some (some (.ref CNoRow)))
    (kNoRow : PySem.W.keepIn K (.ref CNoRow) = true)
    (bNoRow : PySem.W.subIn K (.ref CNoRow) (.type "BaseException") = some true)
    (tNoRow : PySem.W.typeIn K (.ref CNoRow) = some (.type "type"))
    (iNoRow : PySem.W.isClsIn K CNoRow = true)
    (gFIGURES : PySem.W.nsIn K mainGlobals "FIGURES" = some (some (.str "0123456789" uFIGURES)))
    (gMOST_FIGURES : PySem.W.nsIn K mainGlobals "MOST_FIGURES" = some (some (.int 60 uMOST_FIGURES)))
    (zValueError : PySem.W.nsIn K mainGlobals "ValueError" = some none)
    (zabs : PySem.W.nsIn K mainGlobals "abs" = some none)
    (zbool : PySem.W.nsIn K mainGlobals "bool" = some none)
    (zint : PySem.W.nsIn K mainGlobals "int" = some none)
    (zisinstance : PySem.W.nsIn K mainGlobals "isinstance" = some none)
    (zlen : PySem.W.nsIn K mainGlobals "len" = some none)
    (zrange : PySem.W.nsIn K mainGlobals "range" = some none)
    (zstr : PySem.W.nsIn K mainGlobals "str" = some none)
    (ztuple : PySem.W.nsIn K mainGlobals "tuple" = some none)
    (hhd_WalkError : PySem.W.hasDictIn K CWalkError = true)
    (hs_NoText_WalkError : PySem.W.subIn K (.ref CNoText) (.ref CWalkError) = some true)
    (he1_NoText : PySem.W.findIn K (.ref CNoText) "__getattribute__" = some (some (.builtin "BaseException.__getattribute__")))
    (he2_NoText : PySem.W.findIn K (.ref CNoText) "__getattr__" = some none)
    (he4_NoText : PySem.W.hasDictIn K CNoText = true)
    (he5_NoText : PySem.W.findIn K (.ref CNoText) "__class__" = some (some (.builtin "object.__class__")))
    (he6_ : PySem.W.specialIn K (.builtin "object.__class__") "__get__" = some (some (.builtin "getset_descriptor.__get__")))
    (he7_ : PySem.W.takesIn K (.builtin "object.__class__") = some true)
    (he8_NoText : PySem.W.mroIn K CNoText (.type "object") = some true)
    (hkk_BadMachine : PySem.W.kitOne K (.ref CNoText) (.ref CBadMachine) = some false)
    (hkk_NoMark : PySem.W.kitOne K (.ref CNoText) (.ref CNoMark) = some false)
    (hkk_NoNumber : PySem.W.kitOne K (.ref CNoText) (.ref CNoNumber) = some false)
    (hkk_NoRoad : PySem.W.kitOne K (.ref CNoText) (.ref CNoRoad) = some false)
    (hkk_NoRoom : PySem.W.kitOne K (.ref CNoText) (.ref CNoRoom) = some false)
    (hkk_NoRow : PySem.W.kitOne K (.ref CNoText) (.ref CNoRow) = some false)
    (hkk_NoRun : PySem.W.kitOne K (.ref CNoText) (.ref CNoRun) = some false)
    (hkk_TooMany : PySem.W.kitOne K (.ref CNoText) (.ref CTooMany) = some false)
    (hkk_NoText : PySem.W.kitOne K (.ref CNoText) (.ref CNoText) = some true)
    (hkk_VE : PySem.W.kitOne K (.ref CNoText) (.type "ValueError") = some true) :
    ∃ fd : FuncData, (∀ (s : Shared) (v : Value), BindsTo s fd ⟨[v], []⟩ [("_law_script", v)]) ∧ ∀ base : Heap, K.In base → base.Ns mainGlobals mg → FnOk P w K mg base CX0 5 fa fd ["_law_script"] (spLaw K) := by
  have e := hfa.symm.trans (PySem.W.mg_of X G a12)
  cases e
  have F3 := funD_mk (st := s_fraction) (dvs := [.int 1]) l3 c3 k3 lt3 ld3 (.cons ⟨_, rfl⟩ .nil) (by simp)
  obtain ⟨dz3, vz3, bz3⟩ := F3.binds1 (ps := ["top", "bottom"]) 2 1 (by simp) rfl fun _ _ _ _ _ _ _ us its h1 h2 => match us, h1, its, h2 with | [_, _], _, [_], _ => ⟨_, rfl, rfl⟩
  cases vz3
  obtain ⟨dd3, vd3, bd3⟩ := F3.binds1 (ps := ["top", "bottom"]) 1 0 (by simp) rfl fun _ _ _ _ _ _ _ us its h1 h2 => match us, h1, its, h2 with | [_], _, [_], _ => ⟨_, rfl, rfl⟩
  let T : Top K mg := {
      f_is_whole := f0,
      d_is_whole := _,
      F_is_whole := fun_mk (st := s_is_whole) l0 c0 k0,
      g_is_whole := PySem.W.mg_of X G a0,
      b_is_whole := (fun_mk (st := s_is_whole) l0 c0 k0).binds (ps := ["thing"]) fun _ _ _ _ _ _ us hl => match us, hl with | [_], _ => rfl,
      f_divisor := f1,
      d_divisor := _,
      F_divisor := fun_mk (st := s_divisor) l1 c1 k1,
      g_divisor := PySem.W.mg_of X G a1,
      b_divisor := (fun_mk (st := s_divisor) l1 c1 k1).binds (ps := ["one", "other"]) fun _ _ _ _ _ _ us hl => match us, hl with | [_, _], _ => rfl,
      f_is_fraction := f2,
      d_is_fraction := _,
      F_is_fraction := fun_mk (st := s_is_fraction) l2 c2 k2,
      g_is_fraction := PySem.W.mg_of X G a2,
      b_is_fraction := (fun_mk (st := s_is_fraction) l2 c2 k2).binds (ps := ["thing"]) fun _ _ _ _ _ _ us hl => match us, hl with | [_], _ => rfl,
      f_fraction := f3,
      d_fraction := _,
      F_fraction := F3,
      g_fraction := PySem.W.mg_of X G a3,
      b_fraction := bz3,
      dv_fraction := dd3,
      v_fraction := vd3,
      bd_fraction := bd3,
      f_read_number := f4,
      d_read_number := _,
      F_read_number := fun_mk (st := s_read_number) l4 c4 k4,
      g_read_number := PySem.W.mg_of X G a4,
      b_read_number := (fun_mk (st := s_read_number) l4 c4 k4).binds (ps := ["word"]) fun _ _ _ _ _ _ us hl => match us, hl with | [_], _ => rfl,
      f_show_fraction := f5,
      d_show_fraction := _,
      F_show_fraction := fun_mk (st := s_show_fraction) l5 c5 k5,
      g_show_fraction := PySem.W.mg_of X G a5,
      b_show_fraction := (fun_mk (st := s_show_fraction) l5 c5 k5).binds (ps := ["value"]) fun _ _ _ _ _ _ us hl => match us, hl with | [_], _ => rfl,
      f_read_fraction := f6,
      d_read_fraction := _,
      F_read_fraction := fun_mk (st := s_read_fraction) l6 c6 k6,
      g_read_fraction := PySem.W.mg_of X G a6,
      b_read_fraction := (fun_mk (st := s_read_fraction) l6 c6 k6).binds (ps := ["text"]) fun _ _ _ _ _ _ us hl => match us, hl with | [_], _ => rfl,
      f_l_cell_at := f7,
      d_l_cell_at := _,
      F_l_cell_at := fun_mk (st := s_l_cell_at) l7 c7 k7,
      g_l_cell_at := PySem.W.mg_of X G a7,
      b_l_cell_at := (fun_mk (st := s_l_cell_at) l7 c7 k7).binds (ps := ["_law_script", "_law_k"]) fun _ _ _ _ _ _ us hl => match us, hl with | [_, _], _ => rfl,
      f_l_divisor := f8,
      d_l_divisor := _,
      F_l_divisor := fun_mk (st := s_l_divisor) l8 c8 k8,
      g_l_divisor := PySem.W.mg_of X G a8,
      b_l_divisor := (fun_mk (st := s_l_divisor) l8 c8 k8).binds (ps := ["_law_one", "_law_other"]) fun _ _ _ _ _ _ us hl => match us, hl with | [_, _], _ => rfl,
      f_l_size := f9,
      d_l_size := _,
      F_l_size := fun_mk (st := s_l_size) l9 c9 k9,
      g_l_size := PySem.W.mg_of X G a9,
      b_l_size := (fun_mk (st := s_l_size) l9 c9 k9).binds (ps := ["_law_cell"]) fun _ _ _ _ _ _ us hl => match us, hl with | [_], _ => rfl,
      f_l_refused := f10,
      d_l_refused := _,
      F_l_refused := fun_mk (st := s_l_refused) l10 c10 k10,
      g_l_refused := PySem.W.mg_of X G a10,
      b_l_refused := (fun_mk (st := s_l_refused) l10 c10 k10).binds (ps := ["_law_text"]) fun _ _ _ _ _ _ us hl => match us, hl with | [_], _ => rfl,
      f_l_wrong := f11,
      d_l_wrong := _,
      F_l_wrong := fun_mk (st := s_l_wrong) l11 c11 k11,
      g_l_wrong := PySem.W.mg_of X G a11,
      b_l_wrong := (fun_mk (st := s_l_wrong) l11 c11 k11).binds (ps := ["_law_cell", "_law_one", "_law_other"]) fun _ _ _ _ _ _ us hl => match us, hl with | [_, _, _], _ => rfl,
      f_law := fa,
      d_law := _,
      F_law := fun_mk (st := s_law) l12 c12 k12,
      g_law := PySem.W.mg_of X G a12,
      b_law := (fun_mk (st := s_law) l12 c12 k12).binds (ps := ["_law_script"]) fun _ _ _ _ _ _ us hl => match us, hl with | [_], _ => rfl,
      C_WalkError := CWalkError,
      g_WalkError := PySem.W.mg_of X G gWalkError,
      k_WalkError := kWalkError,
      b_WalkError := bWalkError,
      t_WalkError := tWalkError,
      i_WalkError := iWalkError,
      C_NoNumber := CNoNumber,
      g_NoNumber := PySem.W.mg_of X G gNoNumber,
      x_NoNumber := xNoNumber,
      k_NoNumber := kNoNumber,
      b_NoNumber := bNoNumber,
      t_NoNumber := tNoNumber,
      i_NoNumber := iNoNumber,
      C_BadMachine := CBadMachine,
      g_BadMachine := PySem.W.mg_of X G gBadMachine,
      k_BadMachine := kBadMachine,
      b_BadMachine := bBadMachine,
      t_BadMachine := tBadMachine,
      i_BadMachine := iBadMachine,
      C_TooMany := CTooMany,
      g_TooMany := PySem.W.mg_of X G gTooMany,
      k_TooMany := kTooMany,
      b_TooMany := bTooMany,
      t_TooMany := tTooMany,
      i_TooMany := iTooMany,
      C_NoRun := CNoRun,
      g_NoRun := PySem.W.mg_of X G gNoRun,
      k_NoRun := kNoRun,
      b_NoRun := bNoRun,
      t_NoRun := tNoRun,
      i_NoRun := iNoRun,
      C_NoMark := CNoMark,
      g_NoMark := PySem.W.mg_of X G gNoMark,
      k_NoMark := kNoMark,
      b_NoMark := bNoMark,
      t_NoMark := tNoMark,
      i_NoMark := iNoMark,
      C_NoRoad := CNoRoad,
      g_NoRoad := PySem.W.mg_of X G gNoRoad,
      k_NoRoad := kNoRoad,
      b_NoRoad := bNoRoad,
      t_NoRoad := tNoRoad,
      i_NoRoad := iNoRoad,
      C_NoRoom := CNoRoom,
      g_NoRoom := PySem.W.mg_of X G gNoRoom,
      k_NoRoom := kNoRoom,
      b_NoRoom := bNoRoom,
      t_NoRoom := tNoRoom,
      i_NoRoom := iNoRoom,
      C_NoText := CNoText,
      g_NoText := PySem.W.mg_of X G gNoText,
      x_NoText := xNoText,
      k_NoText := kNoText,
      b_NoText := bNoText,
      t_NoText := tNoText,
      i_NoText := iNoText,
      C_NoRow := CNoRow,
      g_NoRow := PySem.W.mg_of X G gNoRow,
      k_NoRow := kNoRow,
      b_NoRow := bNoRow,
      t_NoRow := tNoRow,
      i_NoRow := iNoRow,
      t_FIGURES := uFIGURES,
      g_FIGURES := PySem.W.mg_of X G gFIGURES,
      t_MOST_FIGURES := uMOST_FIGURES,
      g_MOST_FIGURES := PySem.W.mg_of X G gMOST_FIGURES,
      m_ValueError := PySem.W.mg_none_of X G zValueError,
      m_abs := PySem.W.mg_none_of X G zabs,
      m_bool := PySem.W.mg_none_of X G zbool,
      m_int := PySem.W.mg_none_of X G zint,
      m_isinstance := PySem.W.mg_none_of X G zisinstance,
      m_len := PySem.W.mg_none_of X G zlen,
      m_range := PySem.W.mg_none_of X G zrange,
      m_str := PySem.W.mg_none_of X G zstr,
      m_tuple := PySem.W.mg_none_of X G ztuple,
      hd_WalkError := hhd_WalkError,
      s_NoText_WalkError := hs_NoText_WalkError,
      e1_NoText := he1_NoText,
      e2_NoText := he2_NoText,
      e4_NoText := he4_NoText,
      e5_NoText := he5_NoText,
      e6_ := he6_,
      e7_ := he7_,
      e8_NoText := he8_NoText,
      kk_BadMachine := hkk_BadMachine,
      kk_NoMark := hkk_NoMark,
      kk_NoNumber := hkk_NoNumber,
      kk_NoRoad := hkk_NoRoad,
      kk_NoRoom := hkk_NoRoom,
      kk_NoRow := hkk_NoRow,
      kk_NoRun := hkk_NoRun,
      kk_TooMany := hkk_TooMany,
      kk_NoText := hkk_NoText,
      kk_VE := hkk_VE }
  exact ⟨_, fun s v => .of_eq rfl, fun base _ _ => ok_law T⟩
end ZW

open PySem PySem.W PyProof.Rows
set_option maxRecDepth 100000 in
set_option maxHeartbeats 0 in
theorem PySem.Challenge.cw_zonewalk_k81_fractions_as_text_holds : PySem.Challenge.rw_zonewalk_k81_fractions_as_text.Holds := by
  w_on; o_law; k_head; (case hw => w_witness2)
  k_fill
  refine L2.walk_of (l := PySem.Challenge.rw_zonewalk_k81_fractions_as_text) (n := 63) (k := 5) (x := "_law_script") (CX := fun _ => L2.CX0) (sp := fun w => ZW.spLaw _) rfl (by decide) rfl ⟨rfl, by decide, by decide⟩ (fun w h Y => PySem.W.kIn_of Y) ?F (fun _ _ a ns hl _ hS => ⟨a, ns, rfl, hS, hl, fun _ => rfl⟩) (fun _ _ _ _ _ h => h)
  case F =>
    intro w mg fa h KX G hmg
    refine' ZW.all_mk KX G hmg ?a0 ?l0 ?c0 ?k0 ?a1 ?l1 ?c1 ?k1 ?a2 ?l2 ?c2 ?k2 ?a3 ?l3 ?c3 ?k3 ?lt3 ?ld3 ?a4 ?l4 ?c4 ?k4 ?a5 ?l5 ?c5 ?k5 ?a6 ?l6 ?c6 ?k6 ?a7 ?l7 ?c7 ?k7 ?a8 ?l8 ?c8 ?k8 ?a9 ?l9 ?c9 ?k9 ?a10 ?l10 ?c10 ?k10 ?a11 ?l11 ?c11 ?k11 ?a12 ?l12 ?c12 ?k12 ?gWalkError ?kWalkError ?bWalkError ?tWalkError ?iWalkError ?gNoNumber ?xNoNumber ?kNoNumber ?bNoNumber ?tNoNumber ?iNoNumber ?gBadMachine ?kBadMachine ?bBadMachine ?tBadMachine ?iBadMachine ?gTooMany ?kTooMany ?bTooMany ?tTooMany ?iTooMany ?gNoRun ?kNoRun ?bNoRun ?tNoRun ?iNoRun ?gNoMark ?kNoMark ?bNoMark ?tNoMark ?iNoMark ?gNoRoad ?kNoRoad ?bNoRoad ?tNoRoad ?iNoRoad ?gNoRoom ?kNoRoom ?bNoRoom ?tNoRoom ?iNoRoom ?gNoText ?xNoText ?kNoText ?bNoText ?tNoText ?iNoText ?gNoRow ?kNoRow ?bNoRow ?tNoRow ?iNoRow ?gFIGURES ?gMOST_FIGURES ?zValueError ?zabs ?zbool ?zint ?zisinstance ?zlen ?zrange ?zstr ?ztuple ?hhd_WalkError ?hs_NoText_WalkError ?he1_NoText ?he2_NoText ?he4_NoText ?he5_NoText ?he6_ ?he7_ ?he8_NoText ?hkk_BadMachine ?hkk_NoMark ?hkk_NoNumber ?hkk_NoRoad ?hkk_NoRoom ?hkk_NoRow ?hkk_NoRun ?hkk_TooMany ?hkk_NoText ?hkk_VE
    (case a0 => first | k_is | k_exc | rfl)
    (case l0 => first | k_is | k_exc | rfl)
    (case c0 => first | k_is | k_exc | rfl)
    (case k0 => first | k_is | k_exc | rfl)
    (case a1 => first | k_is | k_exc | rfl)
    (case l1 => first | k_is | k_exc | rfl)
    (case c1 => first | k_is | k_exc | rfl)
    (case k1 => first | k_is | k_exc | rfl)
    (case a2 => first | k_is | k_exc | rfl)
    (case l2 => first | k_is | k_exc | rfl)
    (case c2 => first | k_is | k_exc | rfl)
    (case k2 => first | k_is | k_exc | rfl)
    (case a3 => first | k_is | k_exc | rfl)
    (case l3 => first | k_is | k_exc | rfl)
    (case c3 => first | k_is | k_exc | rfl)
    (case k3 => first | k_is | k_exc | rfl)
    (case lt3 => first | k_is | k_exc | rfl)
    (case ld3 => first | k_is | k_exc | rfl)
    (case a4 => first | k_is | k_exc | rfl)
    (case l4 => first | k_is | k_exc | rfl)
    (case c4 => first | k_is | k_exc | rfl)
    (case k4 => first | k_is | k_exc | rfl)
    (case a5 => first | k_is | k_exc | rfl)
    (case l5 => first | k_is | k_exc | rfl)
    (case c5 => first | k_is | k_exc | rfl)
    (case k5 => first | k_is | k_exc | rfl)
    (case a6 => first | k_is | k_exc | rfl)
    (case l6 => first | k_is | k_exc | rfl)
    (case c6 => first | k_is | k_exc | rfl)
    (case k6 => first | k_is | k_exc | rfl)
    (case a7 => first | k_is | k_exc | rfl)
    (case l7 => first | k_is | k_exc | rfl)
    (case c7 => first | k_is | k_exc | rfl)
    (case k7 => first | k_is | k_exc | rfl)
    (case a8 => first | k_is | k_exc | rfl)
    (case l8 => first | k_is | k_exc | rfl)
    (case c8 => first | k_is | k_exc | rfl)
    (case k8 => first | k_is | k_exc | rfl)
    (case a9 => first | k_is | k_exc | rfl)
    (case l9 => first | k_is | k_exc | rfl)
    (case c9 => first | k_is | k_exc | rfl)
    (case k9 => first | k_is | k_exc | rfl)
    (case a10 => first | k_is | k_exc | rfl)
    (case l10 => first | k_is | k_exc | rfl)
    (case c10 => first | k_is | k_exc | rfl)
    (case k10 => first | k_is | k_exc | rfl)
    (case a11 => first | k_is | k_exc | rfl)
    (case l11 => first | k_is | k_exc | rfl)
    (case c11 => first | k_is | k_exc | rfl)
    (case k11 => first | k_is | k_exc | rfl)
    (case a12 => first | k_is | k_exc | rfl)
    (case l12 => first | k_is | k_exc | rfl)
    (case c12 => first | k_is | k_exc | rfl)
    (case k12 => first | k_is | k_exc | rfl)
    (case gWalkError => first | k_is | k_exc | rfl)
    (case kWalkError => first | k_is | k_exc | rfl)
    (case bWalkError => first | k_is | k_exc | rfl)
    (case tWalkError => first | k_is | k_exc | rfl)
    (case iWalkError => first | k_is | k_exc | rfl)
    (case gNoNumber => first | k_is | k_exc | rfl)
    (case xNoNumber => first | k_is | k_exc | rfl)
    (case kNoNumber => first | k_is | k_exc | rfl)
    (case bNoNumber => first | k_is | k_exc | rfl)
    (case tNoNumber => first | k_is | k_exc | rfl)
    (case iNoNumber => first | k_is | k_exc | rfl)
    (case gBadMachine => first | k_is | k_exc | rfl)
    (case kBadMachine => first | k_is | k_exc | rfl)
    (case bBadMachine => first | k_is | k_exc | rfl)
    (case tBadMachine => first | k_is | k_exc | rfl)
    (case iBadMachine => first | k_is | k_exc | rfl)
    (case gTooMany => first | k_is | k_exc | rfl)
    (case kTooMany => first | k_is | k_exc | rfl)
    (case bTooMany => first | k_is | k_exc | rfl)
    (case tTooMany => first | k_is | k_exc | rfl)
    (case iTooMany => first | k_is | k_exc | rfl)
    (case gNoRun => first | k_is | k_exc | rfl)
    (case kNoRun => first | k_is | k_exc | rfl)
    (case bNoRun => first | k_is | k_exc | rfl)
    (case tNoRun => first | k_is | k_exc | rfl)
    (case iNoRun => first | k_is | k_exc | rfl)
    (case gNoMark => first | k_is | k_exc | rfl)
    (case kNoMark => first | k_is | k_exc | rfl)
    (case bNoMark => first | k_is | k_exc | rfl)
    (case tNoMark => first | k_is | k_exc | rfl)
    (case iNoMark => first | k_is | k_exc | rfl)
    (case gNoRoad => first | k_is | k_exc | rfl)
    (case kNoRoad => first | k_is | k_exc | rfl)
    (case bNoRoad => first | k_is | k_exc | rfl)
    (case tNoRoad => first | k_is | k_exc | rfl)
    (case iNoRoad => first | k_is | k_exc | rfl)
    (case gNoRoom => first | k_is | k_exc | rfl)
    (case kNoRoom => first | k_is | k_exc | rfl)
    (case bNoRoom => first | k_is | k_exc | rfl)
    (case tNoRoom => first | k_is | k_exc | rfl)
    (case iNoRoom => first | k_is | k_exc | rfl)
    (case gNoText => first | k_is | k_exc | rfl)
    (case xNoText => first | k_is | k_exc | rfl)
    (case kNoText => first | k_is | k_exc | rfl)
    (case bNoText => first | k_is | k_exc | rfl)
    (case tNoText => first | k_is | k_exc | rfl)
    (case iNoText => first | k_is | k_exc | rfl)
    (case gNoRow => first | k_is | k_exc | rfl)
    (case kNoRow => first | k_is | k_exc | rfl)
    (case bNoRow => first | k_is | k_exc | rfl)
    (case tNoRow => first | k_is | k_exc | rfl)
    (case iNoRow => first | k_is | k_exc | rfl)
    (case gFIGURES => first | k_is | k_exc | rfl)
    (case gMOST_FIGURES => first | k_is | k_exc | rfl)
    (case zValueError => first | k_is | k_exc | rfl)
    (case zabs => first | k_is | k_exc | rfl)
    (case zbool => first | k_is | k_exc | rfl)
    (case zint => first | k_is | k_exc | rfl)
    (case zisinstance => first | k_is | k_exc | rfl)
    (case zlen => first | k_is | k_exc | rfl)
    (case zrange => first | k_is | k_exc | rfl)
    (case zstr => first | k_is | k_exc | rfl)
    (case ztuple => first | k_is | k_exc | rfl)
    (case hhd_WalkError => first | k_is | k_exc | rfl)
    (case hs_NoText_WalkError => first | k_is | k_exc | rfl)
    (case he1_NoText => first | k_is | k_exc | rfl)
    (case he2_NoText => first | k_is | k_exc | rfl)
    (case he4_NoText => first | k_is | k_exc | rfl)
    (case he5_NoText => first | k_is | k_exc | rfl)
    (case he6_ => first | k_is | k_exc | rfl)
    (case he7_ => first | k_is | k_exc | rfl)
    (case he8_NoText => first | k_is | k_exc | rfl)
    (case hkk_BadMachine => first | k_is | k_exc | rfl)
    (case hkk_NoMark => first | k_is | k_exc | rfl)
    (case hkk_NoNumber => first | k_is | k_exc | rfl)
    (case hkk_NoRoad => first | k_is | k_exc | rfl)
    (case hkk_NoRoom => first | k_is | k_exc | rfl)
    (case hkk_NoRow => first | k_is | k_exc | rfl)
    (case hkk_NoRun => first | k_is | k_exc | rfl)
    (case hkk_TooMany => first | k_is | k_exc | rfl)
    (case hkk_NoText => first | k_is | k_exc | rfl)
    (case hkk_VE => first | k_is | k_exc | rfl)
