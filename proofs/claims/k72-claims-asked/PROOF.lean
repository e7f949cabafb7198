import PyProof.Rows.All
import Wide.All
import OpenK.AllK
import Wide.FinOn
import HandS.ForMost
import HandS.ForExc
import HandS.Wide
import HandS.WideBits
import HandS.IsInst
import HandS.TupLe
import KE.BitLaws
import HandS.Defaults
import HandS.ExcIs
import HandS.Conv
import HandS.Zip
import HandS.More
import HandS.SetKeys
import HandS.Strs
import PyProof.DictUpdate
import HandS.Style
import HandS.TryMany
import PySem.Challenge.RW_zonewalk_k72_claims_asked
set_option Elab.async false
set_option linter.all false
set_option maxRecDepth 100000
set_option maxHeartbeats 4000000

set_option maxRecDepth 100000 in
set_option maxHeartbeats 0 in
open_top ZWhead for PySem.Challenge.rw_zonewalk_k72_claims_asked

namespace ZW
theorem log_lt {i : Int} {n m : Nat} (h : i.natAbs < 2 ^ n) (h0 : 0 < n) (hm : n ≤ m) : i.natAbs.log2 < m := by
  by_cases e : i.natAbs = 0
  · rw [e]; simp; omega
  · exact Nat.lt_of_lt_of_le ((Nat.log2_lt e).mpr h) hm
open PySem PySem.Spec PyProof.Rows L2
theorem upd_keep {H : Hp} {p : Addr} {o : HO} (h : H p = none) : Same H (upd H p o) := fun b x e => by
  rw [upd_ne (ne_of_none e h)]
  exact e
theorem Same.to {H H' : Hp} (s : Same H H') {a : Addr} {o : HO} (h : H a = some o) : H' a = some o := s a o h
theorem seq_step {t u : TS} {D : Ends} {σ : L2.St} {H : Hp} (h : t { D with nx := u D } σ H) : tSeq t u D σ H := h
theorem ite_d {c : Prop} [Decidable c] {A B : Prop} (h1 : c → A) (h2 : ¬ c → B) : if decide c = true then A else B := by
  by_cases h : c
  · rw [if_pos (decide_eq_true h)]; exact h1 h
  · rw [if_neg (by rw [decide_eq_false h]; exact Bool.false_ne_true)]; exact h2 h
theorem cxK {CX : CXT} {P : Program} {w : World} {K : PySem.W.Frag} {mg : Str → Option Value} {base : Heap} {N : List Str} {qual : Str} {scope : Scope} {f : Addr} {cd : Value} {A : Around} {outer : List Env} {s : Shared} {H : Hp} {E : XK} :
    (cxOf CX P w K mg base N qual scope f cd A outer s H E).K = K := rfl
theorem ix_l {K : PySem.W.Frag} {H : Hp} {p : Addr} {xs : List V} {i : Int} {v : V} {Q : VK} (h : SqL K H p xs) (hi : 0 ≤ i) (hv : xs[i.toNat]? = some v) (q : Q v H) : rIxL K (.ref p) (.int i) H Q :=
  ⟨p, xs, i, v, rfl, rfl, h, at_of (j := i.toNat) (by omega) hv, q⟩
theorem ix_t {K : PySem.W.Frag} {H : Hp} {p : Addr} {xs : List V} {i : Int} {v : V} {Q : VK} (h : SqT K H p xs) (hi : 0 ≤ i) (hv : xs[i.toNat]? = some v) (q : Q v H) : rIxT K (.ref p) (.int i) H Q :=
  ⟨p, xs, i, v, rfl, rfl, h, at_of (j := i.toNat) (by omega) hv, q⟩
theorem fm2 (c : Int) : c.fmod 2 = 0 ∨ c.fmod 2 = 1 := by
  rw [Int.fmod_eq_emod_of_nonneg _ (by omega)]; omega
theorem fm_pos {c m : Int} (h : 0 < m) : 0 ≤ c.fmod m ∧ c.fmod m < m := by
  rw [Int.fmod_eq_emod_of_nonneg _ (by omega)]
  exact ⟨Int.emod_nonneg _ (by omega), Int.emod_lt_of_pos _ h⟩
/-- a number of at most n bits -/
def Sz (n : Nat) (i : Int) : Prop := i.natAbs < 2 ^ n
theorem Sz.mono {i : Int} {a c : Nat} (ha : Sz a i) (h : a ≤ c) : Sz c i := Nat.lt_of_lt_of_le ha (Nat.pow_le_pow_right (by decide) h)
theorem Sz.mulW {i j : Int} {a b : Nat} (ha : Sz a i) (hb : Sz b j) (h : a + b ≤ 999998) : CMulW i j :=
  wide_mul (a := a + 1) (b := b + 1) (Sz.mono ha (by omega)) (Sz.mono hb (by omega)) (by omega) (by omega) (by omega)
theorem Sz.mul {i j : Int} {a b c : Nat} (ha : Sz a i) (hb : Sz b j) (h : a + b ≤ c) : Sz c (i * j) := Sz.mono (wide_lt ha hb) h
theorem Sz.add {i j : Int} {a b c : Nat} (ha : Sz a i) (hb : Sz b j) (h1 : a + 1 ≤ c) (h2 : b + 1 ≤ c) : Sz c (i + j) := by
  have x : Sz (c - 1) i := ha.mono (by omega)
  have y : Sz (c - 1) j := hb.mono (by omega)
  have e : (2 : Nat) ^ c = 2 ^ (c - 1) * 2 := by rw [← Nat.pow_succ]; congr 1; omega
  unfold Sz at x y ⊢
  omega
theorem Sz.sub {i j : Int} {a b c : Nat} (ha : Sz a i) (hb : Sz b j) (h1 : a + 1 ≤ c) (h2 : b + 1 ≤ c) : Sz c (i - j) := by
  have x : Sz (c - 1) i := ha.mono (by omega)
  have y : Sz (c - 1) j := hb.mono (by omega)
  have e : (2 : Nat) ^ c = 2 ^ (c - 1) * 2 := by rw [← Nat.pow_succ]; congr 1; omega
  unfold Sz at x y ⊢
  omega
theorem Sz.le {i j : Int} {a : Nat} (h : i.natAbs ≤ j.natAbs) (hj : Sz a j) : Sz a i := Nat.lt_of_le_of_lt h hj
theorem Sz.nn {i j : Int} {a : Nat} (h0 : 0 ≤ i) (h : i ≤ j) (hj : Sz a j) : Sz a i := Sz.le (by omega) hj
/-- a divisor that the rule takes -/
def DivOk (j : Int) : Prop := j ≠ 0 ∧ j.natAbs.log2 < 9000
theorem DivOk.of {j : Int} {n : Nat} (h : j ≠ 0) (hs : Sz n j) (hn : n ≤ 8000) : DivOk j := ⟨h, log_lt (n := 8000) (hs.mono hn) (by omega) (by omega)⟩
theorem sz_line {n : Nat} (h : n ≤ 1000) : (n ≤ sizeLine) = True := eq_true (Nat.le_of_lt (small1000 h))
section
variable {X : Cx}
theorem op_fdivZ : OpR X (binaryOp .FloorDiv) (rI (fun _ j => DivOk j) fun i j => .int (i.fdiv j)) := opI fun _ _ _ _ _ _ _ hc q =>
  floordiv_int hc.1 q (.inl (PyProof.noPylong_of_log2 hc.2))
end
theorem gTup_of {K : PySem.W.Frag} {a : Addr} {xs : List V} {n : Nat} {t : TGs} {σ : L2.St} {H : Hp} {Q : L2.St → Hp → Prop} (h : SqT K H a xs) (hn : xs.length = n) (q : t xs σ H Q) : gTup K n t (.ref a) σ H Q := ⟨a, xs, rfl, h, hn, q⟩
theorem sqt {K : PySem.W.Frag} {H : Hp} {a : Addr} {xs : List V} (h : H a = some (.tup xs)) : SqT K H a xs := SqT.of h
section
variable {X : Cx} {e : Expr} {es : List Expr} {t t' : TE} {ta : TA} {pos : Pos}
theorem pe_imp (h : PE X e t) (k : ∀ σ H Q, t' σ H Q → t σ H Q) : PE X e t' := ⟨fun pins s σ H Q I q => h.run pins s σ H Q I (k σ H Q q)⟩
def tWk (ta : TA) : TA := fun σ H Q => ∃ Q0 : List V → Hp → Prop, ta σ H Q0 ∧ ∀ xs H1, Q0 xs H1 → Q xs H1
theorem pa_wk (h : PA X es ta) : PA X es (tWk ta) := ⟨fun pos pins s σ H _ I ⟨Q0, a, k⟩ => thn (h.run pos pins s σ H Q0 I a) fun _ _ ⟨xs, H1, I1, r, q⟩ => ⟨xs, H1, I1, r, k _ _ q⟩⟩
/-- a new tuple, a new list: nothing but what is tracked is told of the heap behind -/
def tTupN (ta : TA) : TE := fun σ H Q => ta σ H fun xs H1 => xs.length ≤ sizeLine ∧ ∀ p H2, Same H1 H2 → H1 p = none → H2 p = some (.tup xs) → Q (.ref p) H2
def tLstN (ta : TA) : TE := fun σ H Q => ta σ H fun xs H1 => xs.length ≤ sizeLine ∧ ∀ p H2, Same H1 H2 → H1 p = none → H2 p = some (.lst xs) → Q (.ref p) H2
theorem pe_tupN {x1} (h : PA X es ta) : PE X (.Tuple es x1 pos) (tTupN ta) :=
  pe_imp (pe_tup (pa_wk h)) fun _ _ _ q => ⟨_, q, fun _ _ ⟨z, k⟩ => ⟨z, fun p hp => k p _ (upd_keep hp) hp upd_same⟩⟩
theorem pe_lstN (h : PA X es ta) : PE X (.List es pos) (tLstN ta) :=
  pe_imp (pe_lst (pa_wk h)) fun _ _ _ q => ⟨_, q, fun _ _ ⟨z, k⟩ => ⟨z, fun p hp => k p _ (upd_keep hp) hp upd_same⟩⟩
def rSlN (K : PySem.W.Frag) : V → Option Int → Option Int → Hp → VK → Prop := fun x lo hi H Q => ∃ a xs, x = .ref a ∧ SqL K H a xs ∧ ∀ p H2, Same H H2 → H p = none → H2 p = some (.lst (cutV xs lo hi)) → Q (.ref p) H2
theorem sl_listN : SlR X (rSlN X.K) := fun pins s σ H x v vl vu lo hi sl Q I rx hs p1 p2 ⟨a, xs, e, h, q⟩ =>
  sl_list pins s σ H x v vl vu lo hi sl Q I rx hs p1 p2 ⟨a, xs, e, h, fun p hp => q p _ (upd_keep hp) hp upd_same⟩
theorem op_imp {f : Value → Value → Sem Value} {r r' : R2} (h : OpR X f r) (k : ∀ x y H Q, r' x y H Q → r x y H Q) : OpR X f r' := fun pins s σ H x y v u Q I rx ry q => h pins s σ H x y v u Q I rx ry (k x y H Q q)
def rCatN : R2 := fun x y H Q => ∃ l b xs zs, x = .ref l ∧ y = .ref b ∧ H l = some (.lst xs) ∧ H b = some (.lst zs) ∧ xs.length + zs.length ≤ sizeLine ∧ ∀ p H2, Same H H2 → H p = none → H2 p = some (.lst (xs ++ zs)) → Q (.ref p) H2
theorem op_catN : OpR X (binaryOp .Add) rCatN := op_imp op_cat fun _ _ _ _ ⟨l, b, xs, zs, e1, e2, h1, h2, z, q⟩ => ⟨l, b, xs, zs, e1, e2, h1, h2, z, fun p hp => q p _ (upd_keep hp) hp upd_same⟩
def rRepN : R2 := fun x y H Q => ∃ l k xs, x = .ref l ∧ y = .int k ∧ H l = some (.lst xs) ∧ -(2 ^ 63) ≤ k ∧ k < 2 ^ 63 ∧ xs.length * k.toNat ≤ sizeLine ∧ ∀ p H2, Same H H2 → H p = none → H2 p = some (.lst (List.replicate k.toNat xs).flatten) → Q (.ref p) H2
theorem small1000' {n : Nat} (h : n ≤ 1000) : n ≤ sizeLine := Nat.le_of_lt (small1000 h)
theorem call_imp {f : Value} {r r' : List V → Hp → VK → Prop} (h : CallR X f r) (k : ∀ x H Q, r' x H Q → r x H Q) : CallR X f r' := fun pins s σ H xs us Q I r q => h pins s σ H xs us Q I r (k xs H Q q)
def rListN (K : PySem.W.Frag) : List V → Hp → VK → Prop := fun xs H Q => ∃ p ys, xs = [.ref p] ∧ (SqL K H p ys ∨ SqT K H p ys) ∧ ∀ l H2, Same H H2 → H l = none → H2 l = some (.lst ys) → Q (.ref l) H2
theorem call_listN : CallR X (.type "list") (rListN X.K) := call_imp call_list_of fun _ _ _ ⟨p, ys, e, h, q⟩ => ⟨p, ys, e, h, fun l hl => q l _ (upd_keep hl) hl upd_same⟩
def rIntB : List V → Hp → VK → Prop := fun xs H Q => ∃ k, xs = [.bl k] ∧ Q (.int (if k then 1 else 0)) H
end
theorem isi {K : PySem.W.Frag} {H : Hp} {x : V} {a b : String} {r : Bool} {Q : VK} (h : TyX K H x (.type a)) (k : kitB a b = some r) (q : Q (.bl r) H) : rIsi K [x, .ty b] H Q := ⟨x, .ty b, _, _, r, rfl, .ty b, h, kit_ty k, q⟩
theorem if_t {b : Bool} {A B : Prop} (h : b = true) (q : A) : if b = true then A else B := by rw [if_pos h]; exact q
theorem if_f {b : Bool} {A B : Prop} (h : b = false) (q : B) : if b = true then A else B := by rw [h, if_neg Bool.false_ne_true]; exact q
theorem funD_mk {K : PySem.W.Frag} {x qual : Str} {st : Stmt} {f t : Addr} {oc kV doc pm cdv ct : Value} {od an : Option Addr} {osl : Array (Option Value)} {o : Obj} {n : Nat} {its : List Value} {dvs : List V}
    (l : K.lookup f = some ⟨oc, od, .func (PySem.W.fnOf x qual (defArgs st) (defBody st) (defScope st) (.ref t) kV doc pm an cdv ct), osl⟩) (c : PySem.W.codeIn K cdv qual = true) (k : PySem.W.keepIn K (.ref f) = true)
    (lt : K.lookup t = some o) (ld : o.data = .seq its.toArray n) (hv : Vals dvs its) (hd : dvs ≠ []) : FunD K x qual (defArgs st) (defBody st) (defScope st) dvs [] f (PySem.W.fnOf x qual (defArgs st) (defBody st) (defScope st) (.ref t) kV doc pm an cdv ct) :=
  ⟨⟨oc, od, .ref t, kV, doc, pm, an, cdv, ct, osl, rfl, l, c, .inr ⟨hd, t, o, its, n, rfl, lt, ld, hv⟩, .inl rfl⟩, k⟩
section
variable {X : Cx} {D a : Addr} {cls : Value} {d : Option Addr} {oe : Obj} {pn : List (Addr × Obj)}
end
def kinds : List String := ["int", "bool", "NoneType", "str", "list", "tuple", "dict"]
/-- whether a thing is a whole number -/
def spWhole (K : PySem.W.Frag) : Sp := fun vs H Q _ => ∃ (x : V) (t : String), vs = [x] ∧ TyX K H x (.type t) ∧ t ∈ kinds ∧ Q (.bl (decide (t = "int"))) H
theorem ncast (n : Nat) : ((no_index (OfNat.ofNat n) : Nat) : Int) = OfNat.ofNat n := rfl
theorem exm_two {K : PySem.W.Frag} {C : Addr} {cls : Value} {b : Bool} (h1 : PySem.W.subIn K (.ref C) (.type "BaseException") = some true) (h2 : PySem.W.hasDictIn K C = true) (h3 : PySem.W.typeIn K (.ref C) = some (.type "type")) (h4 : PySem.W.subIn K cls (.ref C) = some b) : PySem.W.exmOne K cls (.ref C) = some b := PySem.W.exm_ref h1 h2 h3 h4
theorem tyx_same {K : PySem.W.Frag} {H H2 : Hp} (s : Same H H2) {x : V} {t : Value} (h : TyX K H x t) : TyX K H2 x t := by
  cases h with
  | base b =>
    refine .base ?_
    cases b with
    | non => exact .non
    | bl y => exact .bl y
    | int i => exact .int i
    | str y => exact .str y
    | flt y => exact .flt y
    | lst e => exact .lst (s _ _ e)
    | frz e => exact .frz (s _ _ e)
    | tup e => exact .tup (s _ _ e)
    | dK e => exact .dK (s _ _ e)
    | dT e => exact .dT (s _ _ e)
    | ins e cl a b c d => exact .ins (s _ _ e) cl a b c d
  | byt b => exact .byt b
  | set e => exact .set (s _ _ e)
  | kList e c => exact .kList e c
  | kTuple e c => exact .kTuple e c
  | kDict e c => exact .kDict e c
  | fTuple e => exact .fTuple (s _ _ e)
  | fDict e => exact .fDict (s _ _ e)
/-- what stands behind a statement is shown once, for all its ways -/
theorem join_if {t R : TS} {D : Ends} {σ : L2.St} {H : Hp} (P : L2.St → Hp → Prop) (h2 : ∀ σ' H', P σ' H' → R D σ' H') (h1 : (∀ σ' H', P σ' H' → R D σ' H') → tSeq t R D σ H) : tSeq t R D σ H := h1 h2
section
variable {X : Cx} {K : PySem.W.Frag}
theorem call_isiA (h : X.K = K) : CallR X (.builtin "isinstance") (rIsi K) := by subst h; exact call_isi
theorem ix_listA (h : X.K = K) : IxR X (rIxL K) := by subst h; exact ix_list
theorem ix_tupA (h : X.K = K) : IxR X (rIxT K) := by subst h; exact ix_tup
def tRevN (K : PySem.W.Frag) (te : TE) : TE := fun σ H Q => te σ H fun x H1 => ∃ a xs, x = .ref a ∧ SqL K H1 a xs ∧ ∀ p H2, Same H1 H2 → H1 p = none → H2 p = some (.lst xs.reverse) → Q (.ref p) H2
theorem op_in_seqA (h : X.K = K) : OpR X (compareOp .In) (rIn K false) := by subst h; exact op_in_seq
theorem op_notIn_seqA (h : X.K = K) : OpR X (compareOp .NotIn) (rIn K true) := by subst h; exact op_notIn_seq
theorem pg_tupA {es : List Expr} {k : Nat} {t : TGs} {n : Nat} (h' : X.K = K) (hc : X.calm = true) (h : PGs X es t)
    (hn : (assignEach es X.env).length = n := by rfl) (hst : (assignEach es X.env).findIdx? (·.1) = none := by rfl) {pos : PySem.Pos} : PG X (.Tuple es k pos) (gTup K n t) := by subst h'; exact pg_tup hc h hn hst
theorem pe_fldA {o : Expr} {f : Str} {pos : PySem.Pos} {ta : TE} (h' : X.K = K) (he : PE X o ta) (hb : attributeBase o f X.env (eval o X.env) = eval o X.env) : PE X (.Attribute o f pos) (tFld K ta f) := by subst h'; exact pe_fld he hb
theorem call_len_seqA (h : X.K = K) : CallR X (.builtin "len") (fun xs H Q => ∃ p ys, xs = [.ref p] ∧ (SqL K H p ys ∨ SqT K H p ys) ∧ Q (.int ys.length) H) := by subst h; exact call_len_seq
theorem sl_listA (h : X.K = K) : SlR X (rSlN K) := by subst h; exact sl_listN
theorem call_listA (h : X.K = K) : CallR X (.type "list") (rListN K) := by subst h; exact call_listN
theorem pi_listA {tg l : Expr} {tl : TE} (h : X.K = K) (hl : PE X l tl) : PI X tg l (iList K tl) := by subst h; exact pi_list hl
end
theorem lc_vs {X : Cx} {e : Expr} {wi : TI} {g : TG} {tt : TT} {te : TE} {own : List (Str × Nat)} {vs : List Nat} (h : PE X e (tLc wi g tt te (own.map (·.2)))) (hv : own.map (·.2) = vs) : PE X e (tLc wi g tt te vs) := hv ▸ h
theorem lc_vsS {X : Cx} {e : Stmt} {wi : TI} {g k : TG} {tt : TT} {te : TE} {own : List (Str × Nat)} {vs : List Nat} (h : PS X e (tAsg (tLc wi g tt te (own.map (·.2))) k)) (hv : own.map (·.2) = vs) : PS X e (tAsg (tLc wi g tt te vs) k) := hv ▸ h
theorem same_updN {H H2 : Hp} {D : Addr} {o : HO} (hD : H D = none) (s : Same H H2) : Same H (upd H2 D o) := fun b x e => by
  rw [upd_ne (ne_of_none e hD)]
  exact s b x e
theorem dpall_of {K : PySem.W.Frag} {H : Hp} : ∀ {vs : List V} {ds : List PyData}, vs.length = ds.length → (∀ (k : Nat) (v : V) (d : PyData), vs[k]? = some v → ds[k]? = some d → Dp K H v d) → DpAll K H vs ds
  | [], [], _, _ => .nil
  | [], _ :: _, h, _ => by cases h
  | _ :: _, [], h, _ => by cases h
  | v :: vs, d :: ds, h, k => .cons (k 0 v d rfl rfl) (dpall_of (Nat.succ.inj h) fun j v' d' h1 h2 => k (j + 1) v' d' h1 h2)
theorem shaped_list {ds : List PyData} (h : ∀ d ∈ ds, d.canLay0 = true ∧ d.depth ≤ 60) : SeqAt.shaped (.list ds) = true := by
  have key : ∀ ds : List PyData, (∀ d ∈ ds, d.canLay0 = true ∧ d.depth ≤ 60) → PyData.canLayAll0 ds = true ∧ PyData.depthAll ds ≤ 60 := by
    intro ds
    induction ds with
    | nil => intro _; exact ⟨rfl, Nat.zero_le _⟩
    | cons d ds ih =>
      intro h
      have h1 := h d (List.mem_cons_self ..)
      have h2 := ih fun x hx => h x (List.mem_cons_of_mem _ hx)
      refine ⟨by show (d.canLay0 && PyData.canLayAll0 ds) = true; rw [h1.1, h2.1]; rfl, ?_⟩
      show max d.depth (PyData.depthAll ds) ≤ 60
      omega
  have z := key ds h
  refine Bool.and_eq_true_iff.mpr ⟨z.1, decide_eq_true ?_⟩
  show PyData.depthAll ds + 1 ≤ 64
  omega
/-- a fraction's tuple -/
def FracAt (n : Nat) (H : Hp) (v : V) : Prop := ∃ (q : Addr) (t u : Int), v = .ref q ∧ H q = some (.tup [.int t, .int u]) ∧ 0 < u ∧ Sz n t ∧ Sz n u
theorem FracAt.keep {n : Nat} {H H' : Hp} {v : V} (s : Same H H') (h : FracAt n H v) : FracAt n H' v := by
  obtain ⟨q, t, u, e, e2, r⟩ := h
  exact ⟨q, t, u, e, s _ _ e2, r⟩
/-- a for over a list, behind its iterable's reading -/
def ForL (K : PySem.W.Frag) (a : Addr) (g : TG) (tb : TS) (D : Ends) (σ : L2.St) (H : Hp) : Prop := ∃ W : Nat → Nat → L2.St → Hp → Prop, (∃ m, W 0 m σ H) ∧ ∀ i m σ H, W i m σ H →
  ((Itl K a).stop i H ∧ D.nx σ H) ∨ ((Itl K a).go i H ∧ ∃ N : L2.St → Hp → Prop, (∀ σ' H', N σ' H' → ∃ m', m' < m ∧ W (i + 1) m' σ' H') ∧ ∀ x H', (Itl K a).yld i H x H' → g x σ H' fun σ2 H2 => tb { D with nx := N, ct := N, bk := D.nx } σ2 H2)
theorem for_li {K : PySem.W.Frag} {te : TE} {g : TG} {tb : TS} {D : Ends} {σ : L2.St} {H : Hp} (h : te σ H fun x H1 => ∃ a, x = .ref a ∧ (∃ xs, SqL K H1 a xs) ∧ ForL K a g tb D σ H1) : tFor (iList K te) g tb D σ H := h
theorem forL_by {K : PySem.W.Frag} {a : Addr} {xs : List V} {g : TG} {tb : TS} {D : Ends} {σ : L2.St} {H : Hp} (Pv : Nat → L2.St → Hp → Prop) (h0 : Pv 0 σ H) (hl : ∀ i σ H, i ≤ xs.length → Pv i σ H → SqL K H a xs)
    (hs : ∀ i x σ H, xs[i]? = some x → Pv i σ H → g x σ H fun σ2 H2 => tb { D with nx := Pv (i + 1), ct := Pv (i + 1), bk := D.nx } σ2 H2) (hd : ∀ σ H, Pv xs.length σ H → D.nx σ H) : (∃ ys, SqL K H a ys) ∧ ForL K a g tb D σ H :=
  ⟨⟨xs, hl 0 σ H (Nat.zero_le _) h0⟩, for_list (K := K) (a := a) (xs := xs) Pv h0 hl hs hd⟩
/-- what is asked whether it is a fraction, and the answer -/
inductive FrIn (K : PySem.W.Frag) (H : Hp) : V → Bool → Prop where
  | other {x : V} {t : String} (h : TyX K H x (.type t)) (k : t ∈ kinds) (n : t ≠ "tuple") : FrIn K H x false
  | len {p : Addr} {xs : List V} (h : H p = some (.tup xs)) (n : xs.length ≠ 2) : FrIn K H (.ref p) false
  | odd {p : Addr} {v0 v1 : V} {t0 t1 : String} (h : H p = some (.tup [v0, v1])) (h0 : TyX K H v0 (.type t0)) (h1 : TyX K H v1 (.type t1)) (k0 : t0 ∈ kinds) (k1 : t1 ∈ kinds) (n : t0 ≠ "int" ∨ t1 ≠ "int") : FrIn K H (.ref p) false
  | num {p : Addr} {a b : Int} (h : H p = some (.tup [.int a, .int b])) : FrIn K H (.ref p) (decide (1 ≤ b ∧ Int.gcd a b = 1))
theorem FrIn.keep {K : PySem.W.Frag} {H H' : Hp} {x : V} {b : Bool} (s : Same H H') (h : FrIn K H x b) : FrIn K H' x b := by
  cases h with
  | other h k n => exact .other (tyx_same s h) k n
  | len h n => exact .len (s _ _ h) n
  | odd h h0 h1 k0 k1 n => exact .odd (s _ _ h) (tyx_same s h0) (tyx_same s h1) k0 k1 n
  | num h => exact .num (s _ _ h)
def tDictN : TE := fun _ H Q => ∀ p H2, Same H H2 → H p = none → H2 p = some (.dK []) → Q (.ref p) H2
/-- a for over a range, behind its bound's reading -/
def ForR (n : Nat) (g : TG) (tb : TS) (D : Ends) (σ : L2.St) (H : Hp) : Prop := ∃ W : Nat → Nat → L2.St → Hp → Prop, (∃ m, W 0 m σ H) ∧ ∀ i m σ H, W i m σ H →
  ((Itr 0 n).stop i H ∧ D.nx σ H) ∨ ((Itr 0 n).go i H ∧ ∃ N : L2.St → Hp → Prop, (∀ σ' H', N σ' H' → ∃ m', m' < m ∧ W (i + 1) m' σ' H') ∧ ∀ x H', (Itr 0 n).yld i H x H' → g x σ H' fun σ2 H2 => tb { D with nx := N, ct := N, bk := D.nx } σ2 H2)
theorem for_rg {ta : TA} {g : TG} {tb : TS} {D : Ends} {σ : L2.St} {H : Hp} (h : ta σ H fun vs H1 => ∃ j : Int, vs = [.int j] ∧ -(2 ^ 62) ≤ j ∧ j < 2 ^ 62 ∧ ForR j.toNat g tb D σ H1) : tFor (iRng1 ta) g tb D σ H := h
theorem forR_by {n : Nat} {g : TG} {tb : TS} {D : Ends} {σ : L2.St} {H : Hp} (Pv : Nat → L2.St → Hp → Prop) (h0 : Pv 0 σ H)
    (hs : ∀ i σ H, i < n → Pv i σ H → g (.int (0 + i)) σ H fun σ2 H2 => tb { D with nx := Pv (i + 1), ct := Pv (i + 1), bk := D.nx } σ2 H2) (hd : ∀ σ H, Pv n σ H → D.nx σ H) : ForR n g tb D σ H := for_range (lo := 0) (n := n) Pv h0 hs hd
theorem rg_ok {n : Nat} (h : n ≤ 100000) : -(2 ^ 62) ≤ ((n : Nat) : Int) ∧ ((n : Nat) : Int) < 2 ^ 62 := by constructor <;> omega
theorem cut_from {xs : List V} {k : Nat} (h : k ≤ xs.length) : cutV xs (some (k : Int)) none = xs.drop k := by
  unfold cutV
  rw [HT.sIx_none, HT.sIx_nat, Nat.min_eq_left h]
  exact List.take_of_length_le (by rw [List.length_drop]; exact Nat.le_refl _)
/-- xs.append(v) -/
theorem app_at {H : Hp} {l : Addr} {xs : List V} {v : V} {Q : VK} (h : H l = some (.lst xs)) (hl : xs.length ≤ 1000) (q : Q .non (upd H l (.lst (xs ++ [v])))) : rAppend (.ref l) [v] H Q := ⟨l, xs, v, rfl, rfl, h, small1000 hl, q⟩
/-- the same, what stands behind kept closed -/
theorem join_op {t R : TS} {D : Ends} {σ : L2.St} {H : Hp} (P : L2.St → Hp → Prop) (h2 : ∀ σ' H', P σ' H' → R D σ' H') (h1 : ∀ R' : TS, (∀ σ' H', P σ' H' → R' D σ' H') → tSeq t R' D σ H) : tSeq t R D σ H := h1 R h2
/-! ### own classes -/
/-- what isinstance asks of an own class -/
structure OwnCls (K : PySem.W.Frag) (C : Addr) : Prop where
  hc : PySem.W.findIn K (.ref C) "__class__" = some (some (.builtin "object.__class__"))
  hn : PySem.W.specialIn K (.builtin "object.__class__") "__get__" = some (some (.builtin "getset_descriptor.__get__"))
  ht : PySem.W.takesIn K (.builtin "object.__class__") = some true
  hm : PySem.W.mroIn K C (.type "object") = some true
/-- isinstance of an own instance and its class -/
theorem is_own {K : PySem.W.Frag} {H : Hp} {p C dx : Addr} {fs : List (Str × V)} {Q : VK} (h : H p = some (.ins C dx fs)) (c : Cls K C) (o : OwnCls K C) (q : Q (.bl true) H) : rIsi K [.ref p, .ref C] H Q :=
  ⟨.ref p, .ref C, _, _, true, rfl, .own C, .base (.ins h c o.hc o.hn o.ht o.hm), by unfold PySem.W.kitOne; simp, q⟩
/-- a new instance: nothing but what is tracked is told of the heap behind -/
def tMakeN (C : Addr) (sp : Sp) (dvs : List V) (E : XK) (t : TA) : TE := fun σ H Q => t σ H fun vs H1 => ∀ x dx H2, Same H1 H2 → H1 x = none → H2 x = some (.ins C dx []) → sp (.ref x :: (vs ++ dvs)) H2 (fun v H3 => v = .non ∧ Q (.ref x) H3) E
section
variable {X : Cx} {CX : CXT} {k : Nat} {f C : Addr} {fd : FuncData} {ps : List Str} {ds : List Value} {dvs : List V} {sp : Sp} {E : XK} {x : Str} {e : Expr} {es : List Expr} {t : TA} {p pos : Pos}
theorem pe_makeN (M : Mk X.K C f) (F : FnOk X.prog X.w X.K X.mg X.base CX k f fd ps sp) (hr : Room (k + 1) X.A) (hg : Gl X x) (hm : X.mg x = some (.ref C)) (hb : Binds X.K fd ps ds) (hd : Vals dvs ds) (hx : Passes CX X E)
    (ha : PA X (e :: es) t) (hdb : (x == ("__debug__" : Str)) = false := by decide) (he : starEach (e :: es) X.env = (false, eval e X.env) :: starEach es X.env := by rfl) (hpl : (backTo pos (starEach es X.env)).any (·.1) = false := by rfl) :
    PE X (.Call (.Name x p) (e :: es) [] pos) (tMakeN C sp dvs E t) :=
  pe_imp (pe_make M F hr hg hm hb hd hx (pa_wk ha) hdb he hpl) fun σ H Q q => ⟨_, q, fun vs H1 q2 a dx h1 h2 ne => q2 a dx _ (fun b o z => by rw [upd_ne (ne_of_none z h1), upd_ne (ne_of_none z h2)]; exact z) h1 upd_same⟩
end
/-! ### a call within a try, with what it leaves out -/
section
variable {X : Cx} {CX : CXT} {k : Nat} {f : Addr} {fd : FuncData} {ps : List Str} {sp : Sp} {E : L2.St → XK} {x : Str} {p pos : Pos} {e : Expr} {es : List Expr} {t : TA} {ds : List Value} {dvs : List V}
theorem run_fnSD {pins : List (Addr × Obj)} {σ : L2.St} {H : Hp} {s : Shared} {Q : VK} {us : List Value} {vs : List V} (F : FnOk X.prog X.w X.K X.mg X.base CX k f fd ps sp) (hr : Room k X.A) (hb : Binds X.K fd ps ds) (hd : Vals dvs ds) (hx : PassesAt CX X σ (E σ))
    (I : Inv X pins σ H s) (r : Vals vs us) (h : sp (vs ++ dvs) H Q (E σ)) : wpAny (model X.prog X.w) X.A (call (.ref f) us) (EP X pins σ Q) X.xe s := by
  have r2 : Vals (vs ++ dvs) (us ++ ds) := r.append hd
  have hl : (us ++ ds).length = ps.length := by rw [← r2.length]; exact F.len _ _ _ _ h
  refine wpAny_call (codeAny_mono (F.run X.A X.stack s H ⟨us, []⟩ (us ++ ds) (vs ++ dvs) Q (E σ) hr I.env0 (hb s us I.kIn hl) r2 h) fun r s' hq => ?_)
  cases r with
  | error e => exact hx pins H s e s' I hq
  | ok fl =>
    cases fl with
    | ret u => exact I.after hq
    | next => exact False.elim hq
    | brk => exact False.elim hq
    | cont => exact False.elim hq
def tCallSD (sp : Sp) (dvs : List V) (E : L2.St → XK) (t : TA) : TE := fun σ H Q => t σ H fun vs H1 => sp (vs ++ dvs) H1 Q (E σ)
end
/-- what simp leaves alone -/
def Kp (p : Prop) : Prop := p
theorem Kp.of {p : Prop} (h : p) : Kp p := h
end ZW

namespace ZW
open PySem PySem.Spec PyProof.Rows L2
theorem dvl_2 : DivOk 2 = True := eq_true ⟨by decide, by decide +kernel⟩
theorem dvl_3 : DivOk 3 = True := eq_true ⟨by decide, by decide +kernel⟩
theorem dvl_4 : DivOk 4 = True := eq_true ⟨by decide, by decide +kernel⟩
theorem dvl_6 : DivOk 6 = True := eq_true ⟨by decide, by decide +kernel⟩
theorem dvl_7 : DivOk 7 = True := eq_true ⟨by decide, by decide +kernel⟩
theorem dvl_8 : DivOk 8 = True := eq_true ⟨by decide, by decide +kernel⟩
theorem dvl_12 : DivOk 12 = True := eq_true ⟨by decide, by decide +kernel⟩
theorem dvl_15 : DivOk 15 = True := eq_true ⟨by decide, by decide +kernel⟩
theorem dvl_16 : DivOk 16 = True := eq_true ⟨by decide, by decide +kernel⟩
theorem dvl_24 : DivOk 24 = True := eq_true ⟨by decide, by decide +kernel⟩
theorem dvl_26 : DivOk 26 = True := eq_true ⟨by decide, by decide +kernel⟩
theorem dvl_28 : DivOk 28 = True := eq_true ⟨by decide, by decide +kernel⟩
theorem dvl_840 : DivOk 840 = True := eq_true ⟨by decide, by decide +kernel⟩
theorem dvl_6720 : DivOk 6720 = True := eq_true ⟨by decide, by decide +kernel⟩
theorem dvl_1000000000000000000000000000000000000000000000 : DivOk 1000000000000000000000000000000000000000000000 = True := eq_true ⟨by decide, by decide +kernel⟩
theorem pwl_2_4 : CPow 2 4 = True := eq_true ⟨by decide, by decide, by decide +kernel⟩
theorem pwl_10_15 : CPow 10 15 = True := eq_true ⟨by decide, by decide, by decide +kernel⟩
theorem pwl_10_18 : CPow 10 18 = True := eq_true ⟨by decide, by decide, by decide +kernel⟩
theorem pwl_10_30 : CPow 10 30 = True := eq_true ⟨by decide, by decide, by decide +kernel⟩
theorem pwl_10_40 : CPow 10 40 = True := eq_true ⟨by decide, by decide, by decide +kernel⟩
theorem pwl_10_45 : CPow 10 45 = True := eq_true ⟨by decide, by decide, by decide +kernel⟩
end ZW
local macro_rules | `(tactic| walk_at "rd") => `(tactic| ((try simp only [L2.start, List.map_cons, List.map_nil, List.length_cons, List.length_nil, Nat.reduceAdd, Nat.zero_add, Nat.reduceSub, Nat.sub_self, List.replicate, List.cons_append, List.nil_append, List.append_nil]); try simp only [L2.tIfS, L2.tTest, L2.tB, L2.tOp, L2.tUn, L2.tVar, L2.tC, L2.tRet, L2.tRetN, L2.tNext, L2.tAsg, L2.tPar, L2.gName, L2.tCons, L2.tNil, L2.tCall, L2.tCB, L2.tAnd, L2.tOr, L2.tNot, L2.tAndV, L2.tOrV, L2.tNotV, L2.tIf, L2.rI0, L2.rI, L2.rU, L2.rAdd, L2.rSub, L2.rEq, L2.rNe, L2.scal, L2.tTup, L2.tLst, ZW.tTupN, ZW.tLstN, L2.tSl, L2.tPart, L2.tNoPart, ZW.rSlN, ZW.rCatN, ZW.rRepN, ZW.rListN, ZW.rIntB,  L2.tDrop, L2.tIsN, L2.tNotN, L2.tCmp, L2.t2I,
  List.map_cons, List.map_nil, List.length_cons, List.length_nil, List.append_nil, List.nil_append, List.cons_append, List.getElem?_cons_zero, List.getElem?_cons_succ, List.set_cons_zero, List.set_cons_succ, Nat.reduceSub, Nat.reduceAdd, Nat.sub_self, Nat.zero_add, List.getElem?_nil, List.append_eq,
  Option.some.injEq, L2.V.int.injEq, L2.V.bl.injEq, L2.V.ref.injEq, reduceCtorEq, exists_eq_left', exists_eq_left, exists_eq, true_and, and_true, exists_and_left, exists_eq_right, exists_eq_right', decide_true, decide_false, Bool.not_true, Bool.not_false, if_true, if_false, ite_true, ite_false, Bool.false_eq_true, List.cons.injEq, ite_self, and_self, and_assoc, L2.gCons, L2.gNil, Int.reduceToNat, Int.reduceMul, Int.reduceSub, Int.reduceAdd, Int.reduceNe, Int.reduceLE, Int.reduceLT, Int.reduceNeg, Int.reduceEq, ZW.dvl_2, ZW.dvl_3, ZW.dvl_4, ZW.dvl_6, ZW.dvl_7, ZW.dvl_8, ZW.dvl_12, ZW.dvl_15, ZW.dvl_16, ZW.dvl_24, ZW.dvl_26, ZW.dvl_28, ZW.dvl_840, ZW.dvl_6720, ZW.dvl_1000000000000000000000000000000000000000000000, ZW.pwl_2_4, ZW.pwl_10_15, ZW.pwl_10_18, ZW.pwl_10_30, ZW.pwl_10_40, ZW.pwl_10_45, ZW.sz_line, Nat.reduceLT, Nat.reduceLeDiff, Nat.reduceLeDiff, ne_eq, not_false_eq_true, Int.reducePow, Int.pow_one,  forall_const, implies_true, ZW.cxK, ZW.ncast, L2.tCallS, ZW.tCallSD, ZW.tRevN, L2.tYes, L2.gSub, Int.zero_add, ZW.tDictN, L2.wipe, L2.tDGet, L2.tDIn, L2.tDNotIn, L2.sDPut]))
local macro_rules | `(tactic| walk_at "ix") => `(tactic| (walk_at "rd"; first | refine ZW.ix_l (L2.SqL.of (by assumption)) (by decide) rfl ?_ | refine ZW.ix_t (L2.SqT.of (by assumption)) (by decide) rfl ?_))
local macro_rules | `(tactic| walk_at "sq") => `(tactic| (walk_at "rd"; refine ZW.seq_step ?_; walk_at "rd"))
local macro_rules | `(tactic| walk_at "isT") => `(tactic| (walk_at "rd"; refine ZW.isi (r := true) (by first | exact .base (.int _) | exact .base (.bl _) | exact .base .non | exact .base (.str _) | exact .base (.tup (by assumption)) | exact .base (.lst (by assumption)) | exact .base (.dK (by assumption))) (by decide +kernel) ?_; walk_at "rd"))
local macro_rules | `(tactic| walk_at "isF") => `(tactic| (walk_at "rd"; refine ZW.isi (r := false) (by first | exact .base (.int _) | exact .base (.bl _) | exact .base .non | exact .base (.str _) | exact .base (.tup (by assumption)) | exact .base (.lst (by assumption)) | exact .base (.dK (by assumption))) (by decide +kernel) ?_; walk_at "rd"))
local macro_rules | `(tactic| walk_at "rt") => `(tactic| (walk_at "rd"; (try simp only [L2.V.str.injEq, L2.tChain, exists_eq_left', exists_eq_left, exists_eq_right', true_and, and_true, exists_and_left]); (try walk_at "rd"); (try simp only [L2.V.str.injEq, exists_eq_left', exists_eq_left, exists_eq_right', true_and, and_true, exists_and_left])))

namespace ZW
open PySem PySem.Spec PyProof.Rows L2
def topS (i : Nat) : Stmt := PySem.Challenge.pw_zonewalk_k72_claims_asked.main.body.getD i (.Pass ⟨0, 0, 0, 0⟩)
abbrev s_is_whole : Stmt := topS 8
theorem sc_is_whole : FnScope ["thing"] ["thing"] (defScope s_is_whole) := ⟨rfl, rfl, rfl, by decide +kernel, rfl, by decide +kernel, by decide +kernel⟩
abbrev s_of_signs : Stmt := topS 16
theorem sc_of_signs : FnScope ["thing", "signs", "most", "sign"] ["thing", "signs", "most"] (defScope s_of_signs) := ⟨rfl, rfl, rfl, by decide +kernel, rfl, by decide +kernel, by decide +kernel⟩
abbrev s_is_name : Stmt := topS 17
theorem sc_is_name : FnScope ["thing"] ["thing"] (defScope s_is_name) := ⟨rfl, rfl, rfl, by decide +kernel, rfl, by decide +kernel, by decide +kernel⟩
abbrev s_is_watch_name : Stmt := topS 18
theorem sc_is_watch_name : FnScope ["thing"] ["thing"] (defScope s_is_watch_name) := ⟨rfl, rfl, rfl, by decide +kernel, rfl, by decide +kernel, by decide +kernel⟩
abbrev s_is_sign : Stmt := topS 19
theorem sc_is_sign : FnScope ["thing"] ["thing"] (defScope s_is_sign) := ⟨rfl, rfl, rfl, by decide +kernel, rfl, by decide +kernel, by decide +kernel⟩
abbrev s_is_look : Stmt := topS 20
theorem sc_is_look : FnScope ["thing", "words", "watches"] ["thing", "words", "watches"] (defScope s_is_look) := ⟨rfl, rfl, rfl, by decide +kernel, rfl, by decide +kernel, by decide +kernel⟩
abbrev s_is_guard : Stmt := topS 21
theorem sc_is_guard : FnScope ["thing", "words", "watches", "look"] ["thing", "words", "watches"] (defScope s_is_guard) := ⟨rfl, rfl, rfl, by decide +kernel, rfl, by decide +kernel, by decide +kernel⟩
abbrev s_unlike : Stmt := topS 22
theorem sc_unlike : FnScope ["things"] ["things"] (defScope s_unlike) := ⟨rfl, rfl, rfl, by decide +kernel, rfl, by decide +kernel, by decide +kernel⟩
abbrev s_own : Stmt := topS 23
theorem sc_own : FnScope ["thing"] ["thing"] (defScope s_own) := ⟨rfl, rfl, rfl, by decide +kernel, rfl, by decide +kernel, by decide +kernel⟩
abbrev s_Door_init : Stmt := inClass (topS 24) 0
theorem sc_Door_init : FnScope ["self", "start", "end", "guard", "noughts", "sign"] ["self", "start", "end", "guard", "noughts", "sign"] (defScope s_Door_init) := ⟨rfl, rfl, rfl, by decide +kernel, rfl, by decide +kernel, by decide +kernel⟩
abbrev s_Door_asks : Stmt := inClass (topS 24) 1
theorem sc_Door_asks : FnScope ["self"] ["self"] (defScope s_Door_asks) := ⟨rfl, rfl, rfl, by decide +kernel, rfl, by decide +kernel, by decide +kernel⟩
abbrev s_Door_sets : Stmt := inClass (topS 24) 2
theorem sc_Door_sets : FnScope ["self"] ["self"] (defScope s_Door_sets) := ⟨rfl, rfl, rfl, by decide +kernel, rfl, by decide +kernel, by decide +kernel⟩
abbrev s_are_watches : Stmt := topS 25
theorem sc_are_watches : FnScope ["thing", "watch"] ["thing"] (defScope s_are_watches) := ⟨rfl, rfl, rfl, by decide +kernel, rfl, by decide +kernel, by decide +kernel⟩
abbrev s_is_room : Stmt := topS 26
theorem sc_is_room : FnScope ["thing", "watches"] ["thing", "watches"] (defScope s_is_room) := ⟨rfl, rfl, rfl, by decide +kernel, rfl, by decide +kernel, by decide +kernel⟩
abbrev s_are_rooms : Stmt := topS 27
theorem sc_are_rooms : FnScope ["thing", "watches", "room"] ["thing", "watches"] (defScope s_are_rooms) := ⟨rfl, rfl, rfl, by decide +kernel, rfl, by decide +kernel, by decide +kernel⟩
abbrev s_is_door : Stmt := topS 28
theorem sc_is_door : FnScope ["thing", "watches", "names", "name", "noughts", "watch"] ["thing", "watches", "names"] (defScope s_is_door) := ⟨rfl, rfl, rfl, by decide +kernel, rfl, by decide +kernel, by decide +kernel⟩
abbrev s_Machine_init : Stmt := inClass (topS 29) 0
theorem sc_Machine_init : FnScope ["self", "watches", "rooms", "doors", "names", "room", "door"] ["self", "watches", "rooms", "doors"] (defScope s_Machine_init) := ⟨rfl, rfl, rfl, by decide +kernel, rfl, by decide +kernel, by decide +kernel⟩
abbrev s_Machine_watches : Stmt := inClass (topS 29) 1
theorem sc_Machine_watches : FnScope ["self"] ["self"] (defScope s_Machine_watches) := ⟨rfl, rfl, rfl, by decide +kernel, rfl, by decide +kernel, by decide +kernel⟩
abbrev s_Machine_rooms : Stmt := inClass (topS 29) 2
theorem sc_Machine_rooms : FnScope ["self"] ["self"] (defScope s_Machine_rooms) := ⟨rfl, rfl, rfl, by decide +kernel, rfl, by decide +kernel, by decide +kernel⟩
abbrev s_Machine_doors : Stmt := inClass (topS 29) 3
theorem sc_Machine_doors : FnScope ["self"] ["self"] (defScope s_Machine_doors) := ⟨rfl, rfl, rfl, by decide +kernel, rfl, by decide +kernel, by decide +kernel⟩
abbrev s_Machine_stay : Stmt := inClass (topS 29) 4
theorem sc_Machine_stay : FnScope ["self", "room"] ["self", "room"] (defScope s_Machine_stay) := ⟨rfl, rfl, rfl, by decide +kernel, rfl, by decide +kernel, by decide +kernel⟩
abbrev s_Machine_watch_number : Stmt := inClass (topS 29) 5
theorem sc_Machine_watch_number : FnScope ["self", "name"] ["self", "name"] (defScope s_Machine_watch_number) := ⟨rfl, rfl, rfl, by decide +kernel, rfl, by decide +kernel, by decide +kernel⟩
abbrev s_placed : Stmt := topS 30
theorem sc_placed : FnScope ["machine", "guard", "watches", "watch", "word", "number"] ["machine", "guard"] (defScope s_placed) := ⟨rfl, rfl, rfl, by decide +kernel, rfl, by decide +kernel, by decide +kernel⟩
abbrev s_checked_goal : Stmt := topS 50
theorem sc_checked_goal : FnScope ["machine", "goal", "rooms", "room", "guard"] ["machine", "goal"] (defScope s_checked_goal) := ⟨rfl, rfl, rfl, by decide +kernel, rfl, by decide +kernel, by decide +kernel⟩
abbrev s_with_long : Stmt := topS 54
theorem sc_with_long : FnScope ["machine", "rooms", "room"] ["machine"] (defScope s_with_long) := ⟨rfl, rfl, rfl, by decide +kernel, rfl, by decide +kernel, by decide +kernel⟩
abbrev s_cut_off : Stmt := topS 55
theorem sc_cut_off : FnScope ["machine", "room", "doors", "door", "name"] ["machine", "room"] (defScope s_cut_off) := ⟨rfl, rfl, rfl, by decide +kernel, rfl, by decide +kernel, by decide +kernel⟩
abbrev s_through_search : Stmt := topS 57
abbrev s_lets_by : Stmt := topS 64
theorem sc_lets_by : FnScope ["machine", "goal", "paper", "zones", "room", "some", "zone"] ["machine", "goal", "paper"] (defScope s_lets_by) := ⟨rfl, rfl, rfl, by decide +kernel, rfl, by decide +kernel, by decide +kernel⟩
abbrev s_Claim_made_of : Stmt := inClass (topS 66) 0
theorem sc_Claim_made_of : FnScope ["self", "machine"] ["self", "machine"] (defScope s_Claim_made_of) := ⟨rfl, rfl, rfl, by decide +kernel, rfl, by decide +kernel, by decide +kernel⟩
abbrev s_Claim_asked_of : Stmt := inClass (topS 66) 2
theorem sc_Claim_asked_of : FnScope ["self", "machine", "asked"] ["self", "machine"] (defScope s_Claim_asked_of) := ⟨rfl, rfl, rfl, by decide +kernel, rfl, by decide +kernel, by decide +kernel⟩
abbrev s_Claim_goal_on : Stmt := inClass (topS 66) 3
theorem sc_Claim_goal_on : FnScope ["self", "machine"] ["self", "machine"] (defScope s_Claim_goal_on) := ⟨rfl, rfl, rfl, by decide +kernel, rfl, by decide +kernel, by decide +kernel⟩
abbrev s_Never_init : Stmt := inClass (topS 67) 0
theorem sc_Never_init : FnScope ["self", "room", "guard"] ["self", "room", "guard"] (defScope s_Never_init) := ⟨rfl, rfl, rfl, by decide +kernel, rfl, by decide +kernel, by decide +kernel⟩
abbrev s_Never_named : Stmt := inClass (topS 67) 1
theorem sc_Never_named : FnScope ["self"] ["self"] (defScope s_Never_named) := ⟨rfl, rfl, rfl, by decide +kernel, rfl, by decide +kernel, by decide +kernel⟩
abbrev s_NoSooner_init : Stmt := inClass (topS 68) 0
theorem sc_NoSooner_init : FnScope ["self", "room", "guard", "number"] ["self", "room", "guard", "number"] (defScope s_NoSooner_init) := ⟨rfl, rfl, rfl, by decide +kernel, rfl, by decide +kernel, by decide +kernel⟩
abbrev s_NoSooner_made_of : Stmt := inClass (topS 68) 1
theorem sc_NoSooner_made_of : FnScope ["self", "machine"] ["self", "machine"] (defScope s_NoSooner_made_of) := ⟨rfl, rfl, rfl, by decide +kernel, rfl, by decide +kernel, by decide +kernel⟩
abbrev s_NoSooner_named : Stmt := inClass (topS 68) 2
theorem sc_NoSooner_named : FnScope ["self"] ["self"] (defScope s_NoSooner_named) := ⟨rfl, rfl, rfl, by decide +kernel, rfl, by decide +kernel, by decide +kernel⟩
abbrev s_NoSooner_goal_on : Stmt := inClass (topS 68) 3
theorem sc_NoSooner_goal_on : FnScope ["self", "machine", "guard"] ["self", "machine"] (defScope s_NoSooner_goal_on) := ⟨rfl, rfl, rfl, by decide +kernel, rfl, by decide +kernel, by decide +kernel⟩
abbrev s_Within_init : Stmt := inClass (topS 69) 0
theorem sc_Within_init : FnScope ["self", "room", "number"] ["self", "room", "number"] (defScope s_Within_init) := ⟨rfl, rfl, rfl, by decide +kernel, rfl, by decide +kernel, by decide +kernel⟩
abbrev s_Within_made_of : Stmt := inClass (topS 69) 1
theorem sc_Within_made_of : FnScope ["self", "machine"] ["self", "machine"] (defScope s_Within_made_of) := ⟨rfl, rfl, rfl, by decide +kernel, rfl, by decide +kernel, by decide +kernel⟩
abbrev s_Within_named : Stmt := inClass (topS 69) 2
theorem sc_Within_named : FnScope ["self"] ["self"] (defScope s_Within_named) := ⟨rfl, rfl, rfl, by decide +kernel, rfl, by decide +kernel, by decide +kernel⟩
abbrev s_Within_goal_on : Stmt := inClass (topS 69) 3
theorem sc_Within_goal_on : FnScope ["self", "machine", "guard", "name"] ["self", "machine"] (defScope s_Within_goal_on) := ⟨rfl, rfl, rfl, by decide +kernel, rfl, by decide +kernel, by decide +kernel⟩
abbrev s_lets_claim : Stmt := topS 70
theorem sc_lets_claim : FnScope ["claim", "machine", "paper", "asked"] ["claim", "machine", "paper"] (defScope s_lets_claim) := ⟨rfl, rfl, rfl, by decide +kernel, rfl, by decide +kernel, by decide +kernel⟩
abbrev s_l_cell_at : Stmt := topS 72
theorem sc_l_cell_at : FnScope ["_law_script", "_law_k"] ["_law_script", "_law_k"] (defScope s_l_cell_at) := ⟨rfl, rfl, rfl, by decide +kernel, rfl, by decide +kernel, by decide +kernel⟩
abbrev s_l_stream : Stmt := topS 73
theorem sc_l_stream : FnScope ["_law_cell", "_law_many", "_law_found", "_law_rest", "_law_k", "_law_number_here"] ["_law_cell", "_law_many"] (defScope s_l_stream) := ⟨rfl, rfl, rfl, by decide +kernel, rfl, by decide +kernel, by decide +kernel⟩
abbrev s_l_names : Stmt := topS 74
theorem sc_l_names : FnScope ["_law_cell", "_law_many", "_law_letters", "_law_size", "_law_at", "_law_names_here", "_law_k", "_law_word", "_law_j"] ["_law_cell", "_law_many"] (defScope s_l_names) := ⟨rfl, rfl, rfl, by decide +kernel, rfl, by decide +kernel, by decide +kernel⟩
abbrev s_l_number : Stmt := topS 75
theorem sc_l_number : FnScope ["_law_x", "_law_unit"] ["_law_x", "_law_unit"] (defScope s_l_number) := ⟨rfl, rfl, rfl, by decide +kernel, rfl, by decide +kernel, by decide +kernel⟩
abbrev s_l_guard : Stmt := topS 76
theorem sc_l_guard : FnScope ["_law_xs", "_law_unit", "_law_watches", "_law_guard_here", "_law_k", "_law_word"] ["_law_xs", "_law_unit", "_law_watches"] (defScope s_l_guard) := ⟨rfl, rfl, rfl, by decide +kernel, rfl, by decide +kernel, by decide +kernel⟩
abbrev s_l_stay : Stmt := topS 77
theorem sc_l_stay : FnScope ["_law_xs", "_law_unit", "_law_watches", "_law_stay_here", "_law_k", "_law_number_here"] ["_law_xs", "_law_unit", "_law_watches"] (defScope s_l_stay) := ⟨rfl, rfl, rfl, by decide +kernel, rfl, by decide +kernel, by decide +kernel⟩
abbrev s_l_door : Stmt := topS 78
theorem sc_l_door : FnScope ["_law_cell", "_law_unit", "_law_watches", "_law_many", "_law_xs", "_law_noughts", "_law_sign", "_law_k"] ["_law_cell", "_law_unit", "_law_watches", "_law_many"] (defScope s_l_door) := ⟨rfl, rfl, rfl, by decide +kernel, rfl, by decide +kernel, by decide +kernel⟩
abbrev s_l_machine : Stmt := topS 79
theorem sc_l_machine : FnScope ["_law_script", "_law_first", "_law_second", "_law_unit", "_law_watches", "_law_names_here", "_law_rooms", "_law_k", "_law_xs", "_law_doors", "_law_cell"] ["_law_script"] (defScope s_l_machine) := ⟨rfl, rfl, rfl, by decide +kernel, rfl, by decide +kernel, by decide +kernel⟩
abbrev s_l_made : Stmt := topS 80
theorem sc_l_made : FnScope ["_law_spec", "_law_watches", "_law_rooms", "_law_doors", "_law_built", "_law_begin", "_law_end", "_law_guard_here", "_law_noughts", "_law_sign", "_law_name", "_law_stay_here"] ["_law_spec"] (defScope s_l_made) := ⟨rfl, rfl, rfl, by decide +kernel, rfl, by decide +kernel, by decide +kernel⟩
abbrev s_l_scale : Stmt := topS 81
theorem sc_l_scale : FnScope ["_law_spec", "_law_most", "_law_name", "_law_stay_here", "_law_begin", "_law_end", "_law_guard_here", "_law_noughts", "_law_sign", "_law_watch", "_law_word", "_law_number_here"] ["_law_spec"] (defScope s_l_scale) := ⟨rfl, rfl, rfl, by decide +kernel, rfl, by decide +kernel, by decide +kernel⟩
abbrev s_l_claim : Stmt := topS 82
theorem sc_l_claim : FnScope ["_law_cell", "_law_spec", "_law_watches", "_law_rooms", "_law_doors", "_law_xs", "_law_room", "_law_guard_here", "_law_number_here"] ["_law_cell", "_law_spec"] (defScope s_l_claim) := ⟨rfl, rfl, rfl, by decide +kernel, rfl, by decide +kernel, by decide +kernel⟩
abbrev s_l_claimed : Stmt := topS 83
theorem sc_l_claimed : FnScope ["_law_claim_here", "_law_spec", "_law_kind", "_law_room", "_law_guard_here", "_law_number_here", "_law_name"] ["_law_claim_here", "_law_spec"] (defScope s_l_claimed) := ⟨rfl, rfl, rfl, by decide +kernel, rfl, by decide +kernel, by decide +kernel⟩
abbrev s_l_told : Stmt := topS 84
theorem sc_l_told : FnScope ["_law_machine_here", "_law_rooms", "_law_doors", "_law_room", "_law_door_here"] ["_law_machine_here"] (defScope s_l_told) := ⟨rfl, rfl, rfl, by decide +kernel, rfl, by decide +kernel, by decide +kernel⟩
abbrev s_l_due : Stmt := topS 85
theorem sc_l_due : FnScope ["_law_spec", "_law_claim_here", "_law_watches", "_law_rooms", "_law_doors", "_law_kind", "_law_room", "_law_guard_here", "_law_number_here", "_law_some", "_law_begin", "_law_end", "_law_looks", "_law_noughts", "_law_sign", "_law_goal", "_law_name", "_law_stay_here"] ["_law_spec", "_law_claim_here"] (defScope s_l_due) := ⟨rfl, rfl, rfl, by decide +kernel, rfl, by decide +kernel, by decide +kernel⟩
abbrev s_l_spoilt : Stmt := topS 86
theorem sc_l_spoilt : FnScope ["_law_spec", "_law_claim_here", "_law_cell", "_law_kind", "_law_room", "_law_guard_here", "_law_number_here", "_law_name"] ["_law_spec", "_law_claim_here", "_law_cell"] (defScope s_l_spoilt) := ⟨rfl, rfl, rfl, by decide +kernel, rfl, by decide +kernel, by decide +kernel⟩
abbrev s_l_numbered : Stmt := topS 87
theorem sc_l_numbered : FnScope ["_law_spec", "_law_claim_here", "_law_cell", "_law_kind", "_law_room", "_law_guard_here", "_law_number_here", "_law_wrong", "_law_asked", "_law_found"] ["_law_spec", "_law_claim_here", "_law_cell"] (defScope s_l_numbered) := ⟨rfl, rfl, rfl, by decide +kernel, rfl, by decide +kernel, by decide +kernel⟩
abbrev s_l_refused : Stmt := topS 88
theorem sc_l_refused : FnScope ["_law_claim_here", "_law_machine_here", "_law_found"] ["_law_claim_here", "_law_machine_here"] (defScope s_l_refused) := ⟨rfl, rfl, rfl, by decide +kernel, rfl, by decide +kernel, by decide +kernel⟩
abbrev s_law : Stmt := topS 89
theorem sc_law : FnScope ["_law_script", "_law_spec", "_law_claim_here", "_law_kind", "_law_room", "_law_guard_here", "_law_number_here", "_law_handed", "_law_asked", "_law_name", "_law_other", "_law_turn", "_law_made_of", "_law_due_here", "_law_goal", "_law_mark", "_law_wrong", "_law_full"] ["_law_script"] (defScope s_law) := ⟨rfl, rfl, rfl, by decide +kernel, rfl, by decide +kernel, by decide +kernel⟩
set_option genInjectivity false in
set_option genSizeOf false in
structure Top (K : PySem.W.Frag) (mg : Str → Option Value) where
  C_Door : Addr
  g_Door : mg "Door" = some (.ref C_Door)
  cl_Door : Cls K C_Door
  ty_Door : OwnCls K C_Door
  n_Door_backs : NoAttr K C_Door "backs"
  n_Door_end : NoAttr K C_Door "end"
  n_Door_looks : NoAttr K C_Door "looks"
  n_Door_sign : NoAttr K C_Door "sign"
  n_Door_start : NoAttr K C_Door "start"
  C_Machine : Addr
  g_Machine : mg "Machine" = some (.ref C_Machine)
  cl_Machine : Cls K C_Machine
  ty_Machine : OwnCls K C_Machine
  n_Machine_door_list : NoAttr K C_Machine "door_list"
  n_Machine_room_names : NoAttr K C_Machine "room_names"
  n_Machine_stay_looks : NoAttr K C_Machine "stay_looks"
  n_Machine_watch_names : NoAttr K C_Machine "watch_names"
  C_Never : Addr
  g_Never : mg "Never" = some (.ref C_Never)
  cl_Never : Cls K C_Never
  ty_Never : OwnCls K C_Never
  n_Never_guard : NoAttr K C_Never "guard"
  n_Never_room : NoAttr K C_Never "room"
  C_NoSooner : Addr
  g_NoSooner : mg "NoSooner" = some (.ref C_NoSooner)
  cl_NoSooner : Cls K C_NoSooner
  ty_NoSooner : OwnCls K C_NoSooner
  n_NoSooner_guard : NoAttr K C_NoSooner "guard"
  n_NoSooner_number : NoAttr K C_NoSooner "number"
  n_NoSooner_room : NoAttr K C_NoSooner "room"
  C_Within : Addr
  g_Within : mg "Within" = some (.ref C_Within)
  cl_Within : Cls K C_Within
  ty_Within : OwnCls K C_Within
  n_Within_number : NoAttr K C_Within "number"
  n_Within_room : NoAttr K C_Within "room"
  t_BELOW : Addr
  g_BELOW : mg "BELOW" = some (.ref t_BELOW)
  q_BELOW : ∀ H, SqT K H t_BELOW ((["<", "<="] : List Str).map V.str)
  t_WORDS : Addr
  g_WORDS : mg "WORDS" = some (.ref t_WORDS)
  q_WORDS : ∀ H, SqT K H t_WORDS ((["<", "<=", ">", ">=", "="] : List Str).map V.str)
  f_is_whole : Addr
  d_is_whole : FuncData
  F_is_whole : Fun K "is_whole" "is_whole" s_is_whole f_is_whole d_is_whole
  b_is_whole : Binds K d_is_whole ["thing"] []
  g_is_whole : mg "is_whole" = some (.ref f_is_whole)
  f_of_signs : Addr
  d_of_signs : FuncData
  F_of_signs : Fun K "of_signs" "of_signs" s_of_signs f_of_signs d_of_signs
  b_of_signs : Binds K d_of_signs ["thing", "signs", "most"] []
  g_of_signs : mg "of_signs" = some (.ref f_of_signs)
  f_is_name : Addr
  d_is_name : FuncData
  F_is_name : Fun K "is_name" "is_name" s_is_name f_is_name d_is_name
  b_is_name : Binds K d_is_name ["thing"] []
  g_is_name : mg "is_name" = some (.ref f_is_name)
  f_is_watch_name : Addr
  d_is_watch_name : FuncData
  F_is_watch_name : Fun K "is_watch_name" "is_watch_name" s_is_watch_name f_is_watch_name d_is_watch_name
  b_is_watch_name : Binds K d_is_watch_name ["thing"] []
  g_is_watch_name : mg "is_watch_name" = some (.ref f_is_watch_name)
  f_is_sign : Addr
  d_is_sign : FuncData
  F_is_sign : Fun K "is_sign" "is_sign" s_is_sign f_is_sign d_is_sign
  b_is_sign : Binds K d_is_sign ["thing"] []
  g_is_sign : mg "is_sign" = some (.ref f_is_sign)
  f_is_look : Addr
  d_is_look : FuncData
  F_is_look : Fun K "is_look" "is_look" s_is_look f_is_look d_is_look
  b_is_look : Binds K d_is_look ["thing", "words", "watches"] []
  g_is_look : mg "is_look" = some (.ref f_is_look)
  f_is_guard : Addr
  d_is_guard : FuncData
  F_is_guard : Fun K "is_guard" "is_guard" s_is_guard f_is_guard d_is_guard
  b_is_guard : Binds K d_is_guard ["thing", "words", "watches"] []
  g_is_guard : mg "is_guard" = some (.ref f_is_guard)
  f_unlike : Addr
  d_unlike : FuncData
  F_unlike : Fun K "unlike" "unlike" s_unlike f_unlike d_unlike
  b_unlike : Binds K d_unlike ["things"] []
  g_unlike : mg "unlike" = some (.ref f_unlike)
  f_own : Addr
  d_own : FuncData
  F_own : Fun K "own" "own" s_own f_own d_own
  b_own : Binds K d_own ["thing"] []
  g_own : mg "own" = some (.ref f_own)
  f_Door_init : Addr
  d_Door_init : FuncData
  F_Door_init : FunD K "__init__" "Door.__init__" (defArgs s_Door_init) (defBody s_Door_init) (defScope s_Door_init) [.str ""] [] f_Door_init d_Door_init
  b_Door_init : Binds K d_Door_init ["self", "start", "end", "guard", "noughts", "sign"] []
  mk_Door : Mk K C_Door f_Door_init
  dv_Door_init : List Value
  v_Door_init : Vals [.str ""] dv_Door_init
  bd_Door_init : Binds K d_Door_init ["self", "start", "end", "guard", "noughts", "sign"] dv_Door_init
  f_Door_asks : Addr
  d_Door_asks : FuncData
  F_Door_asks : Fun K "asks" "Door.asks" s_Door_asks f_Door_asks d_Door_asks
  b_Door_asks : Binds K d_Door_asks ["self"] []
  m_Door_asks : Meth K C_Door "asks" f_Door_asks
  f_Door_sets : Addr
  d_Door_sets : FuncData
  F_Door_sets : Fun K "sets" "Door.sets" s_Door_sets f_Door_sets d_Door_sets
  b_Door_sets : Binds K d_Door_sets ["self"] []
  m_Door_sets : Meth K C_Door "sets" f_Door_sets
  f_are_watches : Addr
  d_are_watches : FuncData
  F_are_watches : Fun K "are_watches" "are_watches" s_are_watches f_are_watches d_are_watches
  b_are_watches : Binds K d_are_watches ["thing"] []
  g_are_watches : mg "are_watches" = some (.ref f_are_watches)
  f_is_room : Addr
  d_is_room : FuncData
  F_is_room : Fun K "is_room" "is_room" s_is_room f_is_room d_is_room
  b_is_room : Binds K d_is_room ["thing", "watches"] []
  g_is_room : mg "is_room" = some (.ref f_is_room)
  f_are_rooms : Addr
  d_are_rooms : FuncData
  F_are_rooms : Fun K "are_rooms" "are_rooms" s_are_rooms f_are_rooms d_are_rooms
  b_are_rooms : Binds K d_are_rooms ["thing", "watches"] []
  g_are_rooms : mg "are_rooms" = some (.ref f_are_rooms)
  f_is_door : Addr
  d_is_door : FuncData
  F_is_door : Fun K "is_door" "is_door" s_is_door f_is_door d_is_door
  b_is_door : Binds K d_is_door ["thing", "watches", "names"] []
  g_is_door : mg "is_door" = some (.ref f_is_door)
  f_Machine_init : Addr
  d_Machine_init : FuncData
  F_Machine_init : Fun K "__init__" "Machine.__init__" s_Machine_init f_Machine_init d_Machine_init
  b_Machine_init : Binds K d_Machine_init ["self", "watches", "rooms", "doors"] []
  mk_Machine : Mk K C_Machine f_Machine_init
  f_Machine_watches : Addr
  d_Machine_watches : FuncData
  F_Machine_watches : Fun K "watches" "Machine.watches" s_Machine_watches f_Machine_watches d_Machine_watches
  b_Machine_watches : Binds K d_Machine_watches ["self"] []
  m_Machine_watches : Meth K C_Machine "watches" f_Machine_watches
  f_Machine_rooms : Addr
  d_Machine_rooms : FuncData
  F_Machine_rooms : Fun K "rooms" "Machine.rooms" s_Machine_rooms f_Machine_rooms d_Machine_rooms
  b_Machine_rooms : Binds K d_Machine_rooms ["self"] []
  m_Machine_rooms : Meth K C_Machine "rooms" f_Machine_rooms
  f_Machine_doors : Addr
  d_Machine_doors : FuncData
  F_Machine_doors : Fun K "doors" "Machine.doors" s_Machine_doors f_Machine_doors d_Machine_doors
  b_Machine_doors : Binds K d_Machine_doors ["self"] []
  m_Machine_doors : Meth K C_Machine "doors" f_Machine_doors
  f_Machine_stay : Addr
  d_Machine_stay : FuncData
  F_Machine_stay : Fun K "stay" "Machine.stay" s_Machine_stay f_Machine_stay d_Machine_stay
  b_Machine_stay : Binds K d_Machine_stay ["self", "room"] []
  m_Machine_stay : Meth K C_Machine "stay" f_Machine_stay
  f_Machine_watch_number : Addr
  d_Machine_watch_number : FuncData
  F_Machine_watch_number : Fun K "watch_number" "Machine.watch_number" s_Machine_watch_number f_Machine_watch_number d_Machine_watch_number
  b_Machine_watch_number : Binds K d_Machine_watch_number ["self", "name"] []
  m_Machine_watch_number : Meth K C_Machine "watch_number" f_Machine_watch_number
  f_placed : Addr
  d_placed : FuncData
  F_placed : Fun K "placed" "placed" s_placed f_placed d_placed
  b_placed : Binds K d_placed ["machine", "guard"] []
  g_placed : mg "placed" = some (.ref f_placed)
  f_checked_goal : Addr
  d_checked_goal : FuncData
  F_checked_goal : Fun K "checked_goal" "checked_goal" s_checked_goal f_checked_goal d_checked_goal
  b_checked_goal : Binds K d_checked_goal ["machine", "goal"] []
  g_checked_goal : mg "checked_goal" = some (.ref f_checked_goal)
  f_with_long : Addr
  d_with_long : FuncData
  F_with_long : Fun K "with_long" "with_long" s_with_long f_with_long d_with_long
  b_with_long : Binds K d_with_long ["machine"] []
  g_with_long : mg "with_long" = some (.ref f_with_long)
  f_cut_off : Addr
  d_cut_off : FuncData
  F_cut_off : Fun K "cut_off" "cut_off" s_cut_off f_cut_off d_cut_off
  b_cut_off : Binds K d_cut_off ["machine", "room"] []
  g_cut_off : mg "cut_off" = some (.ref f_cut_off)
  f_through_search : Addr
  d_through_search : FuncData
  F_through_search : Fun K "through" "through" s_through_search f_through_search d_through_search
  b_through_search : Binds K d_through_search ["machine", "zone", "door"] []
  g_through_search : mg "through_search" = some (.ref f_through_search)
  f_lets_by : Addr
  d_lets_by : FuncData
  F_lets_by : Fun K "lets_by" "lets_by" s_lets_by f_lets_by d_lets_by
  b_lets_by : Binds K d_lets_by ["machine", "goal", "paper"] []
  g_lets_by : mg "lets_by" = some (.ref f_lets_by)
  f_Claim_made_of : Addr
  d_Claim_made_of : FuncData
  F_Claim_made_of : Fun K "made_of" "Claim.made_of" s_Claim_made_of f_Claim_made_of d_Claim_made_of
  b_Claim_made_of : Binds K d_Claim_made_of ["self", "machine"] []
  f_Claim_asked_of : Addr
  d_Claim_asked_of : FuncData
  F_Claim_asked_of : Fun K "asked_of" "Claim.asked_of" s_Claim_asked_of f_Claim_asked_of d_Claim_asked_of
  b_Claim_asked_of : Binds K d_Claim_asked_of ["self", "machine"] []
  f_Claim_goal_on : Addr
  d_Claim_goal_on : FuncData
  F_Claim_goal_on : Fun K "goal_on" "Claim.goal_on" s_Claim_goal_on f_Claim_goal_on d_Claim_goal_on
  b_Claim_goal_on : Binds K d_Claim_goal_on ["self", "machine"] []
  f_Never_init : Addr
  d_Never_init : FuncData
  F_Never_init : Fun K "__init__" "Never.__init__" s_Never_init f_Never_init d_Never_init
  b_Never_init : Binds K d_Never_init ["self", "room", "guard"] []
  mk_Never : Mk K C_Never f_Never_init
  f_Never_named : Addr
  d_Never_named : FuncData
  F_Never_named : Fun K "named" "Never.named" s_Never_named f_Never_named d_Never_named
  b_Never_named : Binds K d_Never_named ["self"] []
  m_Never_named : Meth K C_Never "named" f_Never_named
  f_NoSooner_init : Addr
  d_NoSooner_init : FuncData
  F_NoSooner_init : Fun K "__init__" "NoSooner.__init__" s_NoSooner_init f_NoSooner_init d_NoSooner_init
  b_NoSooner_init : Binds K d_NoSooner_init ["self", "room", "guard", "number"] []
  mk_NoSooner : Mk K C_NoSooner f_NoSooner_init
  f_NoSooner_made_of : Addr
  d_NoSooner_made_of : FuncData
  F_NoSooner_made_of : Fun K "made_of" "NoSooner.made_of" s_NoSooner_made_of f_NoSooner_made_of d_NoSooner_made_of
  b_NoSooner_made_of : Binds K d_NoSooner_made_of ["self", "machine"] []
  m_NoSooner_made_of : Meth K C_NoSooner "made_of" f_NoSooner_made_of
  f_NoSooner_named : Addr
  d_NoSooner_named : FuncData
  F_NoSooner_named : Fun K "named" "NoSooner.named" s_NoSooner_named f_NoSooner_named d_NoSooner_named
  b_NoSooner_named : Binds K d_NoSooner_named ["self"] []
  m_NoSooner_named : Meth K C_NoSooner "named" f_NoSooner_named
  f_NoSooner_goal_on : Addr
  d_NoSooner_goal_on : FuncData
  F_NoSooner_goal_on : Fun K "goal_on" "NoSooner.goal_on" s_NoSooner_goal_on f_NoSooner_goal_on d_NoSooner_goal_on
  b_NoSooner_goal_on : Binds K d_NoSooner_goal_on ["self", "machine"] []
  m_NoSooner_goal_on : Meth K C_NoSooner "goal_on" f_NoSooner_goal_on
  f_Within_init : Addr
  d_Within_init : FuncData
  F_Within_init : Fun K "__init__" "Within.__init__" s_Within_init f_Within_init d_Within_init
  b_Within_init : Binds K d_Within_init ["self", "room", "number"] []
  mk_Within : Mk K C_Within f_Within_init
  f_Within_made_of : Addr
  d_Within_made_of : FuncData
  F_Within_made_of : Fun K "made_of" "Within.made_of" s_Within_made_of f_Within_made_of d_Within_made_of
  b_Within_made_of : Binds K d_Within_made_of ["self", "machine"] []
  m_Within_made_of : Meth K C_Within "made_of" f_Within_made_of
  f_Within_named : Addr
  d_Within_named : FuncData
  F_Within_named : Fun K "named" "Within.named" s_Within_named f_Within_named d_Within_named
  b_Within_named : Binds K d_Within_named ["self"] []
  m_Within_named : Meth K C_Within "named" f_Within_named
  f_Within_goal_on : Addr
  d_Within_goal_on : FuncData
  F_Within_goal_on : Fun K "goal_on" "Within.goal_on" s_Within_goal_on f_Within_goal_on d_Within_goal_on
  b_Within_goal_on : Binds K d_Within_goal_on ["self", "machine"] []
  m_Within_goal_on : Meth K C_Within "goal_on" f_Within_goal_on
  f_lets_claim : Addr
  d_lets_claim : FuncData
  F_lets_claim : Fun K "lets_claim" "lets_claim" s_lets_claim f_lets_claim d_lets_claim
  b_lets_claim : Binds K d_lets_claim ["claim", "machine", "paper"] []
  g_lets_claim : mg "lets_claim" = some (.ref f_lets_claim)
  f_l_cell_at : Addr
  d_l_cell_at : FuncData
  F_l_cell_at : Fun K "_law_cell_at" "_law_cell_at" s_l_cell_at f_l_cell_at d_l_cell_at
  b_l_cell_at : Binds K d_l_cell_at ["_law_script", "_law_k"] []
  g_l_cell_at : mg "_law_cell_at" = some (.ref f_l_cell_at)
  f_l_stream : Addr
  d_l_stream : FuncData
  F_l_stream : Fun K "_law_stream" "_law_stream" s_l_stream f_l_stream d_l_stream
  b_l_stream : Binds K d_l_stream ["_law_cell", "_law_many"] []
  g_l_stream : mg "_law_stream" = some (.ref f_l_stream)
  f_l_names : Addr
  d_l_names : FuncData
  F_l_names : Fun K "_law_names" "_law_names" s_l_names f_l_names d_l_names
  b_l_names : Binds K d_l_names ["_law_cell", "_law_many"] []
  g_l_names : mg "_law_names" = some (.ref f_l_names)
  f_l_number : Addr
  d_l_number : FuncData
  F_l_number : Fun K "_law_number" "_law_number" s_l_number f_l_number d_l_number
  b_l_number : Binds K d_l_number ["_law_x", "_law_unit"] []
  g_l_number : mg "_law_number" = some (.ref f_l_number)
  f_l_guard : Addr
  d_l_guard : FuncData
  F_l_guard : Fun K "_law_guard" "_law_guard" s_l_guard f_l_guard d_l_guard
  b_l_guard : Binds K d_l_guard ["_law_xs", "_law_unit", "_law_watches"] []
  g_l_guard : mg "_law_guard" = some (.ref f_l_guard)
  f_l_stay : Addr
  d_l_stay : FuncData
  F_l_stay : Fun K "_law_stay" "_law_stay" s_l_stay f_l_stay d_l_stay
  b_l_stay : Binds K d_l_stay ["_law_xs", "_law_unit", "_law_watches"] []
  g_l_stay : mg "_law_stay" = some (.ref f_l_stay)
  f_l_door : Addr
  d_l_door : FuncData
  F_l_door : Fun K "_law_door" "_law_door" s_l_door f_l_door d_l_door
  b_l_door : Binds K d_l_door ["_law_cell", "_law_unit", "_law_watches", "_law_many"] []
  g_l_door : mg "_law_door" = some (.ref f_l_door)
  f_l_machine : Addr
  d_l_machine : FuncData
  F_l_machine : Fun K "_law_machine" "_law_machine" s_l_machine f_l_machine d_l_machine
  b_l_machine : Binds K d_l_machine ["_law_script"] []
  g_l_machine : mg "_law_machine" = some (.ref f_l_machine)
  f_l_made : Addr
  d_l_made : FuncData
  F_l_made : Fun K "_law_made" "_law_made" s_l_made f_l_made d_l_made
  b_l_made : Binds K d_l_made ["_law_spec"] []
  g_l_made : mg "_law_made" = some (.ref f_l_made)
  f_l_scale : Addr
  d_l_scale : FuncData
  F_l_scale : Fun K "_law_scale" "_law_scale" s_l_scale f_l_scale d_l_scale
  b_l_scale : Binds K d_l_scale ["_law_spec"] []
  g_l_scale : mg "_law_scale" = some (.ref f_l_scale)
  f_l_claim : Addr
  d_l_claim : FuncData
  F_l_claim : Fun K "_law_claim" "_law_claim" s_l_claim f_l_claim d_l_claim
  b_l_claim : Binds K d_l_claim ["_law_cell", "_law_spec"] []
  g_l_claim : mg "_law_claim" = some (.ref f_l_claim)
  f_l_claimed : Addr
  d_l_claimed : FuncData
  F_l_claimed : Fun K "_law_claimed" "_law_claimed" s_l_claimed f_l_claimed d_l_claimed
  b_l_claimed : Binds K d_l_claimed ["_law_claim_here", "_law_spec"] []
  g_l_claimed : mg "_law_claimed" = some (.ref f_l_claimed)
  f_l_told : Addr
  d_l_told : FuncData
  F_l_told : Fun K "_law_told" "_law_told" s_l_told f_l_told d_l_told
  b_l_told : Binds K d_l_told ["_law_machine_here"] []
  g_l_told : mg "_law_told" = some (.ref f_l_told)
  f_l_due : Addr
  d_l_due : FuncData
  F_l_due : Fun K "_law_due" "_law_due" s_l_due f_l_due d_l_due
  b_l_due : Binds K d_l_due ["_law_spec", "_law_claim_here"] []
  g_l_due : mg "_law_due" = some (.ref f_l_due)
  f_l_spoilt : Addr
  d_l_spoilt : FuncData
  F_l_spoilt : Fun K "_law_spoilt" "_law_spoilt" s_l_spoilt f_l_spoilt d_l_spoilt
  b_l_spoilt : Binds K d_l_spoilt ["_law_spec", "_law_claim_here", "_law_cell"] []
  g_l_spoilt : mg "_law_spoilt" = some (.ref f_l_spoilt)
  f_l_numbered : Addr
  d_l_numbered : FuncData
  F_l_numbered : Fun K "_law_numbered" "_law_numbered" s_l_numbered f_l_numbered d_l_numbered
  b_l_numbered : Binds K d_l_numbered ["_law_spec", "_law_claim_here", "_law_cell"] []
  g_l_numbered : mg "_law_numbered" = some (.ref f_l_numbered)
  f_l_refused : Addr
  d_l_refused : FuncData
  F_l_refused : Fun K "_law_refused" "_law_refused" s_l_refused f_l_refused d_l_refused
  b_l_refused : Binds K d_l_refused ["_law_claim_here", "_law_machine_here"] []
  g_l_refused : mg "_law_refused" = some (.ref f_l_refused)
  f_law : Addr
  d_law : FuncData
  F_law : Fun K "law" "law" s_law f_law d_law
  b_law : Binds K d_law ["_law_script"] []
  g_law : mg "law" = some (.ref f_law)
  mi_Never_asked_of : Meth K C_Never "asked_of" f_Claim_asked_of
  mi_Never_goal_on : Meth K C_Never "goal_on" f_Claim_goal_on
  mi_Never_made_of : Meth K C_Never "made_of" f_Claim_made_of
  mi_NoSooner_asked_of : Meth K C_NoSooner "asked_of" f_Claim_asked_of
  mi_Within_asked_of : Meth K C_Within "asked_of" f_Claim_asked_of
  C_BadMachine : Addr
  g_BadMachine : mg "BadMachine" = some (.ref C_BadMachine)
  x_BadMachine : PySem.W.excIn K C_BadMachine [.type "ValueError", .type "Exception", .type "BaseException", .type "object"] "ValueError.__new__" = true
  k_BadMachine : PySem.W.keepIn K (.ref C_BadMachine) = true
  b_BadMachine : PySem.W.subIn K (.ref C_BadMachine) (.type "BaseException") = some true
  t_BadMachine : PySem.W.typeIn K (.ref C_BadMachine) = some (.type "type")
  i_BadMachine : PySem.W.isClsIn K C_BadMachine = true
  C_TooMany : Addr
  g_TooMany : mg "TooMany" = some (.ref C_TooMany)
  x_TooMany : PySem.W.excIn K C_TooMany [.type "ValueError", .type "Exception", .type "BaseException", .type "object"] "ValueError.__new__" = true
  k_TooMany : PySem.W.keepIn K (.ref C_TooMany) = true
  b_TooMany : PySem.W.subIn K (.ref C_TooMany) (.type "BaseException") = some true
  t_TooMany : PySem.W.typeIn K (.ref C_TooMany) = some (.type "type")
  i_TooMany : PySem.W.isClsIn K C_TooMany = true
  C_NoMark : Addr
  g_NoMark : mg "NoMark" = some (.ref C_NoMark)
  x_NoMark : PySem.W.excIn K C_NoMark [.type "ValueError", .type "Exception", .type "BaseException", .type "object"] "ValueError.__new__" = true
  k_NoMark : PySem.W.keepIn K (.ref C_NoMark) = true
  b_NoMark : PySem.W.subIn K (.ref C_NoMark) (.type "BaseException") = some true
  t_NoMark : PySem.W.typeIn K (.ref C_NoMark) = some (.type "type")
  i_NoMark : PySem.W.isClsIn K C_NoMark = true
  C_Claim : Addr
  g_Claim : mg "Claim" = some (.ref C_Claim)
  k_Claim : PySem.W.keepIn K (.ref C_Claim) = true
  i_Claim : PySem.W.isClsIn K C_Claim = true
  t_LETTERS : Tok
  g_LETTERS : mg "LETTERS" = some (.str "abcdefghijklmnopqrstuvwxyz" t_LETTERS)
  t_LONG : Tok
  g_LONG : mg "LONG" = some (.str "/" t_LONG)
  t_MOST_DOORS : Tok
  g_MOST_DOORS : mg "MOST_DOORS" = some (.int 200 t_MOST_DOORS)
  t_MOST_ROOMS : Tok
  g_MOST_ROOMS : mg "MOST_ROOMS" = some (.int 64 t_MOST_ROOMS)
  t_MOST_WATCHES : Tok
  g_MOST_WATCHES : mg "MOST_WATCHES" = some (.int 7 t_MOST_WATCHES)
  m_all : mg "all" = none
  m_bool : mg "bool" = none
  m_int : mg "int" = none
  m_isinstance : mg "isinstance" = none
  m_len : mg "len" = none
  m_list : mg "list" = none
  m_max : mg "max" = none
  m_range : mg "range" = none
  m_set : mg "set" = none
  m_str : mg "str" = none
  m_tuple : mg "tuple" = none
  kk_N_C : PySem.W.kitOne K (.ref C_Never) (.ref C_Claim) = some true
  kk_S_C : PySem.W.kitOne K (.ref C_NoSooner) (.ref C_Claim) = some true
  kk_W_C : PySem.W.kitOne K (.ref C_Within) (.ref C_Claim) = some true
  e4_BadMachine : PySem.W.hasDictIn K C_BadMachine = true
  e4_NoMark : PySem.W.hasDictIn K C_NoMark = true
  s_BadMachine_BadMachine : PySem.W.subIn K (.ref C_BadMachine) (.ref C_BadMachine) = some true
  s_NoMark_BadMachine : PySem.W.subIn K (.ref C_NoMark) (.ref C_BadMachine) = some false
  s_NoMark_NoMark : PySem.W.subIn K (.ref C_NoMark) (.ref C_NoMark) = some true
/-! ### len(set(xs)) of a list of texts -/
/-- the set at a holds the first i texts: it has i members just where no two of these are one -/
def SetUp (P : Program) (w : World) (h : Heap) (a : Addr) (xs : List Str) (i : Nat) : Prop :=
  ∃ c, c ≤ i ∧ (c = i ↔ (xs.take i).Nodup) ∧ h.SetOf (PySem.strKind P w) a (fun k => decide (k ∈ xs.take i)) c
section
variable {P : Program} {w : World} {A : Around} {h h' : Heap} {a it : Addr} {xs : List Str} {i n : Nat}
theorem SetUp.keep (U : SetUp P w h a xs i) (k : ∀ o, h.get? a = some o → h'.get? a = some o) : SetUp P w h' a xs i := by
  obtain ⟨c, hc, hd, o, es, ep, t, ho, r⟩ := U
  exact ⟨c, hc, hd, o, es, ep, t, k o ho, r⟩
theorem nodup_snoc {l : List Str} {x : Str} : (l ++ [x]).Nodup ↔ l.Nodup ∧ x ∉ l := by
  rw [List.nodup_append]
  constructor
  · rintro ⟨p, _, q⟩
    exact ⟨p, fun hx => q x hx x (List.mem_singleton.mpr rfl) rfl⟩
  · rintro ⟨p, q⟩
    exact ⟨p, by simp, fun y hy z hz e => q (by rw [← List.mem_singleton.mp hz, ← e]; exact hy)⟩
theorem setUp_add {c : Nat} {x : Str} (hx : xs[i]? = some x) (hc : c ≤ i) (hd : c = i ↔ (xs.take i).Nodup)
    (S : h.SetOf (PySem.strKind P w) a (fun k => decide (k ∈ xs.take i) || decide (k = x)) (if decide (x ∈ xs.take i) = true then c else c + 1)) : SetUp P w h a xs (i + 1) := by
  have e : xs.take (i + 1) = xs.take i ++ [x] := by rw [List.take_add_one, hx]; rfl
  refine ⟨_, ?_, ?_, PyProof.Rows.SetOf_congr S (fun k => by rw [e]; simp) rfl⟩
  · split <;> omega
  · rw [e, nodup_snoc, ← hd]
    by_cases m : x ∈ xs.take i
    · rw [if_pos (decide_eq_true m)]
      exact ⟨fun z => by omega, fun z => absurd m z.2⟩
    · rw [if_neg (by simpa using m)]
      exact ⟨fun z => ⟨by omega, m⟩, fun z => by omega⟩
theorem setUp_loop {R : Result → Shared → Prop} {fp wr : List Addr} {G : Array GenState → Array GenState → Prop} {Pv : Nat → Value → Prop} {St : Nat → Shared → Prop} (W : WalksS P w A.in1 it fp wr G n Pv St) (ha : a ∉ fp)
    (few : n + 1 < scanBound) (hv : ∀ i v, Pv i v → ∃ x t, xs[i]? = some x ∧ v = Value.str x t) (k : Nat) : ∀ (i : Nat) (s : Shared), i + k = n → St i s → SetUp P w s.heap a xs i →
    (∀ z, Moved (a :: wr) G s z → SetUp P w z.heap a xs n → R (.ok (.ret .none)) z) → codeAny (model P w) A (.builtin "set.update.loop" ⟨[.ref a, .ref it], []⟩) R s := by
  have aw : a ∉ wr := fun z => ha (W.sub _ z)
  have up : ∀ b ∈ wr, b ∈ a :: wr := fun b z => List.mem_cons_of_mem _ z
  induction k with
  | zero =>
    intro i s hk st U fin
    obtain rfl : i = n := by omega
    refine codeAny_builtin PyProof.Rows.F.entry_set_update_loop (by rw [Around.under_plainId PyProof.Rows.F.plain_set_update_loop _]; exact wpAny_bind (W.done s _ _ st fun z m => wpAny_pure (fin z (m.mono up) (U.keep fun o e => m.heap a o aw e))))
  | succ k ih =>
    intro i s hk st U fin
    refine codeAny_builtin PyProof.Rows.F.entry_set_update_loop ?_; rw [Around.under_plainId PyProof.Rows.F.plain_set_update_loop _]
    refine wpAny_bind (m := pyNext (.ref it)) (W.item i s _ _ (by omega) st fun v z pv sz m => ?_)
    obtain ⟨x, t, hx, rfl⟩ := hv i v pv
    obtain ⟨c, hc, hd, S⟩ := U.keep fun o e => m.heap a o aw e
    refine wpAny_bind (m := holding [Value.str x t] (setAdd a (.str x t))) (wpAny_holding ?_)
    unfold setAdd
    refine wpAny_holding (wpAny_bind ((PySem.strKind P w).pyHash (k := x) (strKind_is _ _ _ _) ?_))
    refine wpAny_setAddHashed_of (knd := PySem.strKind P w) (s := { z with toks := z.toks + 1 }) (strKind_is _ _ _ _) rfl S (by omega) fun g sb S2 => wpAny_pure ⟨plainId_quiet PyProof.Rows.F.plain_set_update_loop _, ?_⟩
    refine ih (i + 1) _ (by omega) (W.frame _ z _ _ sz (Nat.le_succ _) fun b hb o e => ?_) (setUp_add hx hc hd S2) fun y m2 U2 => fin y (Moved.trans W.gtrans ((m.mono up).then_heap (Nat.le_succ _) fun b o hb e => ?_) m2) U2
    · exact (sb.2 b fun q => ha (q ▸ hb)).trans e
    · exact (sb.2 b fun q => hb (q ▸ List.mem_cons_self)).trans e
end
/-- a set that was just made -/
abbrev rawSet (led : Bool) : Obj := { cls := .type "set", dict := none, data := .set #[] 0 (.fresh 0 0 led) }
section
variable {P : Program} {w : World} {A : Around} {E : Value → Shared → Prop}
theorem setUp_init {s : Shared} {l a : Addr} {items : Array Value} {xs : List Str} {led : Bool} {Q : Value → Shared → Prop} (hh : A.handled = none) (hl : s.heap.IsList l items) (hn : items.size = xs.length) (few : xs.length + 1 < scanBound)
    (hv : ∀ (i : Nat) (v : Value), items[i]? = some v → ∃ (x : Str) (t : Tok), xs[i]? = some x ∧ v = Value.str x t) (ho : s.heap.get? a = some (rawSet led)) (al : a ≠ l)
    (fin : ∀ g tk, SetUp P w g a xs xs.length → (∀ b o, b ≠ a → s.heap.get? b = some o → g.get? b = some o) → Q .none { s with heap := g, toks := tk }) :
    wpAny (model P w) A.in1 (Builtin.«set.__init__» ⟨[.ref a, .ref l], []⟩) (fun r z => ∃ v, r = .done (.ret v) ∧ Q v z) E s := by
  obtain ⟨⟨ocls, odict, odata, oslots⟩, eo, ec, nl, ed⟩ := hl
  simp only at ec ed
  subst ec; subst ed
  have lst : s.heap.IsList l items := ⟨_, eo, rfl, nl, rfl⟩
  have f1 := PySem.F.sub_list_set
  have f2 := PySem.F.sub_list_frozenset
  have f3 : (Value.type "list" == Value.type "dict") = false := by decide
  unfold Builtin.«set.__init__» noKeywords Builtin.Frozenset.updateFrom
  generalize hp : pyIter = PI
  wp_walk
  subst hp
  refine wpAny_pyIter_list lst (wpAny_bind (wpAny_runValue ?_))
  have la : a < s.heap.objs.size := Heap.lt_size ho
  have ll : l < s.heap.objs.size := Heap.lt_size eo
  refine setUp_loop ((Walks.list (by simp [hh]) _ l (Nat.ne_of_lt ll) items).toS) ?_ (n := items.size) (by omega) hv items.size 0 _ (by omega) ⟨⟨_, Heap.get?_push_size _ rfl, rfl, rfl⟩, lst.push _⟩ ?_ fun z m U => ?_
  · intro z
    rcases List.mem_cons.mp z with z | z
    · exact absurd z (Nat.ne_of_lt la)
    · exact al (List.mem_singleton.mp z)
  · exact ⟨0, Nat.le_refl 0, by simp, PyProof.Rows.SetOf_congr ((PyProof.Rows.setObjOf_fresh (knd := PySem.strKind P w) led).setOf (Heap.get?_push_of_some _ ho) (by decide)) (fun k => by simp) rfl⟩
  · obtain ⟨g, gs, dr, tk, os⟩ := z
    obtain rfl : gs = s.gens := m.gens
    obtain rfl : dr = s.drawn := m.drawn
    obtain rfl : os = s.os := m.os
    rw [hn] at U
    refine wpAny_pure (wpAny_pure ⟨.none, rfl, fin g tk U fun b o hb e => m.heap b o (fun z => ?_) (Heap.get?_push_of_some _ e)⟩)
    have := Heap.lt_size e
    rcases List.mem_cons.mp z with z | z
    · exact hb z
    · exact absurd (List.mem_singleton.mp z) (Nat.ne_of_lt this)
end
section
variable {P : Program} {w : World} {A : Around} {E : Value → Shared → Prop}
theorem set_texts {s : Shared} {l : Addr} {items : Array Value} {xs : List Str} {Q : Value → Shared → Prop} (hh : A.handled = none) (hl : s.heap.IsList l items) (hn : items.size = xs.length) (few : xs.length + 1 < scanBound)
    (hv : ∀ (i : Nat) (v : Value), items[i]? = some v → ∃ (x : Str) (t : Tok), xs[i]? = some x ∧ v = Value.str x t)
    (fin : ∀ g tk, SetUp P w g s.heap.objs.size xs xs.length → (∀ b o, s.heap.get? b = some o → g.get? b = some o) → Q (.ref s.heap.objs.size) { s with heap := g, toks := tk }) :
    wpAny (model P w) A (call (.type "set") [.ref l]) Q E s := by
  obtain ⟨cs, tl, f0⟩ := PySem.F.called_set.mro
  have f1 := PySem.F.called_set.made
  have f2 := PySem.F.called_set.sub
  have f3 := PySem.F.called_set.notType
  have f4 := PySem.F.called_set.canCreate
  have f5 := PySem.F.typeCall_set_1 (.ref l)
  refine wpAny_call (codeAny_of_tree (wpAny_pure ⟨Code.quiet_builtin _ (by decide +kernel), codeAny_builtin PySem.F.entry_type_call ?_⟩))
  rw [Around.under_plain (weight_type_call_type "set" [.ref l] []) rfl]
  repeat (any_goals (first | assumption | wp_step))
  refine codeAny_mono (code_set_new_1 (.ref l) (E := E) (Q₁ := fun v z => ∃ led : Bool, v = .ref s.heap.objs.size ∧ z = { s with heap := s.heap.push (rawSet led) }) fun led => ⟨led, rfl, rfl⟩) fun r z hr => ?_
  rcases r with e | f
  · exact hr
  cases f with
  | ret v =>
    obtain ⟨led, rfl, rfl⟩ := hr
    have ho : (s.heap.push (rawSet led)).get? s.heap.objs.size = some (rawSet led) := Heap.get?_push_size _ rfl
    have ty : Shared.TypeIs { s with heap := s.heap.push (rawSet led) } (.ref s.heap.objs.size) "set" := ⟨_, ho, rfl⟩
    have f6 := PySem.F.called_set.init.lookup
    have f7 := PySem.F.called_set.init.bind (.ref s.heap.objs.size)
    repeat (any_goals (first | assumption | wp_step))
    obtain ⟨ol, eo, _⟩ := id hl
    have ll : l < s.heap.objs.size := Heap.lt_size eo
    have body := setUp_init (P := P) (w := w) (A := A.in1) (E := E) (s := { s with heap := s.heap.push (rawSet led) }) (led := led) (Q := fun v z => v = .none ∧ ∃ g tk, z = { s with heap := g, toks := tk } ∧ SetUp P w g s.heap.objs.size xs xs.length ∧ ∀ b o, s.heap.get? b = some o → g.get? b = some o) (by simp [hh]) (hl.push _) hn few hv ho (Nat.ne_of_gt ll)
      fun g tk U k => ⟨rfl, g, tk, rfl, U, fun b o e => k b o (Nat.ne_of_lt (Heap.lt_size e)) (Heap.get?_push_of_some _ e)⟩
    refine codeAny_call_builtin PySem.F.called_set.init.plain PySem.F.entry_set_init (check_set_init_1 ty (wpAny_mono body (fun r z hr => ?_) (fun e z he => he)))
    obtain ⟨v, rfl, rfl, g, tk, rfl, U, k⟩ := hr
    repeat (any_goals (first | assumption | wp_step))
    exact fin g tk U k
  | _ => exact hr.elim
end
def tLenSetN (K : PySem.W.Frag) (ta : TE) : TE := fun σ H Q => ta σ H fun x H1 => ∃ l, ∃ xs : List Str, x = .ref l ∧ SqL K H1 l (xs.map V.str) ∧ xs.length + 1 < scanBound ∧ ∀ c : Nat, c ≤ xs.length → (c = xs.length ↔ xs.Nodup) → Q (.int c) H1
section
variable {X : Cx}
theorem pe_lenSetN {a : Expr} {ta : TE} {p p2 q pos : Pos} (hc : X.calm = true) (hg : Gl X "len") (hm : X.mg "len" = none) (hg2 : Gl X "set") (hm2 : X.mg "set" = none) (ha : PE X a ta)
    (na : starEach [a] X.env = (false, eval a X.env) :: starEach [] X.env := by rfl) : PE X (.Call (.Name "len" p) [.Call (.Name "set" p2) [a] [] q] [] pos) (tLenSetN X.K ta) := by
  refine ⟨fun pins s σ H Q I h => Call_ (ld_blt I hg hm boot_len (PyProof.Rows.callWith_builtin1 (PyProof.Rows.args_cons (Call_ (ld_blt I hg2 hm2 boot_set ?_)) rfl) rfl rfl))⟩
  refine PyProof.Rows.callWith_type1 (PyProof.Rows.args_cons (thn (ha.run pins s σ H _ I h) fun v z ⟨x, H1, J, r, t⟩ => PyProof.Rows.args_nil ?_) na) na rfl
  obtain ⟨l, xs, rfl, hq, few, t⟩ := t
  cases r
  obtain ⟨its, rv, pl, _⟩ := J.list hq
  have hl : its.toArray.size = xs.length := by rw [List.size_toArray, ← rv.length, List.length_map]
  refine set_texts (J.ok.hd hc) pl.isList hl few (fun i v hv => ?_) fun g tk U k => PyProof.Rows.args_nil ?_
  · have hi : i < xs.length := by rw [← hl]; exact (Array.getElem?_eq_some_iff.mp hv).1
    have hx := List.getElem?_eq_getElem hi
    obtain ⟨u, hu, t, rfl⟩ := rv.get (i := i) (x := .str xs[i]) (by rw [List.getElem?_map, hx]; rfl)
    rw [List.getElem?_toArray, hu] at hv
    exact ⟨xs[i], t, hx, (Option.some.inj hv).symm⟩
  · obtain ⟨c, hc, hd, o, es, ep, tb, ho, he, hd2, _, _, _, hf, hs⟩ := U
    rw [List.take_length] at hd
    have J2 : Inv X pins σ H1 { z with heap := g, toks := tk } := J.kept k
    refine call_len_set ho he hd2 hf (by rw [hs]; unfold scanBound at few; omega) ⟨.int c, H1, J2.tok _, ⟨_, by rw [hs]⟩, t c hc hd⟩
end
/-! ### dicts of values -/
section
variable {X : Cx} {pins : List (Addr × Obj)} {σ : L2.St} {H : Hp} {s : Shared} {a b : Addr} {kvs more : List (Key × V)} {A : Around} {E : Value → Shared → Prop}
end
/-- values of some places, in a dict -/
structure DAt (H : Hp) (d : Addr) (n : Nat) (F : Nat → Option (Int × Int)) (kvs : List (Key × V)) : Prop where
  here : H d = some (.dK kvs)
  mem : ∀ k v, (k, v) ∈ kvs → ∃ (j : Nat) (x : Int × Int) (q : Addr), j < n ∧ k = .inl (j : Int) ∧ v = .ref q ∧ F j = some x ∧ H q = some (.tup [.int x.1, .int x.2])
  cov : ∀ (j : Nat) x, F j = some x → ∃ v, ((.inl (j : Int) : Key), v) ∈ kvs
theorem valV_mem {kvs : List (Key × V)} {k : Key} {v : V} (h : valV kvs k = some v) : (k, v) ∈ kvs := by
  unfold valV at h
  obtain ⟨p, hp, rfl⟩ := Option.map_eq_some_iff.mp h
  have h1 := List.mem_of_find?_eq_some hp
  have h2 := List.find?_some hp
  have h2 : p.1 = k := of_decide_eq_true h2
  rw [← h2]; exact h1
theorem valV_ex {kvs : List (Key × V)} {k : Key} {v : V} (h : (k, v) ∈ kvs) : ∃ w, valV kvs k = some w := by
  unfold valV
  cases hf : kvs.find? fun kv => decide (kv.1 = k) with
  | none =>
    have := List.find?_eq_none.mp hf (k, v) h
    simp at this
  | some p => exact ⟨p.2, rfl⟩
theorem DAt.val {H : Hp} {d : Addr} {n : Nat} {F : Nat → Option (Int × Int)} {kvs : List (Key × V)} (D : DAt H d n F kvs) {j : Nat} {x : Int × Int} (h : F j = some x) : ∃ q, valV kvs (.inl (j : Int)) = some (.ref q) ∧ H q = some (.tup [.int x.1, .int x.2]) := by
  obtain ⟨v, hv⟩ := D.cov j x h
  obtain ⟨w, hw⟩ := valV_ex hv
  obtain ⟨j', x', q, _, ek, ev, ef, eq⟩ := D.mem _ _ (valV_mem hw)
  have ek : (j : Int) = (j' : Int) := Sum.inl.inj ek
  have ej : j = j' := by omega
  subst ej
  rw [h] at ef; cases ef
  exact ⟨q, by rw [hw, ev], eq⟩
theorem DAt.no {H : Hp} {d : Addr} {n : Nat} {F : Nat → Option (Int × Int)} {kvs : List (Key × V)} (D : DAt H d n F kvs) {j : Nat} (h : F j = none) : valV kvs (.inl (j : Int)) = none := by
  cases hw : valV kvs (.inl (j : Int)) with
  | none => rfl
  | some w =>
    obtain ⟨j', x', q, _, ek, ev, ef, eq⟩ := D.mem _ _ (valV_mem hw)
    have ek : (j : Int) = (j' : Int) := Sum.inl.inj ek
    have ej : j = j' := by omega
    subst ej
    rw [h] at ef; cases ef
theorem DAt.keep {H H' : Hp} {d : Addr} {n : Nat} {F : Nat → Option (Int × Int)} {kvs : List (Key × V)} (D : DAt H d n F kvs) (s : Same H H') : DAt H' d n F kvs :=
  ⟨s _ _ D.here, fun k v h => by
    obtain ⟨j, x, q, a, b, c, e, f⟩ := D.mem k v h
    exact ⟨j, x, q, a, b, c, e, s _ _ f⟩, D.cov⟩
/-! ### comprehensions over a list -/
/-- what stands behind the source of a comprehension -/
def LcL (K : PySem.W.Frag) (a : Addr) (c : Nat) (te : TE) (σ : L2.St) (H1 : Hp) (Q : VK) : Prop := ∀ D, H1 D = none → ∃ W : Nat → Nat → Hp → Prop, (∃ m, W 0 m (upd H1 D (.lst []))) ∧ ∀ i m H, W i m H →
  ((Itl K a).stop i H ∧ Q (.ref D) H) ∨ ((Itl K a).go i H ∧ ∃ Nx : Hp → Prop, (∀ H', Nx H' → ∃ m', m' < m ∧ W (i + 1) m' H') ∧ ∀ x H', (Itl K a).yld i H x H' → gName c x (wipe σ [c]) H' fun σ2 H2 => wipe σ2 [c] = wipe σ [c] ∧ tYes σ2 H2 fun b H3 =>
    if b = true then te σ2 H3 fun y H4 => ∃ acc, H4 D = some (.lst acc) ∧ acc.length < sizeLine ∧ Nx (upd H4 D (.lst (acc ++ [y]))) else Nx H3)
theorem lc_src {K : PySem.W.Frag} {ts te : TE} {c : Nat} {σ : L2.St} {H : Hp} {Q : VK} (h : ts σ H fun x H1 => ∃ a, x = .ref a ∧ (∃ xs, SqL K H1 a xs) ∧ LcL K a c te σ H1 Q) : tLc (iList K ts) (gName c) tYes te [c] σ H Q := h
/-- each value turned into a value -/
theorem lcL_vals {K : PySem.W.Frag} {a : Addr} {c : Nat} {te : TE} {σ : L2.St} {H : Hp} {Q : VK} {xs : List V} {f : Nat → V} (hx : H a = some (.lst xs)) (hn : xs.length ≤ 900) (hc : c < σ.length)
    (ht : ∀ i x H2 (Q1 : VK), xs[i]? = some x → Same H H2 → (∀ H3, Same H2 H3 → Q1 (f i) H3) → te ((σ.set c none).set c (some x)) H2 Q1)
    (q : ∀ D H', Same H H' → H D = none → H' D = some (.lst ((List.range xs.length).map f)) → Q (.ref D) H') : LcL K a c te σ H Q := fun D hD => by
  refine lc_list (K := K) (a := a) (xs := xs) (fun i H' => Same H H' ∧ H' D = some (.lst ((List.range i).map f))) ⟨upd_keep hD, upd_same⟩ (fun i H' _ ⟨s, _⟩ => .of (s _ _ hx)) ?_ ?_
  · rintro i x H' hi ⟨sm, eD⟩
    have hin := (List.getElem?_eq_some_iff.mp hi).1
    refine ⟨?_, ?_⟩
    · show ((σ.set c none).set c (some x)).set c none = σ.set c none
      rw [List.set_set, List.set_set]
    refine ht i x H' _ hi sm fun H3 s3 => ?_
    refine ⟨(List.range i).map f, s3 _ _ eD, by rw [List.length_map, List.length_range]; exact small1000 (by omega), same_updN hD (sm.trans s3), ?_⟩
    rw [upd_same, List.range_succ, List.map_append]
    rfl
  · rintro H' ⟨sm, eD⟩
    exact q D H' sm hD eD
/-! ### looks, guards, rooms, doors, machines on the heap -/
theorem tFor_str {te : TE} {g : TG} {tb : TS} {D : Ends} {σ : L2.St} {H : Hp} (h : te σ H fun x H1 => ∃ z : Str, x = .str z ∧ ∃ Pv : Nat → L2.St → Hp → Prop, Pv 0 σ H1 ∧
    (∀ i σ H c, z.cps.toList[i]? = some c → Pv i σ H → g (.str ⟨#[c]⟩) σ H fun σ2 H2 => tb { D with nx := Pv (i + 1), ct := Pv (i + 1), bk := D.nx } σ2 H2) ∧ ∀ σ H, Pv z.cps.toList.length σ H → D.nx σ H) (mono : ∀ (Q R : VK), (∀ v H, Q v H → R v H) → te σ H Q → te σ H R) : tFor (iStr te) g tb D σ H := by
  refine mono _ _ (fun v H1 ⟨z, hz, Pv, h0, hs, hd⟩ => ⟨z, hz, fun i m σ H => m = z.cps.toList.length - i ∧ i ≤ z.cps.toList.length ∧ Pv i σ H, ⟨_, rfl, Nat.zero_le _, h0⟩, ?_⟩) h
  rintro i m σ H ⟨rfl, hi, p⟩
  rw [Array.length_toList] at hi
  by_cases c : i < z.cps.size
  · refine .inr ⟨c, Pv (i + 1), fun σ' H' p' => ⟨z.cps.toList.length - (i + 1), by rw [Array.length_toList]; omega, rfl, by rw [Array.length_toList]; omega, p'⟩, ?_⟩
    rintro x H' ⟨rfl, c, hc, rfl⟩
    exact hs i σ H' c (by rw [Array.getElem?_toList]; exact hc) p
  · have e : i = z.cps.toList.length := by rw [Array.length_toList]; omega
    exact .inl ⟨by show z.cps.size ≤ i; omega, hd σ H (e ▸ p)⟩
/-- a text's look by its signs: one to most of some signs -/
def okT (x signs : Str) (most : Int) : Bool := decide (1 ≤ (x.length : Int)) && decide ((x.length : Int) ≤ most) && x.cps.toList.all fun c => decide (c ∈ signs.cps.toList)
abbrev letters : Str := "abcdefghijklmnopqrstuvwxyz"
def okName (x : Str) : Bool := okT x letters 8
def okWatch (x : Str) : Bool := decide (x = "/") || okName x
def okSign (x : Str) : Bool := decide (x = "") || (match x.cps.toList.getLast? with | some c => decide (c ∈ ("!?" : Str).cps.toList) && okName (cutS x none (some (-1))) | none => false)
/-- a look as it is told: a watch, a word, some value -/
abbrev Lq := Str × Str × V
/-- flat values with their kind -/
def kindV : V → Option String
  | .non => some "NoneType"
  | .bl _ => some "bool"
  | .int _ => some "int"
  | .str _ => some "str"
  | _ => none
def numOk : V → Bool
  | .int n => decide (0 ≤ n)
  | _ => false
def lookOk (ws watches : List Str) (l : Lq) : Bool := decide (l.1 ∈ watches) && decide (l.2.1 ∈ ws) && numOk l.2.2
def lookD : V → PyData
  | .bl b => .bool b
  | .int i => .int i
  | .str x => .str x
  | _ => .none
def LqAt (H : Hp) (q : Addr) (l : Lq) : Prop := H q = some (.tup [.str l.1, .str l.2.1, l.2.2]) ∧ (kindV l.2.2).isSome = true
/-- a list of things at new or old addresses -/
def SeqOf {α : Type} (R : Hp → Addr → α → Prop) (H : Hp) (p : Addr) (xs : List α) : Prop := ∃ qs : List Addr, H p = some (.lst (qs.map V.ref)) ∧ qs.length = xs.length ∧ ∀ (i : Nat) (q : Addr) (x : α), qs[i]? = some q → xs[i]? = some x → R H q x
theorem SeqOf.keep {α : Type} {R : Hp → Addr → α → Prop} {H H' : Hp} {p : Addr} {xs : List α} (k : ∀ q x, R H q x → R H' q x) (s : Same H H') (h : SeqOf R H p xs) : SeqOf R H' p xs := by
  obtain ⟨qs, a, b, c⟩ := h
  exact ⟨qs, s _ _ a, b, fun i q x h1 h2 => k q x (c i q x h1 h2)⟩
theorem LqAt.keep {H H' : Hp} {q : Addr} {l : Lq} (s : Same H H') (h : LqAt H q l) : LqAt H' q l := ⟨s _ _ h.1, h.2⟩
abbrev LsAt (H : Hp) (p : Addr) (ls : List Lq) : Prop := SeqOf LqAt H p ls
theorem LsAt.keep {H H' : Hp} {p : Addr} {ls : List Lq} (h : LsAt H p ls) (s : Same H H') : LsAt H' p ls := SeqOf.keep (fun _ _ => LqAt.keep s) s h
/-- a room with its stay; a mark -/
abbrev Rq := Str × List Lq
def RqAt (H : Hp) (q : Addr) (r : Rq) : Prop := ∃ g, H q = some (.tup [.str r.1, .ref g]) ∧ LsAt H g r.2
theorem RqAt.keep {H H' : Hp} {q : Addr} {r : Rq} (s : Same H H') (h : RqAt H q r) : RqAt H' q r := by
  obtain ⟨g, a, b⟩ := h
  exact ⟨g, s _ _ a, b.keep s⟩
abbrev RsAt (H : Hp) (p : Addr) (rs : List Rq) : Prop := SeqOf RqAt H p rs
theorem RsAt.keep {H H' : Hp} {p : Addr} {rs : List Rq} (h : RsAt H p rs) (s : Same H H') : RsAt H' p rs := SeqOf.keep (fun _ _ => RqAt.keep s) s h
structure DoorD where
  st : Str
  en : Str
  sg : Str
  looks : List Lq
  backs : List Str
def doorF (st en sg : Str) (g n : Addr) : List (Str × V) := putF "backs" (.ref n) (putF "looks" (.ref g) (putF "sign" (.str sg) (putF "end" (.str en) (putF "start" (.str st) []))))
def DoorAt (C : Addr) (H : Hp) (p : Addr) (d : DoorD) : Prop := ∃ dx g n, H p = some (.ins C dx (doorF d.st d.en d.sg g n)) ∧ LsAt H g d.looks ∧ H n = some (.lst (d.backs.map V.str))
theorem DoorAt.keep {C : Addr} {H H' : Hp} {p : Addr} {d : DoorD} (s : Same H H') (h : DoorAt C H p d) : DoorAt C H' p d := by
  obtain ⟨dx, g, n, a, b, c⟩ := h
  exact ⟨dx, g, n, s _ _ a, b.keep s, s _ _ c⟩
abbrev DsAt (C : Addr) (H : Hp) (p : Addr) (ds : List DoorD) : Prop := SeqOf (DoorAt C) H p ds
theorem DsAt.keep {C : Addr} {H H' : Hp} {p : Addr} {ds : List DoorD} (h : DsAt C H p ds) (s : Same H H') : DsAt C H' p ds := SeqOf.keep (fun _ _ => DoorAt.keep s) s h
local macro_rules | `(tactic| walk_at "lk") => `(tactic| repeat (first | rw [lookup_putF, if_pos rfl] | rw [lookup_putF, if_neg (by decide +kernel)]))
section
variable {st en sg : Str} {g n : Addr}
theorem door_start : (doorF st en sg g n).lookup ("start" : Str) = some (V.str st) := by unfold doorF; walk_at "lk"
theorem door_end : (doorF st en sg g n).lookup ("end" : Str) = some (V.str en) := by unfold doorF; walk_at "lk"
theorem door_sign : (doorF st en sg g n).lookup ("sign" : Str) = some (V.str sg) := by unfold doorF; walk_at "lk"
theorem door_looks : (doorF st en sg g n).lookup ("looks" : Str) = some (V.ref g) := by unfold doorF; walk_at "lk"
theorem door_backs : (doorF st en sg g n).lookup ("backs" : Str) = some (V.ref n) := by unfold doorF; walk_at "lk"
theorem door_no {m : Str} (h1 : ¬ m = "start") (h2 : ¬ m = "end") (h3 : ¬ m = "sign") (h4 : ¬ m = "looks") (h5 : ¬ m = "backs") : (doorF st en sg g n).lookup m = none := by
  unfold doorF
  rw [lookup_putF, if_neg h5, lookup_putF, if_neg h4, lookup_putF, if_neg h3, lookup_putF, if_neg h2, lookup_putF, if_neg h1]; rfl
end
structure MachD where
  watches : List Str
  rooms : List Rq
  doors : List DoorD
def machF (wn rn sl dl : Addr) : List (Str × V) := putF "door_list" (.ref dl) (putF "stay_looks" (.ref sl) (putF "room_names" (.ref rn) (putF "watch_names" (.ref wn) [])))
def MachAt (CM CD : Addr) (H : Hp) (p : Addr) (M : MachD) : Prop := ∃ dx wn rn sl dl, H p = some (.ins CM dx (machF wn rn sl dl)) ∧ H wn = some (.lst (M.watches.map V.str)) ∧ H rn = some (.lst ((M.rooms.map (·.1)).map V.str)) ∧ SeqOf LsAt H sl (M.rooms.map (·.2)) ∧ DsAt CD H dl M.doors
theorem MachAt.keep {CM CD : Addr} {H H' : Hp} {p : Addr} {M : MachD} (s : Same H H') (h : MachAt CM CD H p M) : MachAt CM CD H' p M := by
  obtain ⟨dx, wn, rn, sl, dl, a, b, c, d, e⟩ := h
  exact ⟨dx, wn, rn, sl, dl, s _ _ a, s _ _ b, s _ _ c, SeqOf.keep (fun _ _ h => LsAt.keep h s) s d, e.keep s⟩
section
variable {wn rn sl dl : Addr}
theorem mach_watch : (machF wn rn sl dl).lookup ("watch_names" : Str) = some (V.ref wn) := by unfold machF; walk_at "lk"
theorem mach_room : (machF wn rn sl dl).lookup ("room_names" : Str) = some (V.ref rn) := by unfold machF; walk_at "lk"
theorem mach_stay : (machF wn rn sl dl).lookup ("stay_looks" : Str) = some (V.ref sl) := by unfold machF; walk_at "lk"
theorem mach_door : (machF wn rn sl dl).lookup ("door_list" : Str) = some (V.ref dl) := by unfold machF; walk_at "lk"
theorem mach_no {m : Str} (h1 : ¬ m = "watch_names") (h2 : ¬ m = "room_names") (h3 : ¬ m = "stay_looks") (h4 : ¬ m = "door_list") : (machF wn rn sl dl).lookup m = none := by
  unfold machF
  rw [lookup_putF, if_neg h4, lookup_putF, if_neg h3, lookup_putF, if_neg h2, lookup_putF, if_neg h1]; rfl
end
def guardOk (ws watches : List Str) (ls : List Lq) : Bool := ls.all (lookOk ws watches)
def roomOk (watches : List Str) (r : Rq) : Bool := okT r.1 (letters ++ ("/" : Str)) 60 && guardOk ["<", "<="] watches r.2
def doorOk (watches names : List Str) (d : DoorD) : Bool :=
  okSign d.sg && decide (d.st ∈ names) && decide (d.en ∈ names) && guardOk ["<", "<=", ">", ">=", "="] watches d.looks && d.backs.all (fun b => decide (b ∈ watches)) && decide d.backs.Nodup
theorem inV_str {a : Str} {xs : List Str} : inV (.str a) (xs.map V.str) = decide (a ∈ xs) := by
  unfold inV
  rw [List.any_map, Bool.eq_iff_iff, List.any_eq_true, decide_eq_true_iff]
  constructor
  · rintro ⟨y, hy, e⟩
    have : y = a := by simpa [eqV] using e
    exact this ▸ hy
  · intro h
    exact ⟨a, h, by simp [eqV]⟩
theorem flat_of {xs : List Str} : (xs.map V.str).all flatV = true := L2.flat_strs xs
theorem ty_kind {K : PySem.W.Frag} {H : Hp} {v : V} (h : (kindV v).isSome = true) : ∃ t, t ∈ kinds ∧ TyX K H v (.type t) ∧ (t = "int" ↔ ∃ n, v = .int n) := by
  cases v with
  | non => exact ⟨_, by decide, .base .non, by simp⟩
  | bl b => exact ⟨_, by decide, .base (.bl b), by simp⟩
  | int i => exact ⟨_, by decide, .base (.int i), by simp⟩
  | str x => exact ⟨_, by decide, .base (.str x), by simp⟩
  | _ => cases h
def pick {α : Type} (ls : List α) (g : α → V) (d : V) (i : Nat) : V := match ls[i]? with | some l => g l | none => d
theorem pick_at {α : Type} {ls : List α} {g : α → V} {d : V} {i : Nat} {l : α} (h : ls[i]? = some l) : pick ls g d i = g l := by unfold pick; rw [h]
theorem range_map {α : Type} (ls : List α) (g : α → V) (d : V) : (List.range ls.length).map (pick ls g d) = ls.map g := by
  refine List.ext_getElem? fun k => ?_
  rw [List.getElem?_map, List.getElem?_map]
  by_cases h : k < ls.length
  · rw [List.getElem?_range h, List.getElem?_eq_getElem h]
    exact congrArg some (pick_at (List.getElem?_eq_getElem h))
  · rw [List.getElem?_eq_none (by rw [List.length_range]; omega), List.getElem?_eq_none (by omega)]; rfl
/-! ### looks and rooms as data -/
def ldat (l : Lq) : PyData := .tuple [.str l.1, .str l.2.1, lookD l.2.2]
def rdat (r : Rq) : PyData := .tuple [.str r.1, .list (r.2.map ldat)]
def TxOk (x : Str) : Prop := PyData.canLay0 (.str x) = true
def LqOk (l : Lq) : Prop := TxOk l.1 ∧ TxOk l.2.1 ∧ PyData.canLay0 (lookD l.2.2) = true
def RqOk (r : Rq) : Prop := TxOk r.1 ∧ ∀ l ∈ r.2, LqOk l
theorem lay_listM {ds : List PyData} {k : Nat} (h : ∀ d ∈ ds, d.canLay0 = true ∧ d.depth ≤ k) : (PyData.list ds).canLay0 = true ∧ (PyData.list ds).depth ≤ k + 1 := by
  have key : ∀ ds : List PyData, (∀ d ∈ ds, d.canLay0 = true ∧ d.depth ≤ k) → PyData.canLayAll0 ds = true ∧ PyData.depthAll ds ≤ k := by
    intro ds
    induction ds with
    | nil => intro _; exact ⟨rfl, Nat.zero_le _⟩
    | cons d ds ih =>
      intro h
      have h1 := h d (List.mem_cons_self ..)
      have h2 := ih fun x hx => h x (List.mem_cons_of_mem _ hx)
      refine ⟨by show (d.canLay0 && PyData.canLayAll0 ds) = true; rw [h1.1, h2.1]; rfl, ?_⟩
      show max d.depth (PyData.depthAll ds) ≤ k
      omega
  have z := key ds h
  exact ⟨z.1, by show PyData.depthAll ds + 1 ≤ k + 1; omega⟩
theorem lay_tup {ds : List PyData} {k : Nat} (h : ∀ d ∈ ds, d.canLay0 = true ∧ d.depth ≤ k) : (PyData.tuple ds).canLay0 = true ∧ (PyData.tuple ds).depth ≤ k + 1 := lay_listM h
theorem lay_flat {v : V} (h : PyData.canLay0 (lookD v) = true) : (lookD v).canLay0 = true ∧ (lookD v).depth ≤ 1 := ⟨h, by cases v <;> exact Nat.zero_le _⟩
theorem lay_str {x : Str} (h : TxOk x) : (PyData.str x).canLay0 = true ∧ (PyData.str x).depth ≤ 1 := ⟨h, Nat.zero_le _⟩
theorem lay_ldat {l : Lq} (h : LqOk l) : (ldat l).canLay0 = true ∧ (ldat l).depth ≤ 2 := lay_tup (k := 1) fun d hd => by
  simp only [List.mem_cons, List.not_mem_nil, or_false] at hd
  rcases hd with rfl | rfl | rfl
  · exact lay_str h.1
  · exact lay_str h.2.1
  · exact lay_flat h.2.2
theorem lay_ldats {ls : List Lq} (h : ∀ l ∈ ls, LqOk l) : (PyData.list (ls.map ldat)).canLay0 = true ∧ (PyData.list (ls.map ldat)).depth ≤ 3 := lay_listM fun d hd => by
  obtain ⟨l, hl, rfl⟩ := List.mem_map.mp hd
  exact lay_ldat (h l hl)
theorem lay_rdat {r : Rq} (h : RqOk r) : (rdat r).canLay0 = true ∧ (rdat r).depth ≤ 4 := lay_tup (k := 3) fun d hd => by
  simp only [List.mem_cons, List.not_mem_nil, or_false] at hd
  rcases hd with rfl | rfl
  · exact ⟨(lay_str h.1).1, Nat.le_trans (lay_str h.1).2 (by decide)⟩
  · exact lay_ldats h.2
theorem lay_rdats {rs : List Rq} (h : ∀ r ∈ rs, RqOk r) : (PyData.list (rs.map rdat)).canLay0 = true ∧ (PyData.list (rs.map rdat)).depth ≤ 5 := lay_listM fun d hd => by
  obtain ⟨l, hl, rfl⟩ := List.mem_map.mp hd
  exact lay_rdat (h l hl)
theorem shaped_rs {rs : List Rq} (h : ∀ r ∈ rs, RqOk r) : SeqAt.shaped (.list (rs.map rdat)) = true := Bool.and_eq_true_iff.mpr ⟨(lay_rdats h).1, decide_eq_true (by have := (lay_rdats h).2; omega)⟩
theorem shaped_xs {xs : List Str} (h : ∀ x ∈ xs, TxOk x) : SeqAt.shaped (.list (xs.map PyData.str)) = true := shaped_list fun d hd => by
  obtain ⟨x, hx, rfl⟩ := List.mem_map.mp hd
  exact ⟨h x hx, Nat.zero_le _⟩
section
variable {K : PySem.W.Frag} {H : Hp} {p : Addr}
theorem dp_flat {v : V} (h : (kindV v).isSome = true) : Dp K H v (lookD v) := by
  cases v with
  | non => exact .non
  | bl b => exact .bl b
  | int i => exact .int i
  | str x => exact .str x
  | _ => cases h
theorem dp_seq {α : Type} {R : Hp → Addr → α → Prop} {g : α → PyData} (k : ∀ q x, R H q x → Dp K H (.ref q) (g x)) {xs : List α} (h : SeqOf R H p xs) : Dp K H (.ref p) (.list (xs.map g)) := by
  obtain ⟨qs, a, b, c⟩ := h
  refine .lst (.of a) (dpall_of (by simp [b]) fun i v d h1 h2 => ?_)
  rw [List.getElem?_map] at h1 h2
  obtain ⟨q, hq, rfl⟩ := Option.map_eq_some_iff.mp h1
  obtain ⟨x, hx, rfl⟩ := Option.map_eq_some_iff.mp h2
  exact k q x (c i q x hq hx)
theorem dp_ls {ls : List Lq} (h : LsAt H p ls) : Dp K H (.ref p) (.list (ls.map ldat)) := dp_seq (fun q l h => .tup (.of h.1) (.cons (.str _) (.cons (.str _) (.cons (dp_flat h.2) .nil)))) h
theorem dp_rs {rs : List Rq} (h : RsAt H p rs) : Dp K H (.ref p) (.list (rs.map rdat)) := dp_seq (fun q r ⟨g, h1, h2⟩ => .tup (.of h1) (.cons (.str _) (.cons (dp_ls h2) .nil))) h
end
/-! ### comprehensions over a list: any target, a test, new objects -/
def LcG (K : PySem.W.Frag) (a : Addr) (g : TG) (tt : TT) (te : TE) (vs : List Nat) (σ : L2.St) (H1 : Hp) (Q : VK) : Prop := ∀ D, H1 D = none → ∃ W : Nat → Nat → Hp → Prop, (∃ m, W 0 m (upd H1 D (.lst []))) ∧ ∀ i m H, W i m H →
  ((Itl K a).stop i H ∧ Q (.ref D) H) ∨ ((Itl K a).go i H ∧ ∃ Nx : Hp → Prop, (∀ H', Nx H' → ∃ m', m' < m ∧ W (i + 1) m' H') ∧ ∀ x H', (Itl K a).yld i H x H' → g x (wipe σ vs) H' fun σ2 H2 => wipe σ2 vs = wipe σ vs ∧ tt σ2 H2 fun b H3 =>
    if b = true then te σ2 H3 fun y H4 => ∃ acc, H4 D = some (.lst acc) ∧ acc.length < sizeLine ∧ Nx (upd H4 D (.lst (acc ++ [y]))) else Nx H3)
theorem lcg_src {K : PySem.W.Frag} {ts te : TE} {g : TG} {tt : TT} {vs : List Nat} {σ : L2.St} {H : Hp} {Q : VK} (h : ts σ H fun x H1 => ∃ a, x = .ref a ∧ (∃ xs, SqL K H1 a xs) ∧ LcG K a g tt te vs σ H1 Q) : tLc (iList K ts) g tt te vs σ H Q := h
/-- H3 without what is new between H and H2 -/
noncomputable def cutH (H H2 H3 : Hp) : Hp := open Classical in fun b => if H b = none ∧ H2 b ≠ none then none else H3 b
theorem cut_same {H H2 H3 : Hp} (s : Same H H3) : Same H (cutH H H2 H3) := fun b o e => by
  unfold cutH; rw [if_neg (fun z => by rw [e] at z; cases z.1)]; exact s _ _ e
theorem cut_new {H H2 H3 : Hp} {r : Addr} {o : HO} (f : H2 r = none) (e : H3 r = some o) : cutH H H2 H3 r = some o := by
  unfold cutH; rw [if_neg (fun z => z.2 f)]; exact e
theorem cut_sub {H H2 H3 : Hp} : Same (cutH H H2 H3) H3 := fun b o e => by
  unfold cutH at e; split at e
  · cases e
  · exact e
open Classical in
noncomputable def delH (D : Addr) (H : Hp) : Hp := fun b => if b = D then none else H b
theorem del_at {D : Addr} {H : Hp} {b : Addr} {o : HO} (n : b ≠ D) (e : H b = some o) : delH D H b = some o := by unfold delH; rw [if_neg n]; exact e
theorem del_of {D : Addr} {H : Hp} {b : Addr} {o : HO} (e : delH D H b = some o) : b ≠ D ∧ H b = some o := by
  unfold delH at e
  by_cases h : b = D
  · rw [if_pos h] at e; cases e
  · rw [if_neg h] at e; exact ⟨h, e⟩
theorem cut_del {D : Addr} {H H2 H3 : Hp} {o : HO} (f : H D = none) (e : H2 D = some o) : Same (cutH H H2 H3) (delH D H3) := fun b o' h => by
  have hb : b ≠ D := fun z => by
    unfold cutH at h
    rw [z, if_pos ⟨f, by rw [e]; simp⟩] at h
    cases h
  exact del_at hb (cut_sub _ _ h)
def SeqV {α : Type} (R : Hp → V → α → Prop) (H : Hp) (p : Addr) (xs : List α) : Prop := ∃ ys : List V, H p = some (.lst ys) ∧ ys.length = xs.length ∧ ∀ (i : Nat) (y : V) (x : α), ys[i]? = some y → xs[i]? = some x → R H y x
/-- a list of new things that is still being made: what they are stands without it -/
def SeqD {α : Type} (R : Hp → Addr → α → Prop) (H : Hp) (p : Addr) (xs : List α) : Prop := ∃ qs : List Addr, H p = some (.lst (qs.map V.ref)) ∧ qs.length = xs.length ∧ ∀ (i : Nat) (q : Addr) (x : α), qs[i]? = some q → xs[i]? = some x → R (delH p H) q x
theorem del_same {p : Addr} {H H' : Hp} (s : Same H H') : Same (delH p H) (delH p H') := fun b o e => by
  have := del_of e
  exact del_at this.1 (s _ _ this.2)
theorem del_sub {p : Addr} {H : Hp} : Same (delH p H) H := fun b o e => (del_of e).2
theorem del_upd {p : Addr} {H : Hp} {o : HO} : Same (delH p H) (delH p (upd H p o)) := fun b o' e => by
  have := del_of e
  exact del_at this.1 (by rw [upd_ne this.1]; exact this.2)
section
variable {α : Type} {R : Hp → Addr → α → Prop} {H H' : Hp} {p : Addr} {xs : List α}
theorem SeqD.keep (k : ∀ H H' q x, Same H H' → R H q x → R H' q x) (s : Same H H') (h : SeqD R H p xs) : SeqD R H' p xs := by
  obtain ⟨qs, a, b, c⟩ := h
  exact ⟨qs, s _ _ a, b, fun i q x h1 h2 => k _ _ q x (del_same s) (c i q x h1 h2)⟩
theorem SeqD.seq (k : ∀ H H' q x, Same H H' → R H q x → R H' q x) (h : SeqD R H p xs) : SeqOf R H p xs := by
  obtain ⟨qs, a, b, c⟩ := h
  exact ⟨qs, a, b, fun i q x h1 h2 => k _ _ q x del_sub (c i q x h1 h2)⟩
theorem SeqD.nil (e : H p = some (.lst [])) : SeqD R H p [] := ⟨[], e, rfl, fun i q x h => by simp at h⟩
theorem SeqD.app (k : ∀ H H' q x, Same H H' → R H q x → R H' q x) (h : SeqD R H p xs) {q : Addr} {x : α} (hq : R (delH p H) q x) : ∃ items, H p = some (.lst items) ∧ items.length = xs.length ∧ SeqD R (upd H p (.lst (items ++ [.ref q]))) p (xs ++ [x]) := by
  obtain ⟨qs, a, b, c⟩ := h
  refine ⟨_, a, by rw [List.length_map]; exact b, qs ++ [q], by rw [upd_same, List.map_append]; rfl, by simp [b], fun i q' x' h1 h2 => ?_⟩
  refine k _ _ _ _ del_upd ?_
  by_cases c1 : i < qs.length
  · rw [List.getElem?_append_left c1] at h1
    rw [List.getElem?_append_left (by omega)] at h2
    exact c i q' x' h1 h2
  · have hlt := (List.getElem?_eq_some_iff.mp h1).1
    rw [List.length_append, List.length_singleton] at hlt
    obtain rfl : i = qs.length := by omega
    rw [List.getElem?_append_right (Nat.le_refl _), Nat.sub_self] at h1
    rw [b, List.getElem?_append_right (Nat.le_refl _), Nat.sub_self] at h2
    have a1 : q = q' := by simpa using h1
    have a2 : x = x' := by simpa using h2
    subst a1; subst a2
    exact hq
end
def SeqVD {α : Type} (R : Hp → V → α → Prop) (H : Hp) (p : Addr) (xs : List α) : Prop := ∃ ys : List V, H p = some (.lst ys) ∧ ys.length = xs.length ∧ ∀ (i : Nat) (y : V) (x : α), ys[i]? = some y → xs[i]? = some x → R (delH p H) y x
theorem seqVD_of {α : Type} {R : Hp → Addr → α → Prop} {H : Hp} {p : Addr} {xs : List α} (h : SeqVD (fun H y x => ∃ q, y = .ref q ∧ R H q x) H p xs) : SeqD R H p xs := by
  obtain ⟨ys, a, b, c⟩ := h
  have key : ∀ (ys : List V) (xs : List α), ys.length = xs.length → (∀ (i : Nat) (y : V) (x : α), ys[i]? = some y → xs[i]? = some x → ∃ q, y = .ref q ∧ R (delH p H) q x) → ∃ qs : List Addr, ys = qs.map V.ref ∧ qs.length = xs.length ∧ ∀ (i : Nat) (q : Addr) (x : α), qs[i]? = some q → xs[i]? = some x → R (delH p H) q x := by
    intro ys
    induction ys with
    | nil => intro xs hl _; exact ⟨[], rfl, hl, fun i q x h => by simp at h⟩
    | cons y ys ih =>
      intro xs hl h
      cases xs with
      | nil => simp at hl
      | cons x xs =>
        obtain ⟨q, e, r⟩ := h 0 y x rfl rfl
        obtain ⟨qs, e2, l2, r2⟩ := ih xs (by simpa using hl) fun i y x h1 h2 => h (i + 1) y x h1 h2
        refine ⟨q :: qs, by rw [e, e2]; rfl, by simp [l2], fun i q' x' h1 h2 => ?_⟩
        cases i with
        | zero => cases h1; cases h2; exact r
        | succ i => exact r2 i q' x' h1 h2
  obtain ⟨qs, e, l, r⟩ := key ys xs b c
  exact ⟨qs, e ▸ a, l, r⟩
theorem seqV_vals {α : Type} {f : α → V} {H : Hp} {p : Addr} {xs : List α} (h : SeqV (fun _ y x => y = f x) H p xs) : H p = some (.lst (xs.map f)) := by
  obtain ⟨ys, a, b, c⟩ := h
  rw [a]
  refine congrArg (fun z => some (HO.lst z)) (List.ext_getElem? fun i => ?_)
  rw [List.getElem?_map]
  by_cases hi : i < xs.length
  · have h1 := List.getElem?_eq_getElem (l := ys) (i := i) (by omega)
    have h2 := List.getElem?_eq_getElem hi
    rw [h1, h2, c i _ _ h1 h2]; rfl
  · rw [List.getElem?_eq_none (by omega), List.getElem?_eq_none (by omega)]; rfl
theorem lcG {K : PySem.W.Frag} {α β : Type} {RV : Hp → V → β → Prop} (keep : ∀ H H' y x, Same H H' → RV H y x → RV H' y x) {F : α → Option β} {a : Addr} {g : TG} {tt : TT} {te : TE} {vs : List Nat} {σ : L2.St} {H : Hp} {Q : VK} {xs : List V} {zs : List α}
    (hx : H a = some (.lst xs)) (hz : xs.length = zs.length) (hn : xs.length ≤ 900)
    (ht : ∀ (i : Nat) (x : V) (z : α) (H2 : Hp) (Yes : VK) (No : Hp → Prop), xs[i]? = some x → zs[i]? = some z → Same H H2 → (∀ y H5, Same H2 H5 → (∃ o, F z = some o ∧ ∀ D acc, H D = none → H2 D = some (.lst acc) → RV (delH D H5) y o) → Yes y H5) → (∀ H5, Same H2 H5 → F z = none → No H5) →
      g x (wipe σ vs) H2 fun σ2 H3 => wipe σ2 vs = wipe σ vs ∧ tt σ2 H3 fun b H4 => if b = true then te σ2 H4 Yes else No H4)
    (q : ∀ D H', Same H H' → H D = none → SeqVD RV H' D (zs.filterMap F) → Q (.ref D) H') : LcG K a g tt te vs σ H Q := fun D hD => by
  refine lc_list (K := K) (a := a) (xs := xs) (fun i H' => Same H H' ∧ ∃ acc : List V, H' D = some (.lst acc) ∧ acc.length = ((zs.take i).filterMap F).length ∧ ∀ (j : Nat) (y : V) (o : β), acc[j]? = some y → ((zs.take i).filterMap F)[j]? = some o → RV (delH D H') y o)
    ⟨upd_keep hD, [], upd_same, rfl, fun j y o h => by simp at h⟩ (fun i H' _ ⟨s, _⟩ => .of (s _ _ hx)) ?_ ?_
  · rintro i x H2 hi ⟨sm, acc, eD, hl, hr⟩
    have hin := (List.getElem?_eq_some_iff.mp hi).1
    have hzi := List.getElem?_eq_getElem (l := zs) (i := i) (by omega)
    have la : acc.length ≤ 900 := by
      have h1 := List.length_filterMap_le F (zs.take i)
      have h2 := List.length_take_le i zs
      have : (zs.take i).length ≤ i := by rw [List.length_take]; omega
      omega
    have tk : (zs.take (i + 1)).filterMap F = (zs.take i).filterMap F ++ (match F zs[i] with | some o => [o] | none => []) := by
      rw [List.take_add_one, hzi, List.filterMap_append]
      congr 1
      cases h : F zs[i] <;> simp [h]
    refine ht i x zs[i] H2 _ _ hi hzi sm ?yes ?no
    case yes =>
      rintro y H5 s5 ⟨o, ho, rv⟩
      refine ⟨acc, s5 _ _ eD, small1000 (by omega), same_updN hD (sm.trans s5), acc ++ [y], upd_same, ?_, ?_⟩
      · rw [tk, ho]; simp [hl]
      · intro j y' o' h1 h2
        rw [tk, ho] at h2
        by_cases c : j < acc.length
        · rw [List.getElem?_append_left c] at h1
          rw [List.getElem?_append_left (by omega)] at h2
          refine keep _ _ _ _ (fun b o e => ?_) (hr j y' o' h1 h2)
          have hb := del_of e
          exact del_at hb.1 (by rw [upd_ne hb.1]; exact s5 _ _ hb.2)
        · have hlt := (List.getElem?_eq_some_iff.mp h1).1
          rw [List.length_append, List.length_singleton] at hlt
          obtain rfl : j = acc.length := by omega
          rw [List.getElem?_append_right (Nat.le_refl _), Nat.sub_self] at h1
          rw [hl, List.getElem?_append_right (Nat.le_refl _), Nat.sub_self] at h2
          have h1 : y = y' := by simpa using h1
          have h2 : o = o' := by simpa using h2
          subst h1 h2
          refine keep _ _ _ _ (fun b o e => ?_) (rv D acc hD eD)
          have hb := del_of e
          exact del_at hb.1 (by rw [upd_ne hb.1]; exact hb.2)
    case no =>
      intro H5 s5 ho
      refine ⟨sm.trans s5, acc, s5 _ _ eD, ?_, ?_⟩
      · rw [tk, ho]; simp [hl]
      · intro j y' o' h1 h2
        rw [tk, ho, List.append_nil] at h2
        refine keep _ _ _ _ (fun b o e => ?_) (hr j y' o' h1 h2)
        have hb := del_of e
        exact del_at hb.1 (s5 _ _ hb.2)
  · rintro H' ⟨sm, acc, eD, hl, hr⟩
    rw [List.take_of_length_le (by omega)] at hl hr
    exact q D H' sm hD ⟨acc, eD, hl, hr⟩
/-- the same without a test: each turned into a new thing -/
theorem lcMD {K : PySem.W.Frag} {α β : Type} {R : Hp → Addr → β → Prop} (keep : ∀ H H' q x, Same H H' → R H q x → R H' q x) {F : α → β} {a : Addr} {g : TG} {te : TE} {vs : List Nat} {σ : L2.St} {H : Hp} {Q : VK} {xs : List V} {zs : List α}
    (hx : H a = some (.lst xs)) (hz : xs.length = zs.length) (hn : xs.length ≤ 900)
    (ht : ∀ (i : Nat) (x : V) (z : α) (H2 : Hp) (Yes : VK), xs[i]? = some x → zs[i]? = some z → Same H H2 → (∀ r H5, Same H2 H5 → (∀ D acc, H D = none → H2 D = some (.lst acc) → R (delH D H5) r (F z)) → Yes (.ref r) H5) → g x (wipe σ vs) H2 fun σ2 H3 => wipe σ2 vs = wipe σ vs ∧ te σ2 H3 Yes)
    (q : ∀ D H', Same H H' → H D = none → SeqD R H' D (zs.map F) → Q (.ref D) H') : LcG K a g tYes te vs σ H Q :=
  lcG (RV := fun H y x => ∃ q, y = .ref q ∧ R H q x) (fun _ _ _ _ s ⟨q, e, r⟩ => ⟨q, e, keep _ _ _ _ s r⟩) (F := fun z => some (F z)) hx hz hn
    (fun i x z H2 Yes No h1 h2 s hy hno => by
      have := ht i x z H2 Yes h1 h2 s fun r H5 s5 hr => hy _ _ s5 ⟨_, rfl, fun D acc f e => ⟨r, rfl, hr D acc f e⟩⟩
      simpa only [tYes, if_true] using this)
    (fun D H' s f h => q D H' s f (seqVD_of (by rw [show zs.map F = zs.filterMap (fun z => some (F z)) from (congrFun (List.filterMap_eq_map (f := F)) zs).symm]; exact h)))
theorem lcM {K : PySem.W.Frag} {α β : Type} {R : Hp → Addr → β → Prop} (keep : ∀ H H' q x, Same H H' → R H q x → R H' q x) {F : α → β} {a : Addr} {g : TG} {te : TE} {vs : List Nat} {σ : L2.St} {H : Hp} {Q : VK} {xs : List V} {zs : List α}
    (hx : H a = some (.lst xs)) (hz : xs.length = zs.length) (hn : xs.length ≤ 900)
    (ht : ∀ (i : Nat) (x : V) (z : α) (H2 : Hp) (Yes : VK), xs[i]? = some x → zs[i]? = some z → Same H H2 → (∀ r H5, Same H2 H5 → R (cutH H H2 H5) r (F z) → Yes (.ref r) H5) → g x (wipe σ vs) H2 fun σ2 H3 => wipe σ2 vs = wipe σ vs ∧ te σ2 H3 Yes)
    (q : ∀ D H', Same H H' → H D = none → SeqOf R H' D (zs.map F) → Q (.ref D) H') : LcG K a g tYes te vs σ H Q :=
  lcMD keep hx hz hn (fun i x z H2 Yes h1 h2 s hy => ht i x z H2 Yes h1 h2 s fun r H5 s5 hr => hy r H5 s5 fun D acc f e => keep _ _ _ _ (cut_del f e) hr) fun D H' s f h => q D H' s f (h.seq keep)
/-- each turned into a new thing that is drawn -/
theorem choose_refs {α β : Type} {R : Addr → β → Prop} {P : α → β → Prop} : ∀ (vs : List V) (zs : List α), vs.length = zs.length → (∀ (i : Nat) (v : V) (z : α), vs[i]? = some v → zs[i]? = some z → ∃ q y, v = .ref q ∧ P z y ∧ R q y) →
    ∃ (qs : List Addr) (ys : List β), vs = qs.map V.ref ∧ qs.length = ys.length ∧ ys.length = zs.length ∧ (∀ (i : Nat) (q : Addr) (y : β), qs[i]? = some q → ys[i]? = some y → R q y) ∧ ∀ (i : Nat) (z : α) (y : β), zs[i]? = some z → ys[i]? = some y → P z y := by
  intro vs
  induction vs with
  | nil =>
    intro zs hl _
    have : zs = [] := List.length_eq_zero_iff.mp hl.symm
    subst this
    exact ⟨[], [], rfl, rfl, rfl, (fun i q y h => by simp at h), (fun i z y h => by simp at h)⟩
  | cons v vs ih =>
    intro zs hl h
    cases zs with
    | nil => simp at hl
    | cons z zs =>
      obtain ⟨q, y, e, p, r⟩ := h 0 v z rfl rfl
      obtain ⟨qs, ys, e2, l2, l3, r2, p2⟩ := ih zs (by simpa using hl) fun i v z h1 h2 => h (i + 1) v z h1 h2
      refine ⟨q :: qs, y :: ys, by rw [e, e2]; rfl, by simp [l2], by simp [l3], fun i q' y' h1 h2 => ?_, fun i z' y' h1 h2 => ?_⟩
      · cases i with
        | zero => cases h1; cases h2; exact r
        | succ i => exact r2 i q' y' h1 h2
      · cases i with
        | zero => cases h1; cases h2; exact p
        | succ i => exact p2 i z' y' h1 h2
theorem lcMP {K : PySem.W.Frag} {α β : Type} {R : Hp → Addr → β → Prop} {P : α → β → Prop} (keep : ∀ H H' q x, Same H H' → R H q x → R H' q x) {a : Addr} {g : TG} {te : TE} {vs : List Nat} {σ : L2.St} {H : Hp} {Q : VK} {xs : List V} {zs : List α}
    (hx : H a = some (.lst xs)) (hz : xs.length = zs.length) (hn : xs.length ≤ 900)
    (ht : ∀ (i : Nat) (x : V) (z : α) (H2 : Hp) (Yes : VK), xs[i]? = some x → zs[i]? = some z → Same H H2 → (∀ r H5 y, Same H2 H5 → P z y → (∀ D acc, H D = none → H2 D = some (.lst acc) → R (delH D H5) r y) → Yes (.ref r) H5) → g x (wipe σ vs) H2 fun σ2 H3 => wipe σ2 vs = wipe σ vs ∧ te σ2 H3 Yes)
    (q : ∀ D H' ys, Same H H' → H D = none → SeqD R H' D ys → ys.length = zs.length → (∀ (i : Nat) (z : α) (y : β), zs[i]? = some z → ys[i]? = some y → P z y) → Q (.ref D) H') : LcG K a g tYes te vs σ H Q :=
  lcG (RV := fun H y z => ∃ q x, y = .ref q ∧ P z x ∧ R H q x) (fun _ _ _ _ s ⟨q, x, e, p, r⟩ => ⟨q, x, e, p, keep _ _ _ _ s r⟩) (F := fun z => some z) hx hz hn
    (fun i x z H2 Yes No h1 h2 s hy hno => by
      have := ht i x z H2 Yes h1 h2 s fun r H5 y s5 p hr => hy _ _ s5 ⟨_, rfl, fun D acc f e => ⟨r, y, rfl, p, hr D acc f e⟩⟩
      simpa only [tYes, if_true] using this)
    (fun D H' s f ⟨ys, a, b, c⟩ => by
      rw [show zs.filterMap (fun z => some z) = zs by simp] at b c
      obtain ⟨qs, ys', e, l1, l2, r, p⟩ := choose_refs (R := fun q y => R (delH D H') q y) (P := P) ys zs b (fun i v z h1 h2 => c i v z h1 h2)
      exact q D H' ys' s f ⟨qs, e ▸ a, l1, r⟩ l2 p)
/-- each turned into a value -/
theorem lcF {K : PySem.W.Frag} {α : Type} {F : α → V} {a : Addr} {g : TG} {te : TE} {vs : List Nat} {σ : L2.St} {H : Hp} {Q : VK} {xs : List V} {zs : List α}
    (hx : H a = some (.lst xs)) (hz : xs.length = zs.length) (hn : xs.length ≤ 900)
    (ht : ∀ (i : Nat) (x : V) (z : α) (H2 : Hp) (Yes : VK), xs[i]? = some x → zs[i]? = some z → Same H H2 → (∀ H5, Same H2 H5 → Yes (F z) H5) → g x (wipe σ vs) H2 fun σ2 H3 => wipe σ2 vs = wipe σ vs ∧ te σ2 H3 Yes)
    (q : ∀ D H', Same H H' → H D = none → H' D = some (.lst (zs.map F)) → Q (.ref D) H') : LcG K a g tYes te vs σ H Q :=
  lcG (RV := fun _ y x => y = F x) (fun _ _ _ _ _ e => e) (F := fun z => some z) hx hz hn
    (fun i x z H2 Yes No h1 h2 s hy hno => by
      have := ht i x z H2 Yes h1 h2 s fun H5 s5 => hy _ _ s5 ⟨_, rfl, fun _ _ _ _ => rfl⟩
      simpa only [tYes, if_true] using this)
    (fun D H' s f ⟨ys, a, b, c⟩ => q D H' s f (seqV_vals ⟨ys, a, by simpa using b, fun i y x h1 h2 => c i y x h1 (by simpa using h2)⟩))
theorem LsAt.del {H : Hp} {D r : Addr} {ls : List Lq} {acc : List V} (h : LsAt H r ls) (n : r ≠ D) (e : H D = some (.lst acc)) : LsAt (delH D H) r ls := by
  obtain ⟨qs, a, b, c⟩ := h
  exact ⟨qs, del_at n a, b, fun i q x h1 h2 => ⟨del_at (ne_of (c i q x h1 h2).1 e (by intro z; cases z)) (c i q x h1 h2).1, (c i q x h1 h2).2⟩⟩
/-! ### the same over a range: values, a test -/
def LcGR (n : Nat) (g : TG) (tt : TT) (te : TE) (vs : List Nat) (σ : L2.St) (H1 : Hp) (Q : VK) : Prop := ∀ D, H1 D = none → ∃ W : Nat → Nat → Hp → Prop, (∃ m, W 0 m (upd H1 D (.lst []))) ∧ ∀ i m H, W i m H →
  ((Itr 0 n).stop i H ∧ Q (.ref D) H) ∨ ((Itr 0 n).go i H ∧ ∃ Nx : Hp → Prop, (∀ H', Nx H' → ∃ m', m' < m ∧ W (i + 1) m' H') ∧ ∀ x H', (Itr 0 n).yld i H x H' → g x (wipe σ vs) H' fun σ2 H2 => wipe σ2 vs = wipe σ vs ∧ tt σ2 H2 fun b H3 =>
    if b = true then te σ2 H3 fun y H4 => ∃ acc, H4 D = some (.lst acc) ∧ acc.length < sizeLine ∧ Nx (upd H4 D (.lst (acc ++ [y]))) else Nx H3)
theorem lcr_src {ta : TA} {g : TG} {tt : TT} {te : TE} {vs : List Nat} {σ : L2.St} {H : Hp} {Q : VK} (h : ta σ H fun us H1 => ∃ j : Int, us = [.int j] ∧ -(2 ^ 62) ≤ j ∧ j < 2 ^ 62 ∧ LcGR j.toNat g tt te vs σ H1 Q) : tLc (iRng1 ta) g tt te vs σ H Q := h
theorem lcR {n : Nat} {F : Nat → Option V} {g : TG} {tt : TT} {te : TE} {vs : List Nat} {σ : L2.St} {H : Hp} {Q : VK} (hn : n ≤ 900)
    (ht : ∀ (j : Nat) (H2 : Hp) (Yes : VK) (No : Hp → Prop), j < n → Same H H2 → (∀ y H5, Same H2 H5 → F j = some y → Yes y H5) → (∀ H5, Same H2 H5 → F j = none → No H5) →
      g (.int (0 + (j : Int))) (wipe σ vs) H2 fun σ2 H3 => wipe σ2 vs = wipe σ vs ∧ tt σ2 H3 fun b H4 => if b = true then te σ2 H4 Yes else No H4)
    (q : ∀ D H', Same H H' → H D = none → H' D = some (.lst ((List.range n).filterMap F)) → Q (.ref D) H') : LcGR n g tt te vs σ H Q := fun D hD => by
  refine lc_range (lo := 0) (n := n) (fun i H' => Same H H' ∧ H' D = some (.lst ((List.range i).filterMap F))) ⟨upd_keep hD, upd_same⟩ ?_ ?_
  · rintro i H2 hi ⟨sm, eD⟩
    have la : ((List.range i).filterMap F).length ≤ 900 := by
      have h1 := List.length_filterMap_le F (List.range i)
      rw [List.length_range] at h1
      omega
    have tk : (List.range (i + 1)).filterMap F = (List.range i).filterMap F ++ (match F i with | some o => [o] | none => []) := by
      rw [List.range_succ, List.filterMap_append]
      congr 1
      cases h : F i <;> simp [h]
    refine ht i H2 _ _ hi sm ?yes ?no
    case yes =>
      intro y H5 s5 ho
      refine ⟨_, s5 _ _ eD, small1000 (by omega), same_updN hD (sm.trans s5), ?_⟩
      rw [upd_same, tk, ho]
    case no =>
      intro H5 s5 ho
      refine ⟨sm.trans s5, ?_⟩
      rw [s5 _ _ eD, tk, ho, List.append_nil]
  · rintro H' ⟨sm, eD⟩
    exact q D H' sm hD eD
/-- no test -/
theorem lcRM {n : Nat} {F : Nat → V} {g : TG} {te : TE} {vs : List Nat} {σ : L2.St} {H : Hp} {Q : VK} (hn : n ≤ 900)
    (ht : ∀ (j : Nat) (H2 : Hp) (Yes : VK), j < n → Same H H2 → (∀ H5, Same H2 H5 → Yes (F j) H5) → g (.int (0 + (j : Int))) (wipe σ vs) H2 fun σ2 H3 => wipe σ2 vs = wipe σ vs ∧ te σ2 H3 Yes)
    (q : ∀ D H', Same H H' → H D = none → H' D = some (.lst ((List.range n).map F)) → Q (.ref D) H') : LcGR n g tYes te vs σ H Q :=
  lcR (F := fun j => some (F j)) hn (fun j H2 Yes No hj s hy hno => by
    have := ht j H2 Yes hj s fun H5 s5 => hy _ H5 s5 rfl
    simpa only [tYes, if_true] using this) (fun D H' s f e => q D H' s f (e.trans (by rw [show (List.range n).filterMap (fun j => some (F j)) = (List.range n).map F from congrFun (List.filterMap_eq_map (f := F)) _])))
/-! ### right machines: plain facts -/
theorem okT_len {x s : Str} {m : Int} (h : okT x s m = true) : (x.length : Int) ≤ m := by
  unfold okT at h
  rw [Bool.and_eq_true, Bool.and_eq_true] at h
  exact of_decide_eq_true h.1.2
theorem txok_of {x : Str} (h : ∀ c ∈ x.cps.toList, c < 0x110000) : TxOk x := by
  show PyData.strOk x = true
  unfold PyData.strOk
  rw [← Array.all_toList, List.all_eq_true]
  exact fun c hc => decide_eq_true (h c hc)
theorem okT_tx {x s : Str} {m : Int} (hs : ∀ c ∈ s.cps.toList, c < 0x110000) (h : okT x s m = true) : TxOk x := by
  unfold okT at h
  rw [Bool.and_eq_true, List.all_eq_true] at h
  exact txok_of fun c hc => hs c (of_decide_eq_true (h.2 c hc))
theorem letters_lt : ∀ c ∈ letters.cps.toList, c < 0x110000 := by decide +kernel
theorem letters_lt2 : ∀ c ∈ (letters ++ ("/" : Str)).cps.toList, c < 0x110000 := by decide +kernel
theorem okName_len {x : Str} (h : okName x = true) : x.length ≤ 8 := by have := okT_len (show okT x letters 8 = true from h); omega
theorem okName_tx {x : Str} (h : okName x = true) : TxOk x := okT_tx letters_lt (show okT x letters 8 = true from h)
theorem okWatch_len {x : Str} (h : okWatch x = true) : x.length ≤ 8 := by
  unfold okWatch at h
  rw [Bool.or_eq_true] at h
  rcases h with h | h
  · rw [of_decide_eq_true h]; decide +kernel
  · exact okName_len h
theorem okWatch_tx {x : Str} (h : okWatch x = true) : TxOk x := by
  unfold okWatch at h
  rw [Bool.or_eq_true] at h
  rcases h with h | h
  · rw [of_decide_eq_true h]; show PyData.strOk _ = true; decide +kernel
  · exact okName_tx h
theorem words_tx {ws : List Str} {x : Str} (h : x ∈ ws) (hw : ws.all (fun y => PyData.strOk y) = true) : TxOk x := List.all_eq_true.mp hw x h
theorem look_ok {ws watches : List Str} {l : Lq} (hw : ws.all (fun y => PyData.strOk y) = true) (ha : ∀ x ∈ watches, okWatch x = true) (h : lookOk ws watches l = true) : LqOk l := by
  unfold lookOk at h
  rw [Bool.and_eq_true, Bool.and_eq_true] at h
  refine ⟨okWatch_tx (ha _ (of_decide_eq_true h.1.1)), words_tx (of_decide_eq_true h.1.2) hw, ?_⟩
  have := h.2
  cases hv : l.2.2 <;> rw [hv] at this <;> first | rfl | cases this
theorem room_ok {watches : List Str} {r : Rq} (ha : ∀ x ∈ watches, okWatch x = true) (h : roomOk watches r = true) : r.1.length ≤ 60 ∧ RqOk r := by
  unfold roomOk at h
  rw [Bool.and_eq_true] at h
  refine ⟨by have := okT_len h.1; omega, okT_tx letters_lt2 h.1, fun l hl => look_ok (ws := ["<", "<="]) (by decide +kernel) ha (List.all_eq_true.mp h.2 l hl)⟩
theorem okSign_len {x : Str} (h : okSign x = true) : x.length ≤ 9 := by
  unfold okSign at h
  rw [Bool.or_eq_true] at h
  rcases h with h | h
  · rw [of_decide_eq_true h]; decide +kernel
  · cases e : x.cps.toList.getLast? with
    | none => rw [e] at h; cases h
    | some c =>
      rw [e] at h
      have h2 := (Bool.and_eq_true_iff.mp h).2
      have l8 := okName_len h2
      unfold cutS Str.length at l8
      simp only [List.size_toArray, List.length_take, List.length_drop] at l8
      unfold Str.length
      rw [← Array.length_toList]
      have s0 : HT.sIx x.length 0 none = 0 := rfl
      have s1 : HT.sIx x.length x.length (some (-1)) = x.length - 1 := by
        unfold HT.sIx
        simp only [show ((-1 : Int) < 0) from by decide, if_true]
        omega
      have s2 : x.length = x.cps.toList.length := by unfold Str.length; exact Array.length_toList.symm
      unfold Str.length at s0 s1 s2
      rw [s0, s1] at l8
      omega
def numOf : V → Int
  | .int n => n
  | _ => 0
structure MachOk (M : MachD) : Prop where
  w7 : M.watches.length ≤ 7
  wok : M.watches.all okWatch = true
  wnd : M.watches.Nodup
  rok : M.rooms.all (roomOk M.watches) = true
  rnd : (M.rooms.map (·.1)).Nodup
  rne : M.rooms ≠ []
  r64 : M.rooms.length ≤ 64
  dok : M.doors.all (doorOk M.watches (M.rooms.map (·.1))) = true
  d200 : M.doors.length ≤ 200
  rsz : ∀ r ∈ M.rooms, r.2.length ≤ 60
  dsz : ∀ d ∈ M.doors, d.looks.length ≤ 60
theorem nodup_len {α : Type} [DecidableEq α] : ∀ {xs ys : List α}, xs.Nodup → (∀ x ∈ xs, x ∈ ys) → xs.length ≤ ys.length := by
  intro xs
  induction xs with
  | nil => intro ys _ _; exact Nat.zero_le _
  | cons x xs ih =>
    intro ys h1 h2
    obtain ⟨n1, n2⟩ := List.nodup_cons.mp h1
    have hx := h2 x (List.mem_cons_self ..)
    have := ih (ys := ys.erase x) n2 fun y hy => (List.mem_erase_of_ne (show y ≠ x from fun e => n1 (by rw [← e]; exact hy))).mpr (h2 y (List.mem_cons_of_mem _ hy))
    rw [List.length_erase_of_mem hx] at this
    have hp := List.length_pos_of_mem hx
    simp only [List.length_cons]
    omega
section
variable {M : MachD}
theorem MachOk.watch (h : MachOk M) : ∀ x ∈ M.watches, okWatch x = true := List.all_eq_true.mp h.wok
theorem MachOk.room (h : MachOk M) {r : Rq} (hr : r ∈ M.rooms) : r.1.length ≤ 1000 ∧ r.2.length ≤ 60 ∧ RqOk r := by
  have := room_ok h.watch (List.all_eq_true.mp h.rok r hr)
  exact ⟨by omega, h.rsz r hr, this.2⟩
theorem MachOk.door (h : MachOk M) {d : DoorD} (hd : d ∈ M.doors) : okSign d.sg = true ∧ d.st ∈ M.rooms.map (·.1) ∧ d.en ∈ M.rooms.map (·.1) ∧ guardOk ["<", "<=", ">", ">=", "="] M.watches d.looks = true ∧ (∀ b ∈ d.backs, b ∈ M.watches) ∧ d.backs.Nodup ∧ d.backs.length ≤ 7 := by
  have := List.all_eq_true.mp h.dok d hd
  unfold doorOk at this
  rw [Bool.and_eq_true, Bool.and_eq_true, Bool.and_eq_true, Bool.and_eq_true, Bool.and_eq_true, List.all_eq_true] at this
  obtain ⟨⟨⟨⟨⟨a, b⟩, c⟩, d'⟩, e⟩, f⟩ := this
  have e' : ∀ b ∈ d.backs, b ∈ M.watches := fun b hb => of_decide_eq_true (e b hb)
  have n := of_decide_eq_true f
  exact ⟨a, of_decide_eq_true b, of_decide_eq_true c, d', e', n, Nat.le_trans (nodup_len n e') h.w7⟩
end
/-! ### heaps that differ at a new instance alone -/
def OffI (p : Addr) (H H' : Hp) : Prop := (∃ C dx fs, H p = some (.ins C dx fs)) ∧ ∀ b o, H b = some o → b ≠ p → H' b = some o
def OffN (p : Addr) (H H' : Hp) : Prop := (∃ C dx, H p = some (.ins C dx [])) ∧ ∀ b o, H b = some o → b ≠ p → H' b = some o
section
variable {p : Addr} {H H' : Hp}
theorem OffN.i (h : OffN p H H') : OffI p H H' := by
  obtain ⟨⟨C, dx, hp⟩, k⟩ := h
  exact ⟨⟨C, dx, _, hp⟩, k⟩
theorem OffI.lst (h : OffI p H H') {q : Addr} {xs : List V} (e : H q = some (.lst xs)) : H' q = some (.lst xs) := by
  obtain ⟨⟨C, dx, fs, hp⟩, k⟩ := h
  exact k _ _ e (ne_of e hp (by intro z; cases z))
theorem OffI.tup (h : OffI p H H') {q : Addr} {xs : List V} (e : H q = some (.tup xs)) : H' q = some (.tup xs) := by
  obtain ⟨⟨C, dx, fs, hp⟩, k⟩ := h
  exact k _ _ e (ne_of e hp (by intro z; cases z))
theorem OffI.seq {α : Type} {R : Hp → Addr → α → Prop} (h : OffI p H H') (k : ∀ q x, R H q x → R H' q x) {q : Addr} {xs : List α} (v : SeqOf R H q xs) : SeqOf R H' q xs := by
  obtain ⟨qs, a, b, c⟩ := v
  exact ⟨qs, h.lst a, b, fun i q x h1 h2 => k q x (c i q x h1 h2)⟩
theorem OffI.ls (h : OffI p H H') {q : Addr} {ls : List Lq} (v : LsAt H q ls) : LsAt H' q ls := h.seq (fun _ _ z => ⟨h.tup z.1, z.2⟩) v
theorem OffI.rs (h : OffI p H H') {q : Addr} {rs : List Rq} (v : RsAt H q rs) : RsAt H' q rs := h.seq (fun _ _ ⟨g, a, b⟩ => ⟨g, h.tup a, h.ls b⟩) v
theorem OffN.door (h : OffN p H H') {C q : Addr} {d : DoorD} (v : DoorAt C H q d) : DoorAt C H' q d := by
  obtain ⟨dx, g, n, a, b, c⟩ := v
  refine ⟨dx, g, n, h.2 _ _ a (fun z => ?_), h.i.ls b, h.i.lst c⟩
  obtain ⟨⟨C', dx', hp⟩, _⟩ := h
  rw [z, hp] at a
  have l := door_start (st := d.st) (en := d.en) (sg := d.sg) (g := g) (n := n)
  have e : ([] : List (Str × V)) = doorF d.st d.en d.sg g n := by injection a with a; injection a
  rw [← e] at l
  cases l
theorem OffN.ds (h : OffN p H H') {C q : Addr} {ds : List DoorD} (v : DsAt C H q ds) : DsAt C H' q ds := h.i.seq (fun _ _ z => h.door z) v
end
theorem refs_inj {xs ys : List Addr} (h : xs.map V.ref = ys.map V.ref) : xs = ys := (List.map_inj_right (f := V.ref) (fun a b e => by cases e; rfl)).mp h
theorem lst_inj {H : Hp} {p : Addr} {xs ys : List Addr} (h : H p = some (.lst (xs.map V.ref))) (k : H p = some (.lst (ys.map V.ref))) : xs = ys := refs_inj (by rw [h] at k; simpa using k)
theorem machF_inj {wn rn sl dl wn' rn' sl' dl' : Addr} (h : machF wn rn sl dl = machF wn' rn' sl' dl') : wn = wn' ∧ rn = rn' ∧ sl = sl' ∧ dl = dl' := by
  have a := mach_watch (wn := wn) (rn := rn) (sl := sl) (dl := dl)
  have b := mach_room (wn := wn) (rn := rn) (sl := sl) (dl := dl)
  have c := mach_stay (wn := wn) (rn := rn) (sl := sl) (dl := dl)
  have d := mach_door (wn := wn) (rn := rn) (sl := sl) (dl := dl)
  rw [h, mach_watch] at a; rw [h, mach_room] at b; rw [h, mach_stay] at c; rw [h, mach_door] at d
  simp only [Option.some.injEq, V.ref.injEq] at a b c d
  exact ⟨a.symm, b.symm, c.symm, d.symm⟩
/-! ### heaps without some lists -/
open Classical in
noncomputable def remU (U : Addr → Prop) (H : Hp) : Hp := fun b => if U b then none else H b
theorem rem_at {U : Addr → Prop} {H : Hp} {b : Addr} {o : HO} (n : ¬ U b) (e : H b = some o) : remU U H b = some o := by unfold remU; rw [if_neg n]; exact e
theorem rem_of {U : Addr → Prop} {H : Hp} {b : Addr} {o : HO} (e : remU U H b = some o) : ¬ U b ∧ H b = some o := by
  unfold remU at e
  by_cases h : U b
  · rw [if_pos h] at e; cases e
  · rw [if_neg h] at e; exact ⟨h, e⟩
theorem rem_sub {U : Addr → Prop} {H : Hp} : Same (remU U H) H := fun b o e => (rem_of e).2
theorem rem_same {U : Addr → Prop} {H H' : Hp} (s : Same H H') : Same (remU U H) (remU U H') := fun b o e => rem_at (rem_of e).1 (s _ _ (rem_of e).2)
/-- U holds lists of H alone -/
def ListsU (U : Addr → Prop) (H : Hp) : Prop := ∀ b, U b → ∃ xs, H b = some (.lst xs)
theorem ListsU.tup {U : Addr → Prop} {H H' : Hp} (u : ListsU U H) (s : ∀ b xs, H b = some (.lst xs) → H' b = some (.lst xs)) {q : Addr} {ys : List V} (e : H' q = some (.tup ys)) : ¬ U q := fun h => by
  obtain ⟨xs, hx⟩ := u q h
  have := s q xs hx
  rw [e] at this; cases this
theorem LsAt.rem {U : Addr → Prop} {H H' : Hp} (u : ListsU U H) (s : ∀ b xs, H b = some (.lst xs) → H' b = some (.lst xs)) {q : Addr} {ls : List Lq} (h : LsAt H' q ls) (n : ¬ U q) : LsAt (remU U H') q ls := by
  obtain ⟨qs, a, b, c⟩ := h
  exact ⟨qs, rem_at n a, b, fun i q x h1 h2 => ⟨rem_at (u.tup s (c i q x h1 h2).1) (c i q x h1 h2).1, (c i q x h1 h2).2⟩⟩
/-! ### drawn names -/
def lett (i : Int) : Nat := letters.cps.toList.getD i.toNat 0
theorem letters_len : letters.cps.toList.length = 26 := by decide +kernel
theorem lett_get {i : Int} (h : 0 ≤ i ∧ i < 26) : letters.cps.toList[i.toNat]? = some (lett i) := by
  have h1 : i.toNat < letters.cps.toList.length := by rw [letters_len]; omega
  unfold lett
  rw [List.getD_eq_getElem?_getD, List.getElem?_eq_getElem h1]; rfl
theorem lett_at {i : Int} (h : 0 ≤ i ∧ i < 26) : atI letters.cps.toList i = some (lett i) := by
  have := atI_nat (lett_get h)
  rwa [Int.toNat_of_nonneg h.1] at this
theorem lett_mem {i : Int} (h : 0 ≤ i ∧ i < 26) : lett i ∈ letters.cps.toList := List.mem_of_getElem? (lett_get h)
theorem lett_inj : ∀ i j : Fin 26, lett (i.val : Int) = lett (j.val : Int) → i = j := by decide +kernel
theorem lett_inj' {i j : Int} (hi : 0 ≤ i ∧ i < 26) (hj : 0 ≤ j ∧ j < 26) (h : lett i = lett j) : i = j := by
  have := lett_inj ⟨i.toNat, by omega⟩ ⟨j.toNat, by omega⟩ (by
    show lett ((i.toNat : Nat) : Int) = lett ((j.toNat : Nat) : Int)
    rw [Int.toNat_of_nonneg hi.1, Int.toNat_of_nonneg hj.1]; exact h)
  have : i.toNat = j.toNat := by simpa using congrArg Fin.val this
  omega
def one (c : Nat) : Str := ⟨#[c]⟩
def txt (cs : List Nat) : Str := ⟨cs.toArray⟩
theorem join_one (cs : List Nat) : Txt.join ("" : Str) (cs.map one) = txt cs := by
  have key : ∀ (cs : List Nat) (acc : Array Nat), (cs.map one).foldl (fun acc p => acc ++ ("" : Str).cps ++ p.cps) acc = acc ++ cs.toArray := by
    intro cs
    induction cs with
    | nil => intro acc; simp
    | cons c cs ih =>
      intro acc
      rw [List.map_cons, List.foldl_cons, ih]
      have e : ("" : Str).cps = #[] := by decide +kernel
      rw [e]
      unfold one
      simp
  cases cs with
  | nil => decide +kernel
  | cons c cs =>
    show (⟨(((c :: cs).map one).drop 1).foldl (fun acc p => acc ++ ("" : Str).cps ++ p.cps) (((c :: cs).map one).headD Str.empty).cps⟩ : Str) = _
    rw [List.map_cons, List.drop_succ_cons, List.drop_zero, key]
    unfold txt one
    simp
theorem txt_inj {a b : List Nat} (h : txt a = txt b) : a = b := by
  unfold txt at h
  have := congrArg (fun s : Str => s.cps.toList) h
  simpa using this
theorem nm_ok {size : Nat} {cs : List Nat} (hl : cs.length = size) (h1 : 1 ≤ size) (h8 : size ≤ 8) (hc : ∀ c ∈ cs, c ∈ letters.cps.toList) : okName (txt cs) = true := by
  have e : (txt cs).length = size := by unfold txt Str.length; simpa using hl
  unfold okName okT
  rw [e, decide_eq_true (by omega), decide_eq_true (by omega)]
  simp only [Bool.true_and]
  rw [List.all_eq_true]
  intro c h
  exact decide_eq_true (hc c (by unfold txt at h; simpa using h))
/-- names drawn: what is told of them -/
def NamesOk (xs : List Str) (many : Nat) : Prop := xs.length = many ∧ (∀ x ∈ xs, okName x = true) ∧ xs.Nodup ∧ ∃ n, ∀ x ∈ xs, x.length = n
/-- the letters of the k-th name -/
def nmC (size at' : Nat) (f : Nat → Int) (g : Int) : List Nat := ((List.range size).map fun j => lett (f j)).set at' (lett g)
theorem nmC_len {size at' : Nat} {f : Nat → Int} {g : Int} : (nmC size at' f g).length = size := by unfold nmC; simp
theorem nmC_ok {size at' : Nat} {f : Nat → Int} {g : Int} (h1 : 1 ≤ size) (h8 : size ≤ 8) (hf : ∀ j, 0 ≤ f j ∧ f j < 26) (hg : 0 ≤ g ∧ g < 26) : okName (txt (nmC size at' f g)) = true := by
  refine nm_ok nmC_len h1 h8 fun c hc => ?_
  unfold nmC at hc
  rcases List.mem_or_eq_of_mem_set hc with h | h
  · obtain ⟨j, _, rfl⟩ := List.mem_map.mp h
    exact lett_mem (hf j)
  · rw [h]; exact lett_mem hg
theorem nmC_inj {size at' : Nat} {f : Nat → Int} {g g' : Int} (ha : at' < size) (hg : 0 ≤ g ∧ g < 26) (hg' : 0 ≤ g' ∧ g' < 26) (h : txt (nmC size at' f g) = txt (nmC size at' f g')) : g = g' := by
  have e := congrArg (fun l : List Nat => l[at']?) (txt_inj h)
  unfold nmC at e
  simp only [List.getElem?_set_self', List.getElem?_map] at e
  rw [List.getElem?_range ha] at e
  exact lett_inj' hg hg' (by simpa using e)
theorem names_ok {size at' : Nat} {f : Nat → Int} {c : Int} {many : Nat} (h1 : 1 ≤ size) (h8 : size ≤ 8) (ha : at' < size) (hm : many ≤ 26) (hf : ∀ j, 0 ≤ f j ∧ f j < 26) : NamesOk ((List.range many).map fun k : Nat => txt (nmC size at' f ((c + (k : Int)).fmod 26))) many := by
  have fm : ∀ k : Nat, 0 ≤ (c + (k : Int)).fmod 26 ∧ (c + (k : Int)).fmod 26 < 26 := fun k => fm_pos (by decide)
  refine ⟨by simp, fun x hx => ?_, ?_, size, fun x hx => ?_⟩
  · obtain ⟨k, _, rfl⟩ := List.mem_map.mp hx
    exact nmC_ok h1 h8 hf (fm k)
  · unfold List.Nodup
    rw [List.pairwise_map]
    refine List.Pairwise.imp_of_mem (fun {a b} ha' hb' hne he => hne ?_) List.nodup_range
    have := nmC_inj ha (fm a) (fm b) he
    rw [List.mem_range] at ha' hb'
    rw [Int.fmod_eq_emod_of_nonneg _ (by decide), Int.fmod_eq_emod_of_nonneg _ (by decide)] at this
    omega
  · obtain ⟨k, _, rfl⟩ := List.mem_map.mp hx
    unfold txt Str.length
    simp [nmC_len]
theorem sum_one (cs : List Nat) : ((cs.map one).map (·.length)).sum = cs.length := by
  induction cs with
  | nil => rfl
  | cons c cs ih =>
    rw [List.map_cons, List.map_cons, List.sum_cons, ih, List.length_cons]
    show 1 + cs.length = _
    omega
theorem nmC_vals {size at' : Nat} {f : Nat → Int} {g : Int} : ((List.range size).map fun j => V.str (one (lett (f j)))).set at' (V.str (one (lett g))) = ((nmC size at' f g).map one).map V.str := by
  unfold nmC
  rw [List.map_set, List.map_set, List.map_map, List.map_map]
  rfl
/-! ### names by sums -/
def spNames : Sp := fun vs H Q _ => ∃ (cell : Int) (many : Nat), vs = [.int cell, .int many] ∧ many ≤ 26 ∧ ∀ (p : Addr) (H' : Hp) (xs : List Str), Same H H' → H p = none → H' p = some (.lst (xs.map V.str)) → NamesOk xs many → Q (.ref p) H'
section
variable {P : Program} {w : World} {K : PySem.W.Frag} {mg : Str → Option Value} {base : Heap}
def spOfSigns : Sp := fun vs H Q _ => ∃ (x signs : Str) (most : Int), vs = [.str x, .str signs, .int most] ∧ x.length ≤ 1000 ∧ Q (.bl (okT x signs most)) H
theorem ok_of_signs (T : Top K mg) : FnOk P w K mg base CX0 1 T.f_of_signs T.d_of_signs ["thing", "signs", "most"] spOfSigns := by
  refine T.F_of_signs.ok sc_of_signs (fun vs H Q E h => ?_) (fun cdv A outer s H vs Q E hr h => ?_)
  · obtain ⟨x, signs, most, rfl, _⟩ := h; rfl
  · obtain ⟨x, signs, most, rfl, hl, q⟩ := h
    refine ⟨_, (pss_cons (ps_if (PW.pt (pw_or (pt_not (pt_val (pe_callB (call_isiA (K := K) rfl) (by rfl) T.m_isinstance (by decide +kernel) (pa_cons (pv 0) (pa_cons (pe_bltn (v := .ty "str") (u := .type "str") (by rfl) T.m_str (by decide +kernel) rfl) pa_nil))))) (pw_or1 (pt_not (pt_chain op_le op_le pe_int (pe_callB call_len_str (by rfl) T.m_len (by decide +kernel) (pa_cons (pv 0) pa_nil)) (pv 2)))))) (pss_one (ps_ret pe_bl)) pss_nil)
      (pss_cons (ps_for PassesOwn.never rfl (pi_str (pv 0)) (pg_name (i := 3) sc_of_signs.nd rfl (.inl rfl)) (pss_one (ps_if (pt_cmpR op_notIn_sign (pv 3) (pv 1) (by rfl)) (pss_one (ps_ret pe_bl)) pss_nil)))
      (pss_one (ps_ret pe_bl)))), ?_⟩
    refine seq_step ?_
    walk_at "rd"
    refine isi (r := true) (.base (.str _)) (by decide +kernel) ?_
    walk_at "rt"
    refine ⟨small1000' hl, ?_⟩
    unfold okT at q
    refine ite_d (fun h1 => ?_) (fun h1 => ?_)
    · rw [decide_eq_true h1] at q
      by_cases h2 : (x.length : Int) ≤ most
      · rw [decide_eq_true h2] at q ⊢
        walk_at "rd"
        refine seq_step ?_
        refine tFor_str ?_ (fun Q R k h => ?_)
        · walk_at "rt"
          refine ⟨fun i σ' H' => (∃ v3, σ' = [some (.str x), some (.str signs), some (.int most), v3]) ∧ H' = H ∧ (x.cps.toList.take i).all (fun c => decide (c ∈ signs.cps.toList)) = true, ⟨⟨_, rfl⟩, rfl, rfl⟩, ?_, ?_⟩
          · rintro i σ' H' c hc ⟨⟨v3, rfl⟩, rfl, ha⟩
            walk_at "rt"
            refine ⟨c, rfl, ?_⟩
            by_cases m : c ∈ signs.cps.toList
            · refine if_f (by rw [decide_eq_true m]; rfl) ?_
              rw [List.take_add_one, hc, List.all_append, ha]
              simpa using m
            · refine if_t (by rw [decide_eq_false m]; rfl) ?_
              have : (x.cps.toList.all fun c => decide (c ∈ signs.cps.toList)) = false := by
                rw [List.all_eq_false]
                exact ⟨c, List.mem_of_getElem? hc, by simp [m]⟩
              rw [this] at q
              exact q
          · rintro σ' H' ⟨⟨v3, rfl⟩, rfl, ha⟩
            walk_at "rd"
            rw [List.take_length] at ha
            rw [ha] at q
            exact q
        · exact ⟨_, rfl, by obtain ⟨v, h1, h2⟩ := h; cases h1; exact k _ _ h2⟩
      · rw [decide_eq_false h2] at q ⊢
        walk_at "rd"
        exact q
    · rw [decide_eq_false h1] at q
      exact q
def spName : Sp := fun vs H Q _ => ∃ x : Str, vs = [.str x] ∧ x.length ≤ 1000 ∧ Q (.bl (okName x)) H
theorem ok_is_name (T : Top K mg) : FnOk P w K mg base CX0 2 T.f_is_name T.d_is_name ["thing"] spName := by
  refine T.F_is_name.ok sc_is_name (fun vs H Q E h => ?_) (fun cdv A outer s H vs Q E hr h => ?_)
  · obtain ⟨x, rfl, _⟩ := h; rfl
  · obtain ⟨x, rfl, hl, q⟩ := h
    refine ⟨_, (pss_one (ps_ret (pe_call (ok_of_signs T) (hr.mono (by decide)) rfl T.g_of_signs T.F_of_signs.kp T.b_of_signs .nil pass0 (pa_cons (pv 0) (pa_cons (pe_glob (v := .str "abcdefghijklmnopqrstuvwxyz") rfl T.g_LETTERS ⟨_, rfl⟩) (pa_cons pe_int pa_nil)))))), ?_⟩
    walk_at "rd"
    exact ⟨x, letters, 8, rfl, hl, q⟩
def spWName : Sp := fun vs H Q _ => ∃ x : Str, vs = [.str x] ∧ x.length ≤ 1000 ∧ Q (.bl (okWatch x)) H
theorem ok_is_watch_name (T : Top K mg) : FnOk P w K mg base CX0 3 T.f_is_watch_name T.d_is_watch_name ["thing"] spWName := by
  refine T.F_is_watch_name.ok sc_is_watch_name (fun vs H Q E h => ?_) (fun cdv A outer s H vs Q E hr h => ?_)
  · obtain ⟨x, rfl, _⟩ := h; rfl
  · obtain ⟨x, rfl, hl, q⟩ := h
    refine ⟨_, (pss_one (ps_ret (pe_or (pe_cmpR op_eq (pv 0) pe_str (nomark _)) (pe_one (pe_call (ok_is_name T) (hr.mono (by decide)) rfl T.g_is_name T.F_is_name.kp T.b_is_name .nil pass0 (pa_cons (pv 0) pa_nil)))))), ?_⟩
    walk_at "rt"
    unfold okWatch at q
    refine ite_d (fun h => ?_) (fun h => ?_)
    · rw [decide_eq_true (show x = ("/" : Str) from h)] at q
      exact q
    · rw [decide_eq_false (show ¬ x = ("/" : Str) from h)] at q
      exact ⟨x, rfl, hl, q⟩
theorem str_nil {x : Str} (h : x.cps.toList = []) : x = ("" : Str) := by
  cases x with
  | mk cps =>
    have : cps = #[] := Array.toList_eq_nil_iff.mp h
    rw [this]; rfl
def spSign : Sp := fun vs H Q _ => ∃ x : Str, vs = [.str x] ∧ x.length ≤ 1000 ∧ Q (.bl (okSign x)) H
theorem ok_is_sign (T : Top K mg) : FnOk P w K mg base CX0 3 T.f_is_sign T.d_is_sign ["thing"] spSign := by
  refine T.F_is_sign.ok sc_is_sign (fun vs H Q E h => ?_) (fun cdv A outer s H vs Q E hr h => ?_)
  · obtain ⟨x, rfl, _⟩ := h; rfl
  · obtain ⟨x, rfl, hl, q⟩ := h
    refine ⟨_, (pss_cons (ps_if (pt_not (pt_val (pe_callB (call_isiA (K := K) rfl) (by rfl) T.m_isinstance (by decide +kernel) (pa_cons (pv 0) (pa_cons (pe_bltn (v := .ty "str") (u := .type "str") (by rfl) T.m_str (by decide +kernel) rfl) pa_nil))))) (pss_one (ps_ret pe_bl)) pss_nil)
      (pss_one (ps_ret (pe_or (pe_cmpR op_eq (pv 0) pe_str (nomark _)) (pe_one (pe_and (pe_cmpR op_in_sign (pe_ix ix_str (pv 0) (pe_un un_neg pe_int) (fun _ _ => rfl)) pe_str (by rfl)) (pe_one (pe_call (ok_is_name T) (hr.mono (by decide)) rfl T.g_is_name T.F_is_name.kp T.b_is_name .nil pass0 (pa_cons (pe_slice sl_str (pv 0) po_none (po_some (pe_un un_neg pe_int))) pa_nil))))))))), ?_⟩
    refine seq_step ?_
    walk_at "rt"
    refine isi (r := true) (.base (.str _)) (by decide +kernel) ?_
    walk_at "rt"
    unfold okSign at q
    refine ite_d (fun h => ?_) (fun h => ?_)
    · rw [decide_eq_true (show x = ("" : Str) from h)] at q
      exact q
    · rw [decide_eq_false (show ¬ x = ("" : Str) from h)] at q
      have n0 : x.cps.toList ≠ [] := fun z => h (str_nil z)
      have hp : 0 < x.cps.toList.length := List.length_pos_iff.mpr n0
      have hlast : x.cps.toList.getLast? = some (x.cps.toList[x.cps.toList.length - 1]'(by omega)) := by
        rw [List.getLast?_eq_getElem?, List.getElem?_eq_getElem (by omega)]
      rw [hlast] at q
      refine ⟨x, -1, _, rfl, rfl, small1000' hl, (by
        unfold atI ixN
        rw [if_neg (by decide), if_pos (by omega), show ((-1 : Int) + (x.cps.toList.length : Int)).toNat = x.cps.toList.length - 1 by omega]
        exact List.getElem?_eq_getElem (by omega)), ?_⟩
      generalize x.cps.toList[x.cps.toList.length - 1] = c at *
      walk_at "rt"
      refine ⟨c, rfl, ?_⟩
      replace q : Q (.bl (false || (decide (c ∈ ("!?" : Str).cps.toList) && okName (cutS x none (some (-1)))))) H := q
      refine ite_d (fun m => ?_) (fun m => ?_)
      · rw [decide_eq_true (show c ∈ ("!?" : Str).cps.toList from m)] at q
        refine ⟨x, rfl, small1000' hl, ?_⟩
        refine ⟨_, rfl, ?_, q⟩
        unfold cutS Str.length
        simp only [List.size_toArray, List.length_take, List.length_drop]
        unfold Str.length at hl
        rw [Array.length_toList]
        omega
      · rw [decide_eq_false (show ¬ c ∈ ("!?" : Str).cps.toList from m)] at q
        exact q
theorem ok_is_whole (T : Top K mg) : FnOk P w K mg base CX0 1 T.f_is_whole T.d_is_whole ["thing"] (spWhole K) := by
  refine T.F_is_whole.ok sc_is_whole (fun vs H Q E h => ?_) (fun cdv A outer s H vs Q E hr h => ?_)
  · obtain ⟨x, t, rfl, _⟩ := h; rfl
  · obtain ⟨x, t, rfl, hx, ht, q⟩ := h
    refine ⟨_, (pss_one (ps_ret (pe_and (pe_callB (call_isiA (K := K) rfl) (by rfl) T.m_isinstance (by decide +kernel) (pa_cons (pv 0) (pa_cons (pe_bltn (v := .ty "int") (u := .type "int") (by rfl) T.m_int (by decide +kernel) rfl) pa_nil))) (pe_one (pe_not (pe_callB (call_isiA (K := K) rfl) (by rfl) T.m_isinstance (by decide +kernel) (pa_cons (pv 0) (pa_cons (pe_bltn (v := .ty "bool") (u := .type "bool") (by rfl) T.m_bool (by decide +kernel) rfl) pa_nil)))))))), ?_⟩
    walk_at "rd"
    have k1 : ∃ r, kitB t "int" = some r ∧ ∃ r2, kitB t "bool" = some r2 ∧ (decide (t = "int")) = (r && !r2) := by
      simp only [kinds, List.mem_cons, List.not_mem_nil, or_false] at ht
      rcases ht with rfl | rfl | rfl | rfl | rfl | rfl | rfl
      · exact ⟨true, by decide +kernel, false, by decide +kernel, by decide +kernel⟩
      · exact ⟨true, by decide +kernel, true, by decide +kernel, by decide +kernel⟩
      · exact ⟨false, by decide +kernel, false, by decide +kernel, by decide +kernel⟩
      · exact ⟨false, by decide +kernel, false, by decide +kernel, by decide +kernel⟩
      · exact ⟨false, by decide +kernel, false, by decide +kernel, by decide +kernel⟩
      · exact ⟨false, by decide +kernel, false, by decide +kernel, by decide +kernel⟩
      · exact ⟨false, by decide +kernel, false, by decide +kernel, by decide +kernel⟩
    obtain ⟨r, e1, r2, e2, e3⟩ := k1
    refine isi hx e1 ?_
    rw [e3] at q
    walk_at "rd"
    cases r with
    | false => exact q
    | true =>
      walk_at "rd"
      refine isi hx e2 ?_
      walk_at "rd"
      exact q
/-- words and watches: a list or tuple of texts -/
def TxS (K : PySem.W.Frag) (H : Hp) (p : Addr) (ws : List Str) : Prop := SqL K H p (ws.map V.str) ∨ SqT K H p (ws.map V.str)
theorem TxS.keep {K : PySem.W.Frag} {H H' : Hp} {p : Addr} {ws : List Str} (s : Same H H') (h : TxS K H p ws) : TxS K H' p ws := by
  rcases h with h | h
  · exact .inl (s.seq h)
  · refine .inr ?_
    rcases h with h | h
    · rcases h with h | ⟨o, h⟩
      · exact .inl (.inl (s _ _ h))
      · exact .inl (.inr ⟨o, s _ _ h⟩)
    · exact .inr h
theorem kit_no {t u : String} (h : t ∈ kinds) (n : t ≠ u) (hu : u = "tuple" ∨ u = "list" ∨ u = "str") : kitB t u = some false := by
  simp only [kinds, List.mem_cons, List.not_mem_nil, or_false] at h
  rcases hu with rfl | rfl | rfl <;> rcases h with rfl | rfl | rfl | rfl | rfl | rfl | rfl <;> first | exact absurd rfl n | decide +kernel
/-- what is none of a look, by its kind -/
inductive NoLook (K : PySem.W.Frag) (H : Hp) : V → Prop where
  | kind {x : V} {t : String} (h : TyX K H x (.type t)) (k : t ∈ kinds) (n : t ≠ "tuple") : NoLook K H x
  | len {q : Addr} {xs : List V} (h : H q = some (.tup xs)) (n : xs.length ≠ 3) : NoLook K H (.ref q)
  | first {q : Addr} {a b c : V} {t : String} (h : H q = some (.tup [a, b, c])) (ha : TyX K H a (.type t)) (k : t ∈ kinds) (n : t ≠ "str") : NoLook K H (.ref q)
  | second {q : Addr} {s : Str} {b c : V} {t : String} (h : H q = some (.tup [.str s, b, c])) (hb : TyX K H b (.type t)) (k : t ∈ kinds) (n : t ≠ "str") : NoLook K H (.ref q)
theorem NoLook.keep {K : PySem.W.Frag} {H H' : Hp} {x : V} (s : Same H H') (h : NoLook K H x) : NoLook K H' x := by
  cases h with
  | kind h k n => exact .kind (tyx_same s h) k n
  | len h n => exact .len (s _ _ h) n
  | first h ha k n => exact .first (s _ _ h) (tyx_same s ha) k n
  | second h hb k n => exact .second (s _ _ h) (tyx_same s hb) k n
def spLook (K : PySem.W.Frag) : Sp := fun vs H Q _ => (∃ (p pw ps : Addr) (l : Lq) (ws watches : List Str), vs = [.ref p, .ref pw, .ref ps] ∧ LqAt H p l ∧ TxS K H pw ws ∧ TxS K H ps watches ∧ Q (.bl (lookOk ws watches l)) H) ∨
  (∃ (x : V) (pw ps : Addr) (ws watches : List Str), vs = [x, .ref pw, .ref ps] ∧ NoLook K H x ∧ TxS K H pw ws ∧ TxS K H ps watches ∧ Q (.bl false) H)
theorem ok_is_look (T : Top K mg) : FnOk P w K mg base CX0 2 T.f_is_look T.d_is_look ["thing", "words", "watches"] (spLook K) := by
  refine T.F_is_look.ok sc_is_look (fun vs H Q E h => ?_) (fun cdv A outer s H vs Q E hr h => ?_)
  · rcases h with ⟨p, pw, ps, l, ws, watches, rfl, _⟩ | ⟨x, pw, ps, ws, watches, rfl, _⟩ <;> rfl
  · refine ⟨_, (pss_cons (ps_if (PW.pt (pw_or (pt_not (pt_val (pe_callB (call_isiA (K := K) rfl) (by rfl) T.m_isinstance (by decide +kernel) (pa_cons (pv 0) (pa_cons (pe_bltn (v := .ty "tuple") (u := .type "tuple") (by rfl) T.m_tuple (by decide +kernel) rfl) pa_nil))))) (pw_or1 (pt_cmpR op_ne (pe_callB call_len_seq (by rfl) T.m_len (by decide +kernel) (pa_cons (pv 0) pa_nil)) pe_int (nomark _))))) (pss_one (ps_ret pe_bl)) pss_nil)
      (pss_cons (ps_if (PW.pt (pw_or (pt_not (pt_val (pe_callB (call_isiA (K := K) rfl) (by rfl) T.m_isinstance (by decide +kernel) (pa_cons (pe_ix (ix_tupA (K := K) rfl) (pv 0) pe_int (fun _ _ => rfl)) (pa_cons (pe_bltn (v := .ty "str") (u := .type "str") (by rfl) T.m_str (by decide +kernel) rfl) pa_nil))))) (pw_or1 (pt_cmpR (op_notIn_seqA (K := K) rfl) (pe_ix (ix_tupA (K := K) rfl) (pv 0) pe_int (fun _ _ => rfl)) (pv 2) (by rfl))))) (pss_one (ps_ret pe_bl)) pss_nil)
      (pss_cons (ps_if (PW.pt (pw_or (pt_not (pt_val (pe_callB (call_isiA (K := K) rfl) (by rfl) T.m_isinstance (by decide +kernel) (pa_cons (pe_ix (ix_tupA (K := K) rfl) (pv 0) pe_int (fun _ _ => rfl)) (pa_cons (pe_bltn (v := .ty "str") (u := .type "str") (by rfl) T.m_str (by decide +kernel) rfl) pa_nil))))) (pw_or1 (pt_cmpR (op_notIn_seqA (K := K) rfl) (pe_ix (ix_tupA (K := K) rfl) (pv 0) pe_int (fun _ _ => rfl)) (pv 1) (by rfl))))) (pss_one (ps_ret pe_bl)) pss_nil)
      (pss_one (ps_ret (pe_and (pe_call (ok_is_whole T) (hr.mono (by decide)) rfl T.g_is_whole T.F_is_whole.kp T.b_is_whole .nil pass0 (pa_cons (pe_ix (ix_tupA (K := K) rfl) (pv 0) pe_int (fun _ _ => rfl)) pa_nil)) (pe_one (pe_cmpR op_ge (pe_ix (ix_tupA (K := K) rfl) (pv 0) pe_int (fun _ _ => rfl)) pe_int (nomark _))))))))), ?_⟩
    rcases h with ⟨p, pw, ps, ⟨a, wd, v⟩, ws, watches, rfl, ⟨e, hk⟩, hw, hs, q⟩ | ⟨x, pw, ps, ws, watches, rfl, hn, hw, hs, q⟩
    rotate_left
    · refine seq_step ?_
      walk_at "rt"
      cases hn with
      | kind h k n =>
        refine isi (r := false) h (kit_no k n (.inl rfl)) ?_
        walk_at "rt"
        exact q
      | len h n =>
        refine isi (r := true) (.base (.tup h)) (by decide +kernel) ?_
        walk_at "rt"
        refine ⟨_, .inr (sqt h), ?_⟩
        refine if_t ?_ q
        rw [decide_eq_false (by omega)]; rfl
      | first h ha k n =>
        refine isi (r := true) (.base (.tup h)) (by decide +kernel) ?_
        walk_at "rt"
        refine ⟨_, .inr (sqt h), ?_⟩
        walk_at "rt"
        refine seq_step ?_
        walk_at "rt"
        refine ix_t (sqt h) (by decide) rfl ?_
        walk_at "rt"
        refine isi (r := false) ha (kit_no k n (.inr (.inr rfl))) ?_
        walk_at "rt"
        exact q
      | @second p a b c t h hb k n =>
        refine isi (r := true) (.base (.tup h)) (by decide +kernel) ?_
        walk_at "rt"
        refine ⟨_, .inr (sqt h), ?_⟩
        walk_at "rt"
        refine seq_step ?_
        walk_at "rt"
        refine ix_t (sqt h) (by decide) rfl ?_
        walk_at "rt"
        refine isi (r := true) (.base (.str _)) (by decide +kernel) ?_
        walk_at "rt"
        refine ix_t (sqt h) (by decide) rfl ?_
        walk_at "rt"
        refine ⟨ps, _, rfl, hs, rfl, flat_of, ?_⟩
        rw [inV_str]
        by_cases m : a ∈ watches
        · rw [decide_eq_true m]
          walk_at "rt"
          refine seq_step ?_
          walk_at "rt"
          refine ix_t (sqt h) (by decide) rfl ?_
          walk_at "rt"
          refine isi (r := false) hb (kit_no k n (.inr (.inr rfl))) ?_
          walk_at "rt"
          exact q
        · rw [decide_eq_false m]
          walk_at "rt"
          exact q
    unfold lookOk at q
    refine seq_step ?_
    walk_at "rt"
    refine isi (r := true) (.base (.tup e)) (by decide +kernel) ?_
    walk_at "rt"
    refine ⟨_, .inr (sqt e), ?_⟩
    walk_at "rt"
    refine seq_step ?_
    walk_at "rt"
    refine ix_t (sqt e) (by decide) rfl ?_
    walk_at "rt"
    refine isi (r := true) (.base (.str _)) (by decide +kernel) ?_
    walk_at "rt"
    refine ix_t (sqt e) (by decide) rfl ?_
    walk_at "rt"
    refine ⟨ps, _, rfl, hs, rfl, flat_of, ?_⟩
    rw [inV_str]
    by_cases m : a ∈ watches
    · rw [decide_eq_true m] at q ⊢
      walk_at "rt"
      refine seq_step ?_
      walk_at "rt"
      refine ix_t (sqt e) (by decide) rfl ?_
      walk_at "rt"
      refine isi (r := true) (.base (.str _)) (by decide +kernel) ?_
      walk_at "rt"
      refine ix_t (sqt e) (by decide) rfl ?_
      walk_at "rt"
      refine ⟨pw, _, rfl, hw, rfl, flat_of, ?_⟩
      rw [inV_str]
      by_cases m2 : wd ∈ ws
      · rw [decide_eq_true m2] at q ⊢
        walk_at "rt"
        refine ix_t (sqt e) (by decide) rfl ?_
        obtain ⟨t, ht, ty, hi⟩ := ty_kind (K := K) (H := H) hk
        refine ⟨v, t, rfl, ty, ht, ?_⟩
        walk_at "rt"
        by_cases c : t = "int"
        · obtain ⟨n, hn⟩ := hi.mp c
          have hn : v = .int n := hn
          subst hn
          rw [decide_eq_true c]
          walk_at "rt"
          refine ix_t (sqt e) (by decide) rfl ?_
          walk_at "rt"
          exact q
        · rw [decide_eq_false c]
          walk_at "rt"
          have : numOk v = false := by
            cases v with
            | int n => exact absurd (hi.mpr ⟨n, rfl⟩) c
            | _ => rfl
          rw [this] at q
          exact q
      · rw [decide_eq_false m2] at q ⊢
        walk_at "rt"
        exact q
    · rw [decide_eq_false m] at q ⊢
      walk_at "rt"
      exact q
def ThgAt (K : PySem.W.Frag) (H : Hp) (ws watches : List Str) (x : V) (b : Bool) : Prop := (∃ q l, x = .ref q ∧ LqAt H q l ∧ b = lookOk ws watches l) ∨ (NoLook K H x ∧ b = false)
theorem ThgAt.keep {K : PySem.W.Frag} {H H' : Hp} {ws watches : List Str} {x : V} {b : Bool} (s : Same H H') (h : ThgAt K H ws watches x b) : ThgAt K H' ws watches x b := by
  rcases h with ⟨q, l, e, h, hb⟩ | ⟨h, hb⟩
  · exact .inl ⟨q, l, e, h.keep s, hb⟩
  · exact .inr ⟨h.keep s, hb⟩
def spGuard (K : PySem.W.Frag) : Sp := fun vs H Q _ => (∃ (p pw ps : Addr) (ls : List Lq) (ws watches : List Str), vs = [.ref p, .ref pw, .ref ps] ∧ LsAt H p ls ∧ TxS K H pw ws ∧ TxS K H ps watches ∧ ls.length ≤ 60 ∧ ∀ H', Same H H' → Q (.bl (guardOk ws watches ls)) H') ∨
  (∃ (p pw ps : Addr) (xs : List V) (bs : List Bool) (ws watches : List Str), vs = [.ref p, .ref pw, .ref ps] ∧ H p = some (.lst xs) ∧ xs.length = bs.length ∧ xs.length ≤ 60 ∧ (∀ (i : Nat) (x : V) (b : Bool), xs[i]? = some x → bs[i]? = some b → ThgAt K H ws watches x b) ∧ TxS K H pw ws ∧ TxS K H ps watches ∧ ∀ H', Same H H' → Q (.bl (bs.all id)) H') ∨
  (∃ (x : V) (t : String) (pw ps : Addr), vs = [x, .ref pw, .ref ps] ∧ TyX K H x (.type t) ∧ t ∈ kinds ∧ t ≠ "list" ∧ Q (.bl false) H)
theorem ok_is_guard (T : Top K mg) : FnOk P w K mg base CX0 3 T.f_is_guard T.d_is_guard ["thing", "words", "watches"] (spGuard K) := by
  refine T.F_is_guard.ok sc_is_guard (fun vs H Q E h => ?_) (fun cdv A outer s H vs Q E hr h => ?_)
  · rcases h with ⟨p, pw, ps, ls, ws, watches, rfl, _⟩ | ⟨p, pw, ps, xs, bs, ws, watches, rfl, _⟩ | ⟨x, t, pw, ps, rfl, _⟩ <;> rfl
  · refine ⟨_, (pss_one (ps_ret (pe_and (pe_callB (call_isiA (K := K) rfl) (by rfl) T.m_isinstance (by decide +kernel) (pa_cons (pv 0) (pa_cons (pe_bltn (v := .ty "list") (u := .type "list") (by rfl) T.m_list (by decide +kernel) rfl) pa_nil))) (pe_one (pe_callB (cr_all rfl) (by rfl) T.m_all (by decide +kernel) (pa_cons (lc_vs (vs := [3]) (pe_lc (own := [("look", 3)]) (g := gName 3) (tt := tYes) rfl sc_is_guard.nd (pi_listA (K := K) rfl (pv 0)) (blkOk_by (own := [("look", 3)]) (N := ["thing", "words", "watches", "look"]) (sc := defScope s_is_guard) (by decide +kernel)) (fun _ _ _ _ _ => (pg_name (i := 3) sc_is_guard.nd rfl (.inl rfl))) (fun _ _ _ _ _ => pts_nil) (fun _ _ _ _ _ => (pe_call (ok_is_look T) (hr.mono (by decide)) rfl T.g_is_look T.F_is_look.kp T.b_is_look .nil pass0 (pa_cons (pv 3) (pa_cons (pv 1) (pa_cons (pv 2) pa_nil)))))) rfl) pa_nil)))))), ?_⟩
    have key : (∃ (p pw ps : Addr) (xs : List V) (bs : List Bool) (ws watches : List Str), vs = [.ref p, .ref pw, .ref ps] ∧ H p = some (.lst xs) ∧ xs.length = bs.length ∧ xs.length ≤ 60 ∧ (∀ (i : Nat) (x : V) (b : Bool), xs[i]? = some x → bs[i]? = some b → ThgAt K H ws watches x b) ∧ TxS K H pw ws ∧ TxS K H ps watches ∧ ∀ H', Same H H' → Q (.bl (bs.all id)) H') ∨
        (∃ (x : V) (t : String) (pw ps : Addr), vs = [x, .ref pw, .ref ps] ∧ TyX K H x (.type t) ∧ t ∈ kinds ∧ t ≠ "list" ∧ Q (.bl false) H) := by
      rcases h with ⟨p, pw, ps, ls, ws, watches, rfl, ⟨qs, a, b, c⟩, hw, hs, h60, q⟩ | h
      · refine .inl ⟨p, pw, ps, qs.map V.ref, ls.map (lookOk ws watches), ws, watches, rfl, a, by simp [b], by simp; omega, fun i x bo h1 h2 => ?_, hw, hs, fun H' s' => ?_⟩
        · rw [List.getElem?_map] at h1 h2
          obtain ⟨q', e1, rfl⟩ := Option.map_eq_some_iff.mp h1
          obtain ⟨l, e2, rfl⟩ := Option.map_eq_some_iff.mp h2
          exact .inl ⟨q', l, rfl, c i q' l e1 e2, rfl⟩
        · rw [List.all_map]; exact q H' s'
      · exact h
    rcases key with ⟨p, pw, ps, xs, bs, ws, watches, rfl, a, bl, h60, c, hw, hs, q⟩ | ⟨x, t, pw, ps, rfl, ht, k, n, q⟩
    · walk_at "rt"
      refine isi (r := true) (.base (.lst a)) (by decide +kernel) ?_
      walk_at "rt"
      refine lc_src ?_
      walk_at "rd"
      refine ⟨⟨_, .of a⟩, ?_⟩
      refine lcL_vals (xs := xs) (f := pick bs V.bl (V.bl false)) a (by omega) (by simp) (fun i x H1 Q1 hi s1 h => ?_) (fun D H1 s1 _ eD => ?_)
      · have hil := (List.getElem?_eq_some_iff.mp hi).1
        have hx := List.getElem?_eq_getElem (l := bs) (i := i) (by omega)
        have tx := (c i x _ hi hx).keep s1
        have := h H1 (Same.refl _)
        rw [pick_at hx] at this
        generalize bs[i] = bo at *
        walk_at "rd"
        rcases tx with ⟨q', l, rfl, hq, rfl⟩ | ⟨hn, rfl⟩
        · exact .inl ⟨q', pw, ps, l, ws, watches, rfl, hq, hw.keep s1, hs.keep s1, this⟩
        · exact .inr ⟨x, pw, ps, ws, watches, rfl, hn, hw.keep s1, hs.keep s1, this⟩
      · refine ⟨D, bs, rfl, .of (eD.trans (by rw [bl, range_map])), ?_⟩
        exact q H1 s1
    · walk_at "rt"
      refine isi (r := false) ht (kit_no k n (.inr (.inl rfl))) ?_
      walk_at "rt"
      exact q
def spUnlike (K : PySem.W.Frag) : Sp := fun vs H Q _ => ∃ (p : Addr) (xs : List Str), vs = [.ref p] ∧ H p = some (.lst (xs.map V.str)) ∧ xs.length ≤ 1000 ∧ Q (.bl (decide xs.Nodup)) H
theorem ok_unlike (T : Top K mg) : FnOk P w K mg base CX0 1 T.f_unlike T.d_unlike ["things"] (spUnlike K) := by
  refine T.F_unlike.ok sc_unlike (fun vs H Q E h => ?_) (fun cdv A outer s H vs Q E hr h => ?_)
  · obtain ⟨p, xs, rfl, _⟩ := h; rfl
  · obtain ⟨p, xs, rfl, hx, hl, q⟩ := h
    refine ⟨_, (pss_one (ps_ret (pe_cmpR op_eq (pe_lenSetN rfl (by rfl) T.m_len (by rfl) T.m_set (pv 0)) (pe_callB call_len_seq (by rfl) T.m_len (by decide +kernel) (pa_cons (pv 0) pa_nil)) (nomark _)))), ?_⟩
    walk_at "rt"
    refine ⟨_, rfl, p, xs, rfl, .of hx, by unfold scanBound; omega, fun c hc hd => ?_⟩
    walk_at "rt"
    refine ⟨_, .inl (.of hx), ?_⟩
    rw [List.length_map]
    rw [show decide ((c : Int) = (xs.length : Int)) = decide xs.Nodup from decide_eq_decide.mpr (by rw [← hd]; omega)]
    exact q
def spOwn : Sp := fun vs H Q _ => ∃ (p : Addr) (xs : List V), vs = [.ref p] ∧ H p = some (.lst xs) ∧ ∀ q H', Same H H' → H q = none → H' q = some (.lst xs) → Q (.ref q) H'
theorem ok_own (T : Top K mg) : FnOk P w K mg base CX0 1 T.f_own T.d_own ["thing"] spOwn := by
  refine T.F_own.ok sc_own (fun vs H Q E h => ?_) (fun cdv A outer s H vs Q E hr h => ?_)
  · obtain ⟨p, xs, rfl, _⟩ := h; rfl
  · obtain ⟨p, xs, rfl, hx, q⟩ := h
    refine ⟨_, (pss_cons (ps_if (pt_val (pe_callB (call_isiA (K := K) rfl) (by rfl) T.m_isinstance (by decide +kernel) (pa_cons (pv 0) (pa_cons (pe_bltn (v := .ty "list") (u := .type "list") (by rfl) T.m_list (by decide +kernel) rfl) pa_nil)))) (pss_one (ps_ret (pe_callTy (call_listA (K := K) rfl) (by rfl) T.m_list (by decide +kernel) (pa_cons (pv 0) pa_nil)))) pss_nil)
      (pss_one (ps_ret (pv 0)))), ?_⟩
    refine seq_step ?_
    walk_at "rt"
    refine isi (r := true) (.base (.lst hx)) (by decide +kernel) ?_
    walk_at "rt"
    exact ⟨xs, .inl (.of hx), fun r H' s f e => q r H' s f e⟩
def spDoorInit (C : Addr) : Sp := fun vs H Q _ => ∃ (p dx g n : Addr) (st en sg : Str) (gl nl : List V), vs = [.ref p, .str st, .str en, .ref g, .ref n, .str sg] ∧ H p = some (.ins C dx []) ∧ H g = some (.lst gl) ∧ H n = some (.lst nl) ∧
  ∀ g' n' H', (∀ b o, H b = some o → b ≠ p → H' b = some o) → H g' = none → H n' = none → H' p = some (.ins C dx (doorF st en sg g' n')) → H' g' = some (.lst gl) → H' n' = some (.lst nl) → Q .non H'
theorem ok_Door_init (T : Top K mg) : FnOk P w K mg base CX0 2 T.f_Door_init T.d_Door_init ["self", "start", "end", "guard", "noughts", "sign"] (spDoorInit T.C_Door) := by
  refine T.F_Door_init.ok sc_Door_init (fun vs H Q E h => ?_) (fun cdv A outer s H vs Q E hr h => ?_)
  · obtain ⟨p, dx, g, n, st, en, sg, gl, nl, rfl, _⟩ := h; rfl
  · obtain ⟨p, dx, g, n, st, en, sg, gl, nl, rfl, hp, hg, hn, q⟩ := h
    refine ⟨_, (pss_cons (ps_fld (pv 0) (pv 1) rfl)
      (pss_cons (ps_fld (pv 0) (pv 2) rfl)
      (pss_cons (ps_fld (pv 0) (pv 5) rfl)
      (pss_cons (ps_fld (pv 0) (pe_call (ok_own T) (hr.mono (by decide)) rfl T.g_own T.F_own.kp T.b_own .nil pass0 (pa_cons (pv 3) pa_nil)) rfl)
      (pss_one (ps_fld (pv 0) (pe_call (ok_own T) (hr.mono (by decide)) rfl T.g_own T.F_own.kp T.b_own .nil pass0 (pa_cons (pv 4) pa_nil)) rfl)))))), ?_⟩
    have pg : g ≠ p := ne_of hg hp (by intro z; cases z)
    have pn : n ≠ p := ne_of hn hp (by intro z; cases z)
    refine seq_step ?_
    refine ⟨_, rfl, _, rfl, p, _, dx, _, rfl, hp, T.cl_Door, T.n_Door_start, (by show 0 < 1000; decide), ?_⟩
    refine seq_step ?_
    refine ⟨_, rfl, _, rfl, p, _, dx, _, rfl, upd_same, T.cl_Door, T.n_Door_end, (by show 1 < 1000; decide), ?_⟩
    refine seq_step ?_
    refine ⟨_, rfl, _, rfl, p, _, dx, _, rfl, upd_same, T.cl_Door, T.n_Door_sign, (by show 2 < 1000; decide), ?_⟩
    refine seq_step ?_
    rw [upd_upd, upd_upd]
    refine ⟨_, rfl, g, gl, rfl, (by rw [upd_ne pg]; exact hg), fun g' H2 s2 f2 e2 => ?_⟩
    have p2 : g' ≠ p := fun z => by rw [z, upd_same] at f2; cases f2
    refine ⟨_, rfl, p, _, dx, _, rfl, s2 _ _ upd_same, T.cl_Door, T.n_Door_looks, (by show 3 < 1000; decide), ?_⟩
    have hn2 : H2 n = some (.lst nl) := s2 _ _ (by rw [upd_ne pn]; exact hn)
    refine ⟨_, rfl, n, nl, rfl, (by rw [upd_ne pn]; exact hn2), fun n' H3 s3 f3 e3 => ?_⟩
    have p3 : n' ≠ p := fun z => by rw [z, upd_same] at f3; cases f3
    refine ⟨_, rfl, p, _, dx, _, rfl, s3 _ _ upd_same, T.cl_Door, T.n_Door_backs, (by show 4 < 1000; decide), ?_⟩
    rw [upd_ne p2] at f2
    rw [upd_ne p3] at f3
    have k02 : ∀ b o, H b = some o → b ≠ p → H2 b = some o := fun b o e z => s2 _ _ (by rw [upd_ne z]; exact e)
    refine q g' n' _ (fun b o e z => ?_) f2 ?_ upd_same ?_ ?_
    · rw [upd_ne z]
      exact s3 _ _ (by rw [upd_ne z]; exact k02 b o e z)
    · cases e : H n' with
      | none => rfl
      | some o => rw [k02 _ _ e p3] at f3; cases f3
    · rw [upd_ne p2]
      exact s3 _ _ (by rw [upd_ne p2]; exact e2)
    · rw [upd_ne p3]; exact e3
def spAsks (C : Addr) : Sp := fun vs H Q _ => ∃ (p : Addr) (d : DoorD), vs = [.ref p] ∧ DoorAt C H p d ∧ ∀ q H', Same H H' → H q = none → LsAt H' q d.looks → Q (.ref q) H'
theorem ok_Door_asks (T : Top K mg) : FnOk P w K mg base CX0 2 T.f_Door_asks T.d_Door_asks ["self"] (spAsks T.C_Door) := by
  refine T.F_Door_asks.ok sc_Door_asks (fun vs H Q E h => ?_) (fun cdv A outer s H vs Q E hr h => ?_)
  · obtain ⟨p, d, rfl, _⟩ := h; rfl
  · obtain ⟨p, d, rfl, ⟨dx, g, n, h1, ⟨qs, a, b, c⟩, h3⟩, q⟩ := h
    refine ⟨_, (pss_one (ps_ret (pe_call (ok_own T) (hr.mono (by decide)) rfl T.g_own T.F_own.kp T.b_own .nil pass0 (pa_cons (pe_fldA (K := K) rfl (pv 0) rfl) pa_nil)))), ?_⟩
    refine ⟨_, rfl, p, _, dx, _, _, rfl, h1, T.cl_Door, T.n_Door_looks, door_looks, g, _, rfl, a, fun r H' s' f e => q r H' s' f ⟨qs, e, b, fun i q x h1 h2 => (c i q x h1 h2).keep s'⟩⟩
def spSets (C : Addr) : Sp := fun vs H Q _ => ∃ (p : Addr) (d : DoorD), vs = [.ref p] ∧ DoorAt C H p d ∧ ∀ q H', Same H H' → H q = none → H' q = some (.lst (d.backs.map V.str)) → Q (.ref q) H'
theorem ok_Door_sets (T : Top K mg) : FnOk P w K mg base CX0 2 T.f_Door_sets T.d_Door_sets ["self"] (spSets T.C_Door) := by
  refine T.F_Door_sets.ok sc_Door_sets (fun vs H Q E h => ?_) (fun cdv A outer s H vs Q E hr h => ?_)
  · obtain ⟨p, d, rfl, _⟩ := h; rfl
  · obtain ⟨p, d, rfl, ⟨dx, g, n, h1, h2, h3⟩, q⟩ := h
    refine ⟨_, (pss_one (ps_ret (pe_call (ok_own T) (hr.mono (by decide)) rfl T.g_own T.F_own.kp T.b_own .nil pass0 (pa_cons (pe_fldA (K := K) rfl (pv 0) rfl) pa_nil)))), ?_⟩
    exact ⟨_, rfl, p, _, dx, _, _, rfl, h1, T.cl_Door, T.n_Door_backs, door_backs, n, _, rfl, h3, fun r H' s' f e => q r H' s' f e⟩
/-- texts that are lists: what the comprehension's list holds -/
theorem names_dp {H : Hp} {p : Addr} {xs : List Str} (h : H p = some (.lst (xs.map V.str))) : Dp K H (.ref p) (.list (xs.map PyData.str)) :=
  .lst (.of h) (dpall_of (by simp) fun k v d h1 h2 => by
    rw [List.getElem?_map] at h1 h2
    obtain ⟨x, hx, rfl⟩ := Option.map_eq_some_iff.mp h1
    rw [hx] at h2; cases h2
    exact .str x)
def areW (xs : List Str) : Bool := decide (xs.length ≤ 7) && (xs.all okWatch && decide xs.Nodup)
def spAreW : Sp := fun vs H Q _ => ∃ (p : Addr) (xs : List Str), vs = [.ref p] ∧ H p = some (.lst (xs.map V.str)) ∧ xs.length ≤ 60 ∧ (∀ x ∈ xs, x.length ≤ 1000) ∧ ∀ H', Same H H' → Q (.bl (areW xs)) H'
theorem ok_are_watches (T : Top K mg) : FnOk P w K mg base CX0 4 T.f_are_watches T.d_are_watches ["thing"] spAreW := by
  refine T.F_are_watches.ok sc_are_watches (fun vs H Q E h => ?_) (fun cdv A outer s H vs Q E hr h => ?_)
  · obtain ⟨p, xs, rfl, _⟩ := h; rfl
  · obtain ⟨p, xs, rfl, hx, h7, hl, q⟩ := h
    refine ⟨_, (pss_cons (ps_if (PW.pt (pw_or (pt_not (pt_val (pe_callB (call_isiA (K := K) rfl) (by rfl) T.m_isinstance (by decide +kernel) (pa_cons (pv 0) (pa_cons (pe_bltn (v := .ty "list") (u := .type "list") (by rfl) T.m_list (by decide +kernel) rfl) pa_nil))))) (pw_or1 (pt_cmpR op_gt (pe_callB call_len_seq (by rfl) T.m_len (by decide +kernel) (pa_cons (pv 0) pa_nil)) (pe_glob (v := .int 7) rfl T.g_MOST_WATCHES ⟨_, rfl⟩) (nomark _))))) (pss_one (ps_ret pe_bl)) pss_nil)
      (pss_one (ps_ret (pe_and (pe_callB (cr_all rfl) (by rfl) T.m_all (by decide +kernel) (pa_cons (lc_vs (vs := [1]) (pe_lc (own := [("watch", 1)]) (g := gName 1) (tt := tYes) rfl sc_are_watches.nd (pi_listA (K := K) rfl (pv 0)) (blkOk_by (own := [("watch", 1)]) (N := ["thing", "watch"]) (sc := defScope s_are_watches) (by decide +kernel)) (fun _ _ _ _ _ => (pg_name (i := 1) sc_are_watches.nd rfl (.inl rfl))) (fun _ _ _ _ _ => pts_nil) (fun _ _ _ _ _ => (pe_call (ok_is_watch_name T) (hr.mono (by decide)) rfl T.g_is_watch_name T.F_is_watch_name.kp T.b_is_watch_name .nil pass0 (pa_cons (pv 1) pa_nil)))) rfl) pa_nil)) (pe_one (pe_call (ok_unlike T) (hr.mono (by decide)) rfl T.g_unlike T.F_unlike.kp T.b_unlike .nil pass0 (pa_cons (pv 0) pa_nil))))))), ?_⟩
    refine seq_step ?_
    walk_at "rt"
    refine isi (r := true) (.base (.lst hx)) (by decide +kernel) ?_
    walk_at "rt"
    refine ⟨_, .inl (.of hx), ?_⟩
    rw [List.length_map]
    unfold areW at q
    refine ite_d (fun c => ?_) (fun c => ?_)
    · walk_at "rd"
      rw [show decide (xs.length ≤ 7) = false from decide_eq_false (by omega)] at q
      exact q H (Same.refl _)
    rw [show decide (xs.length ≤ 7) = true from decide_eq_true (by omega), Bool.true_and] at q
    refine lc_src ?_
    walk_at "rd"
    refine ⟨⟨_, .of hx⟩, ?_⟩
    refine lcL_vals (xs := xs.map V.str) (f := pick xs (fun x => .bl (okWatch x)) (V.bl false)) hx (by simp; omega) (by simp) (fun i x H1 Q1 hi s1 h => ?_) (fun D H1 s1 _ eD => ?_)
    · rw [List.getElem?_map] at hi
      obtain ⟨y, h1, rfl⟩ := Option.map_eq_some_iff.mp hi
      walk_at "rd"
      refine ⟨y, rfl, hl y (List.mem_of_getElem? h1), ?_⟩
      have := h H1 (Same.refl _)
      rw [pick_at h1] at this
      exact this
    · refine ⟨D, xs.map okWatch, rfl, .of (eD.trans (by rw [List.length_map, range_map, List.map_map]; rfl)), ?_⟩
      have q1 := q H1 s1
      rw [show (xs.map okWatch).all id = xs.all okWatch by rw [List.all_map]; rfl]
      generalize xs.all okWatch = r at q1 ⊢
      cases r with
      | false => walk_at "rd"; exact q1
      | true =>
        walk_at "rd"
        exact ⟨p, xs, rfl, s1 _ _ hx, by omega, q1⟩
def spRoom (K : PySem.W.Frag) : Sp := fun vs H Q _ => ∃ (p ps : Addr) (r : Rq) (watches : List Str), vs = [.ref p, .ref ps] ∧ RqAt H p r ∧ TxS K H ps watches ∧ r.1.length ≤ 1000 ∧ r.2.length ≤ 60 ∧ ∀ H', Same H H' → Q (.bl (roomOk watches r)) H'
theorem ok_is_room (T : Top K mg) : FnOk P w K mg base CX0 4 T.f_is_room T.d_is_room ["thing", "watches"] (spRoom K) := by
  refine T.F_is_room.ok sc_is_room (fun vs H Q E h => ?_) (fun cdv A outer s H vs Q E hr h => ?_)
  · obtain ⟨p, ps, r, watches, rfl, _⟩ := h; rfl
  · obtain ⟨p, ps, ⟨n, ls⟩, watches, rfl, ⟨g, e, hg⟩, hs, hn, h60, q⟩ := h
    refine ⟨_, (pss_cons (ps_if (PW.pt (pw_or (pt_not (pt_val (pe_callB (call_isiA (K := K) rfl) (by rfl) T.m_isinstance (by decide +kernel) (pa_cons (pv 0) (pa_cons (pe_bltn (v := .ty "tuple") (u := .type "tuple") (by rfl) T.m_tuple (by decide +kernel) rfl) pa_nil))))) (pw_or1 (pt_cmpR op_ne (pe_callB call_len_seq (by rfl) T.m_len (by decide +kernel) (pa_cons (pv 0) pa_nil)) pe_int (nomark _))))) (pss_one (ps_ret pe_bl)) pss_nil)
      (pss_one (ps_ret (pe_and (pe_call (ok_of_signs T) (hr.mono (by decide)) rfl T.g_of_signs T.F_of_signs.kp T.b_of_signs .nil pass0 (pa_cons (pe_ix (ix_tupA (K := K) rfl) (pv 0) pe_int (fun _ _ => rfl)) (pa_cons (pe_op op_add_str (pe_glob (v := .str "abcdefghijklmnopqrstuvwxyz") rfl T.g_LETTERS ⟨_, rfl⟩) pe_str) (pa_cons pe_int pa_nil)))) (pe_one (pe_call (ok_is_guard T) (hr.mono (by decide)) rfl T.g_is_guard T.F_is_guard.kp T.b_is_guard .nil pass0 (pa_cons (pe_ix (ix_tupA (K := K) rfl) (pv 0) pe_int (fun _ _ => rfl)) (pa_cons (pe_glob (v := .ref T.t_BELOW) rfl T.g_BELOW rfl) (pa_cons (pv 1) pa_nil))))))))), ?_⟩
    refine seq_step ?_
    walk_at "rt"
    refine isi (r := true) (.base (.tup e)) (by decide +kernel) ?_
    walk_at "rt"
    refine ⟨_, .inr (sqt e), ?_⟩
    walk_at "rt"
    refine ix_t (sqt e) (by decide) rfl ?_
    walk_at "rt"
    refine ⟨by rw [sz_line (by decide)]; trivial, ?_⟩
    refine ⟨n, _, 60, rfl, hn, ?_⟩
    unfold roomOk at q
    by_cases c : okT n (letters ++ ("/" : Str)) 60 = true
    · rw [show okT (n, ls).1 (letters ++ ("/" : Str)) 60 = true from c] at q
      rw [show okT n (Str.ofString "abcdefghijklmnopqrstuvwxyz" ++ Str.ofString "/") 60 = true from c]
      walk_at "rt"
      refine ix_t (sqt e) (by decide) rfl ?_
      exact .inl ⟨g, T.t_BELOW, _, ls, ["<", "<="], watches, rfl, hg, .inr (T.q_BELOW _), hs, h60, fun H' s' => q H' s'⟩
    · have c : okT n (letters ++ ("/" : Str)) 60 = false := by simpa using c
      rw [show okT (n, ls).1 (letters ++ ("/" : Str)) 60 = false from c] at q
      rw [show okT n (Str.ofString "abcdefghijklmnopqrstuvwxyz" ++ Str.ofString "/") 60 = false from c]
      walk_at "rt"
      exact q H (Same.refl _)
def spRooms (K : PySem.W.Frag) : Sp := fun vs H Q _ => ∃ (p ps : Addr) (rs : List Rq) (watches : List Str), vs = [.ref p, .ref ps] ∧ RsAt H p rs ∧ TxS K H ps watches ∧ (∀ r ∈ rs, r.1.length ≤ 1000 ∧ r.2.length ≤ 60 ∧ RqOk r) ∧ rs ≠ [] ∧ rs.length ≤ 200 ∧ ∀ H', Same H H' → Q (.bl (rs.all (roomOk watches) && decide (rs.map (·.1)).Nodup)) H'
theorem ok_are_rooms (T : Top K mg) : FnOk P w K mg base CX0 5 T.f_are_rooms T.d_are_rooms ["thing", "watches"] (spRooms K) := by
  refine T.F_are_rooms.ok sc_are_rooms (fun vs H Q E h => ?_) (fun cdv A outer s H vs Q E hr h => ?_)
  · obtain ⟨p, ps, rs, watches, rfl, _⟩ := h; rfl
  · obtain ⟨p, ps, rs, watches, rfl, hrs, hs, hok, hne, h200, q⟩ := h
    refine ⟨_, (pss_cons (ps_if (PW.pt (pw_or (pt_not (pt_val (pe_callB (call_isiA (K := K) rfl) (by rfl) T.m_isinstance (by decide +kernel) (pa_cons (pv 0) (pa_cons (pe_bltn (v := .ty "list") (u := .type "list") (by rfl) T.m_list (by decide +kernel) rfl) pa_nil))))) (pw_or1 (pt_cmpR (op_eqD hr.units) (pv 0) (pe_lstN pa_nil) (nomark _))))) (pss_one (ps_ret pe_bl)) pss_nil)
      (pss_one (ps_ret (pe_and (pe_callB (cr_all rfl) (by rfl) T.m_all (by decide +kernel) (pa_cons (lc_vs (vs := [2]) (pe_lc (own := [("room", 2)]) (g := gName 2) (tt := tYes) rfl sc_are_rooms.nd (pi_listA (K := K) rfl (pv 0)) (blkOk_by (own := [("room", 2)]) (N := ["thing", "watches", "room"]) (sc := defScope s_are_rooms) (by decide +kernel)) (fun _ _ _ _ _ => (pg_name (i := 2) sc_are_rooms.nd rfl (.inl rfl))) (fun _ _ _ _ _ => pts_nil) (fun _ _ _ _ _ => (pe_call (ok_is_room T) (hr.mono (by decide)) rfl T.g_is_room T.F_is_room.kp T.b_is_room .nil pass0 (pa_cons (pv 2) (pa_cons (pv 1) pa_nil))))) rfl) pa_nil)) (pe_one (pe_call (ok_unlike T) (hr.mono (by decide)) rfl T.g_unlike T.F_unlike.kp T.b_unlike .nil pass0 (pa_cons (lc_vs (vs := [2]) (pe_lc (own := [("room", 2)]) (g := gName 2) (tt := tYes) rfl sc_are_rooms.nd (pi_listA (K := K) rfl (pv 0)) (blkOk_by (own := [("room", 2)]) (N := ["thing", "watches", "room"]) (sc := defScope s_are_rooms) (by decide +kernel)) (fun _ _ _ _ _ => (pg_name (i := 2) sc_are_rooms.nd rfl (.inl rfl))) (fun _ _ _ _ _ => pts_nil) (fun _ _ _ _ _ => (pe_ix (ix_tupA (K := K) rfl) (pv 2) pe_int (fun _ _ => rfl)))) rfl) pa_nil))))))), ?_⟩
    obtain ⟨qs, a, b, c⟩ := id hrs
    refine seq_step ?_
    walk_at "rt"
    refine isi (r := true) (.base (.lst a)) (by decide +kernel) ?_
    walk_at "rt"
    intro p1 H1 s1 _ e1
    refine ⟨_, _, dp_rs (hrs.keep s1), .lst (.of e1) .nil, shaped_rs fun r h => (hok r h).2.2, rfl, ?_⟩
    have ne : PyData.eqv (.list (rs.map rdat)) (.list []) = false := by
      cases rs with
      | nil => exact absurd rfl hne
      | cons r rs => rfl
    rw [ne]
    walk_at "rt"
    refine lc_src ?_
    walk_at "rd"
    refine ⟨⟨_, .of (s1 _ _ a)⟩, ?_⟩
    refine lcL_vals (xs := qs.map V.ref) (f := pick rs (fun r => .bl (roomOk watches r)) (V.bl false)) (s1 _ _ a) (by simp; omega) (by simp) (fun i x H2 Q1 hi s2 h => ?_) (fun D H2 s2 _ eD => ?_)
    · rw [List.getElem?_map] at hi
      obtain ⟨qi, h1, rfl⟩ := Option.map_eq_some_iff.mp hi
      have hil := (List.getElem?_eq_some_iff.mp h1).1
      have hx := List.getElem?_eq_getElem (l := rs) (i := i) (by omega)
      have hk := hok _ (List.mem_of_getElem? hx)
      walk_at "rd"
      refine ⟨qi, ps, rs[i], watches, rfl, (c i qi _ h1 hx).keep (s1.trans s2), hs.keep (s1.trans s2), hk.1, hk.2.1, fun H3 s3 => ?_⟩
      have := h H3 s3
      rw [pick_at hx] at this
      exact this
    · refine ⟨D, rs.map (roomOk watches), rfl, .of (eD.trans (by rw [List.length_map, b, range_map, List.map_map]; rfl)), ?_⟩
      rw [show (rs.map (roomOk watches)).all id = rs.all (roomOk watches) by rw [List.all_map]; rfl]
      generalize rs.all (roomOk watches) = r at q ⊢
      cases r with
      | false => walk_at "rd"; exact q _ (s1.trans s2)
      | true =>
        walk_at "rd"
        refine lc_src ?_
        walk_at "rd"
        have s12 := s1.trans s2
        refine ⟨⟨_, .of (s12 _ _ a)⟩, ?_⟩
        refine lcL_vals (xs := qs.map V.ref) (f := pick rs (fun r => .str r.1) V.non) (s12 _ _ a) (by simp; omega) (by simp) (fun i x H3 Q1 hi s3 h => ?_) (fun D2 H3 s3 _ eD2 => ?_)
        · rw [List.getElem?_map] at hi
          obtain ⟨qi, h1, rfl⟩ := Option.map_eq_some_iff.mp hi
          have hil := (List.getElem?_eq_some_iff.mp h1).1
          have hx := List.getElem?_eq_getElem (l := rs) (i := i) (by omega)
          obtain ⟨g, e, _⟩ := (c i qi _ h1 hx).keep (s12.trans s3)
          walk_at "rd"
          refine ix_t (sqt e) (by decide) rfl ?_
          have := h H3 (Same.refl _)
          rw [pick_at hx] at this
          exact this
        · refine ⟨D2, rs.map (·.1), rfl, eD2.trans (by rw [List.length_map, b, range_map, List.map_map]; rfl), by simp; omega, by simpa using q _ (s12.trans s3)⟩
def spIsDoor (K : PySem.W.Frag) (C : Addr) : Sp := fun vs H Q _ => ∃ (p pw pn : Addr) (d : DoorD) (watches names : List Str), vs = [.ref p, .ref pw, .ref pn] ∧ DoorAt C H p d ∧ TxS K H pw watches ∧ TxS K H pn names ∧ d.sg.length ≤ 1000 ∧ d.looks.length ≤ 60 ∧ d.backs.length ≤ 900 ∧ ∀ H', Same H H' → Q (.bl (doorOk watches names d)) H'
theorem ok_is_door (T : Top K mg) : FnOk P w K mg base CX0 4 T.f_is_door T.d_is_door ["thing", "watches", "names"] (spIsDoor K T.C_Door) := by
  refine T.F_is_door.ok sc_is_door (fun vs H Q E h => ?_) (fun cdv A outer s H vs Q E hr h => ?_)
  · obtain ⟨p, pw, pn, d, watches, names, rfl, _⟩ := h; rfl
  · obtain ⟨p, pw, pn, d, watches, names, rfl, hd, hw, hn, hsg, h60, hb, q⟩ := h
    refine ⟨_, (pss_cons (ps_if (PW.pt (pw_or (pt_not (pt_val (pe_callB (call_isiA (K := K) rfl) (by rfl) T.m_isinstance (by decide +kernel) (pa_cons (pv 0) (pa_cons (pe_glob (v := .ref T.C_Door) rfl T.g_Door rfl) pa_nil))))) (pw_or1 (pt_not (pt_val (pe_call (ok_is_sign T) (hr.mono (by decide)) rfl T.g_is_sign T.F_is_sign.kp T.b_is_sign .nil pass0 (pa_cons (pe_fldA (K := K) rfl (pv 0) rfl) pa_nil))))))) (pss_one (ps_ret pe_bl)) pss_nil)
      (pss_cons (ps_for PassesOwn.never rfl (pi_listA (K := K) rfl (pe_lstN (pa_cons (pe_fldA (K := K) rfl (pv 0) rfl) (pa_cons (pe_fldA (K := K) rfl (pv 0) rfl) pa_nil)))) (pg_name (i := 3) sc_is_door.nd rfl (.inl rfl)) (pss_one (ps_if (PW.pt (pw_or (pt_not (pt_val (pe_callB (call_isiA (K := K) rfl) (by rfl) T.m_isinstance (by decide +kernel) (pa_cons (pv 3) (pa_cons (pe_bltn (v := .ty "str") (u := .type "str") (by rfl) T.m_str (by decide +kernel) rfl) pa_nil))))) (pw_or1 (pt_cmpR (op_notIn_seqA (K := K) rfl) (pv 3) (pv 2) (by rfl))))) (pss_one (ps_ret pe_bl)) pss_nil)))
      (pss_cons (ps_set (i := 4) sc_is_door.nd rfl (.inl rfl) (pe_meth0 (pv 0) T.cl_Door T.m_Door_sets (ok_Door_sets T) (hr.mono (by decide)) T.b_Door_sets .nil pass0))
      (pss_cons (ps_if (PW.pt (pw_or (pt_not (pt_val (pe_call (ok_is_guard T) (hr.mono (by decide)) rfl T.g_is_guard T.F_is_guard.kp T.b_is_guard .nil pass0 (pa_cons (pe_meth0 (pv 0) T.cl_Door T.m_Door_asks (ok_Door_asks T) (hr.mono (by decide)) T.b_Door_asks .nil pass0) (pa_cons (pe_glob (v := .ref T.t_WORDS) rfl T.g_WORDS rfl) (pa_cons (pv 1) pa_nil)))))) (pw_or1 (pt_not (pt_val (pe_callB (call_isiA (K := K) rfl) (by rfl) T.m_isinstance (by decide +kernel) (pa_cons (pv 4) (pa_cons (pe_bltn (v := .ty "list") (u := .type "list") (by rfl) T.m_list (by decide +kernel) rfl) pa_nil)))))))) (pss_one (ps_ret pe_bl)) pss_nil)
      (pss_one (ps_ret (pe_and (pe_callB (cr_all rfl) (by rfl) T.m_all (by decide +kernel) (pa_cons (lc_vs (vs := [5]) (pe_lc (own := [("watch", 5)]) (g := gName 5) (tt := tYes) rfl sc_is_door.nd (pi_listA (K := K) rfl (pv 4)) (blkOk_by (own := [("watch", 5)]) (N := ["thing", "watches", "names", "name", "noughts", "watch"]) (sc := defScope s_is_door) (by decide +kernel)) (fun _ _ _ _ _ => (pg_name (i := 5) sc_is_door.nd rfl (.inl rfl))) (fun _ _ _ _ _ => pts_nil) (fun _ _ _ _ _ => (pe_and (pe_callB (call_isiA (K := K) rfl) (by rfl) T.m_isinstance (by decide +kernel) (pa_cons (pv 5) (pa_cons (pe_bltn (v := .ty "str") (u := .type "str") (by rfl) T.m_str (by decide +kernel) rfl) pa_nil))) (pe_one (pe_cmpR (op_in_seqA (K := K) rfl) (pv 5) (pv 1) (by rfl)))))) rfl) pa_nil)) (pe_one (pe_call (ok_unlike T) (hr.mono (by decide)) rfl T.g_unlike T.F_unlike.kp T.b_unlike .nil pass0 (pa_cons (pv 4) pa_nil)))))))))), ?_⟩
    obtain ⟨dx, g, n, e, e2, e3⟩ := id hd
    unfold doorOk at q
    refine seq_step ?_
    walk_at "rt"
    refine is_own e T.cl_Door T.ty_Door ?_
    walk_at "rt"
    refine ⟨_, rfl, p, _, dx, _, _, rfl, e, T.cl_Door, T.n_Door_sign, door_sign, ?_⟩
    refine ⟨_, rfl, hsg, ?_⟩
    by_cases c1 : okSign d.sg = true
    · rw [c1] at q ⊢
      walk_at "rt"
      refine seq_step ?_
      refine for_li ?_
      walk_at "rt"
      refine ⟨_, rfl, p, _, dx, _, _, rfl, e, T.cl_Door, T.n_Door_start, door_start, _, rfl, p, _, dx, _, _, rfl, e, T.cl_Door, T.n_Door_end, door_end, ?_⟩
      intro pl H1 s1 f1 e1
      refine forL_by (xs := [.str d.st, .str d.en]) (fun i σ' H' => (∃ v3 v4 v5, σ' = [some (.ref p), some (.ref pw), some (.ref pn), v3, v4, v5]) ∧ H' = H1 ∧ (0 < i → d.st ∈ names) ∧ (1 < i → d.en ∈ names)) ⟨⟨_, _, _, rfl⟩, rfl, (fun h => absurd h (by omega)), (fun h => absurd h (by omega))⟩ (fun i σ H' _ ⟨_, h, _⟩ => by subst h; exact .of e1) ?_ ?_
      · rintro i x σ' H' hi ⟨⟨v3, v4, v5, rfl⟩, rfl, m1, m2⟩
        have key : ∃ nmx : Str, x = .str nmx ∧ (i = 0 ∧ nmx = d.st ∨ i = 1 ∧ nmx = d.en) := by
          cases i with
          | zero => exact ⟨d.st, by simpa using hi.symm, .inl ⟨rfl, rfl⟩⟩
          | succ i => cases i with
            | zero => exact ⟨d.en, by simpa using hi.symm, .inr ⟨rfl, rfl⟩⟩
            | succ i => simp at hi
        obtain ⟨nmx, rfl, hx⟩ := key
        walk_at "rt"
        refine isi (r := true) (.base (.str _)) (by decide +kernel) ?_
        walk_at "rt"
        refine ⟨pn, _, rfl, hn.keep s1, rfl, flat_of, ?_⟩
        rw [inV_str]
        by_cases m : nmx ∈ names
        · rw [decide_eq_true m]
          walk_at "rt"
          refine ⟨⟨_, rfl⟩, fun _ => ?_, fun h => ?_⟩
          · rcases hx with ⟨_, rfl⟩ | ⟨rfl, _⟩
            · exact m
            · exact m1 (by omega)
          · rcases hx with ⟨rfl, _⟩ | ⟨_, rfl⟩
            · omega
            · exact m
        · rw [decide_eq_false m]
          walk_at "rt"
          have q1 := q _ s1
          rcases hx with ⟨_, rfl⟩ | ⟨_, rfl⟩
          · rw [decide_eq_false m] at q1; simpa only [Bool.true_and, Bool.false_and] using q1
          · rw [decide_eq_false m] at q1; simpa only [Bool.true_and, Bool.false_and, Bool.and_false] using q1
      · rintro σ' H' ⟨⟨v3, v4, v5, rfl⟩, rfl, m1, m2⟩
        have m1 := m1 (by show 0 < 2; decide)
        have m2 := m2 (by show 1 < 2; decide)
        rw [decide_eq_true m1, decide_eq_true m2] at q
        walk_at "rd"
        refine seq_step ?_
        refine ⟨_, rfl, p, dx, _, rfl, s1 _ _ e, door_no (by decide +kernel) (by decide +kernel) (by decide +kernel) (by decide +kernel) (by decide +kernel), p, d, rfl, hd.keep s1, fun nb H2 s2 f2 e2n => ?_⟩
        walk_at "rd"
        refine seq_step ?_
        have s02 := s1.trans s2
        walk_at "rt"
        refine ⟨_, rfl, p, dx, _, rfl, s02 _ _ e, door_no (by decide +kernel) (by decide +kernel) (by decide +kernel) (by decide +kernel) (by decide +kernel), p, d, rfl, hd.keep s02, fun lg H3 s3 f3 e3g => ?_⟩
        have s03 := s02.trans s3
        walk_at "rt"
        refine .inl ⟨lg, T.t_WORDS, pw, d.looks, ["<", "<=", ">", ">=", "="], watches, rfl, e3g, .inr (T.q_WORDS _), hw.keep s03, h60, fun H4 s4 => ?_⟩
        have s04 := s03.trans s4
        have hnb := (s3.trans s4) _ _ e2n
        by_cases c2 : guardOk ["<", "<=", ">", ">=", "="] watches d.looks = true
        · rw [c2] at q ⊢
          walk_at "rt"
          refine isi (r := true) (.base (.lst hnb)) (by decide +kernel) ?_
          walk_at "rt"
          refine lc_src ?_
          walk_at "rd"
          refine ⟨⟨_, .of hnb⟩, ?_⟩
          refine lcL_vals (xs := d.backs.map V.str) (f := pick d.backs (fun b => .bl (decide (b ∈ watches))) (V.bl false)) hnb (by simp; omega) (by simp) (fun i x H5 Q1 hi s5 h => ?_) (fun D H5 s5 _ eD => ?_)
          · rw [List.getElem?_map] at hi
            obtain ⟨y, h1, rfl⟩ := Option.map_eq_some_iff.mp hi
            walk_at "rt"
            refine isi (r := true) (.base (.str _)) (by decide +kernel) ?_
            walk_at "rt"
            refine ⟨pw, _, rfl, (hw.keep (s04.trans s5)), rfl, flat_of, ?_⟩
            rw [inV_str]
            have := h _ (Same.refl _)
            rw [pick_at h1] at this
            exact this
          · refine ⟨D, d.backs.map (fun b => decide (b ∈ watches)), rfl, .of (eD.trans (by rw [List.length_map, range_map, List.map_map]; rfl)), ?_⟩
            have q1 := q _ (s04.trans s5)
            rw [show (d.backs.map (fun b => decide (b ∈ watches))).all id = d.backs.all (fun b => decide (b ∈ watches)) by rw [List.all_map]; rfl]
            generalize d.backs.all (fun b => decide (b ∈ watches)) = r at q1 ⊢
            cases r with
            | false => walk_at "rd"; simpa only [Bool.true_and, Bool.false_and, Bool.and_false] using q1
            | true =>
              walk_at "rd"
              exact ⟨nb, d.backs, rfl, s5 _ _ hnb, by omega, by simpa only [Bool.true_and] using q1⟩
        · have c2 : guardOk ["<", "<=", ">", ">=", "="] watches d.looks = false := by simpa using c2
          rw [c2] at q ⊢
          walk_at "rt"
          simpa only [Bool.true_and, Bool.false_and, Bool.and_false] using q _ s04
    · have c1 : okSign d.sg = false := by simpa using c1
      rw [c1] at q ⊢
      walk_at "rt"
      exact q _ (Same.refl _)
def spMachInit0 (K : PySem.W.Frag) (CM CD : Addr) : Sp := fun vs H Q _ => ∃ (p dx pw pr pd : Addr) (M : MachD), vs = [.ref p, .ref pw, .ref pr, .ref pd] ∧ H p = some (.ins CM dx []) ∧ H pw = some (.lst (M.watches.map V.str)) ∧ RsAt H pr M.rooms ∧ DsAt CD H pd M.doors ∧ MachOk M ∧
  ∀ H', OffN p H H' → MachAt CM CD H' p M → (∀ U : Addr → Prop, ListsU U H → (∀ q d, DoorAt CD H q d → d ∈ M.doors → (∃ (qs : List Addr) (i : Nat), H pd = some (.lst (qs.map V.ref)) ∧ qs[i]? = some q ∧ M.doors[i]? = some d) → DoorAt CD (remU U H) q d) → MachAt CM CD (remU U H') p M) → Q .non H'
def spMachInit (K : PySem.W.Frag) (CM CD CB : Addr) : Sp := fun vs H Q E => spMachInit0 K CM CD vs H Q E ∨
  ∃ (p dx pw : Addr) (x y : V) (W : List Str), vs = [.ref p, .ref pw, x, y] ∧ H p = some (.ins CM dx []) ∧ H pw = some (.lst (W.map V.str)) ∧ W.length ≤ 60 ∧ (∀ x ∈ W, x.length ≤ 1000) ∧ areW W = false ∧ ∀ H', Same H H' → E (.ref CB) none H'
theorem ok_Machine_init (T : Top K mg) : FnOk P w K mg base (L2.CX P w) 6 T.f_Machine_init T.d_Machine_init ["self", "watches", "rooms", "doors"] (spMachInit K T.C_Machine T.C_Door T.C_BadMachine) := by
  refine T.F_Machine_init.okX sc_Machine_init (fun vs H Q E h => ?_) (fun cdv A outer s H vs Q E hr h => ?_)
  · rcases h with ⟨p, dx, pw, pr, pd, M, rfl, _⟩ | ⟨p, dx, pw, x, y, W, rfl, _⟩ <;> rfl
  · refine ⟨_, (pss_cons (ps_if (PW.pt (pw_or (pt_not (pt_val (pe_call (ok_are_watches T) (hr.mono (by decide)) rfl T.g_are_watches T.F_are_watches.kp T.b_are_watches .nil pass0 (pa_cons (pv 1) pa_nil)))) (pw_or (pt_not (pt_val (pe_call (ok_are_rooms T) (hr.mono (by decide)) rfl T.g_are_rooms T.F_are_rooms.kp T.b_are_rooms .nil pass0 (pa_cons (pv 2) (pa_cons (pv 1) pa_nil))))) (pw_or1 (pt_not (pt_val (pe_callB (call_isiA (K := K) rfl) (by rfl) T.m_isinstance (by decide +kernel) (pa_cons (pv 3) (pa_cons (pe_bltn (v := .ty "list") (u := .type "list") (by rfl) T.m_list (by decide +kernel) rfl) pa_nil))))))))) (pss_one (ps_raise rfl (takes_of rfl rfl rfl rfl) (pmk_own PySem.F.excBase_ValueError T.x_BadMachine T.g_BadMachine T.k_BadMachine (raises_own T.b_BadMachine T.t_BadMachine) rfl))) pss_nil)
      (pss_cons (ps_set (i := 4) sc_Machine_init.nd rfl (.inr rfl) (lc_vs (vs := [5]) (pe_lc (own := [("room", 5)]) (g := gName 5) (tt := tYes) rfl sc_Machine_init.nd (pi_listA (K := K) rfl (pv 2)) (blkOk_by (own := [("room", 5)]) (N := ["self", "watches", "rooms", "doors", "names", "room", "door"]) (sc := defScope s_Machine_init) (by decide +kernel)) (fun _ _ _ _ _ => (pg_name (i := 5) sc_Machine_init.nd rfl (.inl rfl))) (fun _ _ _ _ _ => pts_nil) (fun _ _ _ _ _ => (pe_ix (ix_tupA (K := K) rfl) (pv 5) pe_int (fun _ _ => rfl)))) rfl))
      (pss_cons (ps_if (pt_not (pt_val (pe_callB (cr_all rfl) (by rfl) T.m_all (by decide +kernel) (pa_cons (lc_vs (vs := [6]) (pe_lc (own := [("door", 6)]) (g := gName 6) (tt := tYes) rfl sc_Machine_init.nd (pi_listA (K := K) rfl (pv 3)) (blkOk_by (own := [("door", 6)]) (N := ["self", "watches", "rooms", "doors", "names", "room", "door"]) (sc := defScope s_Machine_init) (by decide +kernel)) (fun _ _ _ _ _ => (pg_name (i := 6) sc_Machine_init.nd rfl (.inl rfl))) (fun _ _ _ _ _ => pts_nil) (fun _ _ _ _ _ => (pe_call (ok_is_door T) (hr.mono (by decide)) rfl T.g_is_door T.F_is_door.kp T.b_is_door .nil pass0 (pa_cons (pv 6) (pa_cons (pv 1) (pa_cons (pv 4) pa_nil)))))) rfl) pa_nil)))) (pss_one (ps_raise rfl (takes_of rfl rfl rfl rfl) (pmk_own PySem.F.excBase_ValueError T.x_BadMachine T.g_BadMachine T.k_BadMachine (raises_own T.b_BadMachine T.t_BadMachine) rfl))) pss_nil)
      (pss_cons (ps_if (PW.pt (pw_or (pt_cmpR op_gt (pe_callB call_len_seq (by rfl) T.m_len (by decide +kernel) (pa_cons (pv 2) pa_nil)) (pe_glob (v := .int 64) rfl T.g_MOST_ROOMS ⟨_, rfl⟩) (nomark _)) (pw_or1 (pt_cmpR op_gt (pe_callB call_len_seq (by rfl) T.m_len (by decide +kernel) (pa_cons (pv 3) pa_nil)) (pe_glob (v := .int 200) rfl T.g_MOST_DOORS ⟨_, rfl⟩) (nomark _))))) (pss_one (ps_raise rfl (takes_of rfl rfl rfl rfl) (pmk_own PySem.F.excBase_ValueError T.x_TooMany T.g_TooMany T.k_TooMany (raises_own T.b_TooMany T.t_TooMany) rfl))) pss_nil)
      (pss_cons (ps_fld (pv 0) (pe_callTy (call_listA (K := K) rfl) (by rfl) T.m_list (by decide +kernel) (pa_cons (pv 1) pa_nil)) rfl)
      (pss_cons (ps_fld (pv 0) (pv 4) rfl)
      (pss_cons (ps_fld (pv 0) (lc_vs (vs := [5]) (pe_lc (own := [("room", 5)]) (g := gName 5) (tt := tYes) rfl sc_Machine_init.nd (pi_listA (K := K) rfl (pv 2)) (blkOk_by (own := [("room", 5)]) (N := ["self", "watches", "rooms", "doors", "names", "room", "door"]) (sc := defScope s_Machine_init) (by decide +kernel)) (fun _ _ _ _ _ => (pg_name (i := 5) sc_Machine_init.nd rfl (.inl rfl))) (fun _ _ _ _ _ => pts_nil) (fun _ _ _ _ _ => (pe_callTy (call_listA (K := K) rfl) (by rfl) T.m_list (by decide +kernel) (pa_cons (pe_ix (ix_tupA (K := K) rfl) (pv 5) pe_int (fun _ _ => rfl)) pa_nil)))) rfl) rfl)
      (pss_one (ps_fld (pv 0) (pe_callTy (call_listA (K := K) rfl) (by rfl) T.m_list (by decide +kernel) (pa_cons (pv 3) pa_nil)) rfl))))))))), ?_⟩
    rcases h with ⟨p, dx, pw, pr, pd, M, rfl, hp, hw, hrs, hds, ok, q⟩ | ⟨p, dx, pw, x, y, W, rfl, hp, hw, w60, wl, wbad, q⟩
    rotate_left
    · refine seq_step ?_
      walk_at "rt"
      refine ⟨pw, W, rfl, hw, w60, wl, fun H1 s1 => ?_⟩
      rw [wbad]
      walk_at "rt"
      exact q H1 s1
    have r64 := ok.r64
    have d200 := ok.d200
    obtain ⟨dqs, d1, d2, d3⟩ := id hds
    obtain ⟨rqs, r1, r2, r3⟩ := id hrs
    refine seq_step ?_
    walk_at "rt"
    refine ⟨pw, M.watches, rfl, hw, Nat.le_trans ok.w7 (by decide), (fun x hx => by have := okWatch_len (ok.watch x hx); omega), fun H1 s1 => ?_⟩
    rw [show areW M.watches = true by unfold areW; rw [decide_eq_true ok.w7, ok.wok, decide_eq_true ok.wnd]; rfl]
    walk_at "rt"
    refine ⟨pr, pw, M.rooms, M.watches, rfl, hrs.keep s1, .inl (.of (s1 _ _ hw)), (fun r h => ok.room h), ok.rne, by omega, fun H2 s2 => ?_⟩
    rw [show (M.rooms.all (roomOk M.watches) && decide (M.rooms.map (·.1)).Nodup) = true by rw [ok.rok, decide_eq_true ok.rnd]; rfl]
    have s12 := s1.trans s2
    walk_at "rt"
    refine isi (r := true) (.base (.lst (s12 _ _ d1))) (by decide +kernel) ?_
    walk_at "rt"
    refine seq_step ?_
    walk_at "rd"
    refine lcg_src ?_
    walk_at "rd"
    refine ⟨⟨_, .of (s12 _ _ r1)⟩, ?_⟩
    refine lcF (F := fun r : Rq => V.str r.1) (zs := M.rooms) (s12 _ _ r1) (by simp [r2]) (by simp; omega) (fun i x z H3 Yes hx hz s3 hy => ?_) (fun nq H3 s3 f3 e3 => ?_)
    · rw [List.getElem?_map] at hx
      obtain ⟨qi, h1, rfl⟩ := Option.map_eq_some_iff.mp hx
      obtain ⟨g, e, _⟩ := (r3 i qi z h1 hz).keep (s12.trans s3)
      walk_at "rd"
      refine ix_t (sqt e) (by decide) rfl ?_
      exact hy _ (Same.refl _)
    · have s13 := s12.trans s3
      walk_at "rd"
      refine seq_step ?_
      walk_at "rd"
      refine lcg_src ?_
      walk_at "rd"
      refine ⟨⟨_, .of (s13 _ _ d1)⟩, ?_⟩
      refine lcF (F := fun d : DoorD => V.bl (doorOk M.watches (M.rooms.map (·.1)) d)) (zs := M.doors) (s13 _ _ d1) (by simp [d2]) (by simp; omega) (fun i x z H4 Yes hx hz s4 hy => ?_) (fun D H4 s4 f4 e4 => ?_)
      · rw [List.getElem?_map] at hx
        obtain ⟨qi, h1, rfl⟩ := Option.map_eq_some_iff.mp hx
        have s14 := s13.trans s4
        have dz := (d3 i qi z h1 hz).keep s14
        have oz := ok.door (List.mem_of_getElem? hz)
        have lz := okSign_len oz.1
        walk_at "rd"
        refine ⟨qi, pw, nq, z, M.watches, M.rooms.map (·.1), rfl, dz, .inl (.of (s14 _ _ hw)), .inl (.of (s4 _ _ (e3.trans (by rw [List.map_map]; rfl)))), by omega, ok.dsz z (List.mem_of_getElem? hz), by omega, fun H5 s5 => hy _ s5⟩
      · have s14 := s13.trans s4
        refine ⟨D, M.doors.map (doorOk M.watches (M.rooms.map (·.1))), rfl, .of (e4.trans (by rw [List.map_map]; rfl)), ?_⟩
        rw [show (M.doors.map (doorOk M.watches (M.rooms.map (·.1)))).all id = true by rw [List.all_map]; exact ok.dok]
        walk_at "rd"
        refine seq_step ?_
        walk_at "rd"
        refine ⟨_, .inl (.of (s14 _ _ r1)), ?_⟩
        refine if_f (decide_eq_false (by rw [List.length_map, r2]; omega)) ?_
        refine ⟨_, .inl (.of (s14 _ _ d1)), ?_⟩
        refine if_f (decide_eq_false (by rw [List.length_map, d2]; omega)) ?_
        have hp4 := s14 _ _ hp
        refine seq_step ?_
        refine ⟨_, rfl, pw, _, rfl, .inl (.of (s14 _ _ hw)), fun w1 H5 s5 f5 e5 => ?_⟩
        refine ⟨_, rfl, p, _, dx, _, rfl, s5 _ _ hp4, T.cl_Machine, T.n_Machine_watch_names, (by show 0 < 1000; decide), ?_⟩
        refine seq_step ?_
        refine ⟨_, rfl, _, rfl, p, _, dx, _, rfl, upd_same, T.cl_Machine, T.n_Machine_room_names, (by show 1 < 1000; decide), ?_⟩
        rw [upd_upd]
        have s15 := s14.trans s5
        generalize h6 : upd H5 p (.ins T.C_Machine dx (putF "room_names" (.ref nq) (putF "watch_names" (.ref w1) []))) = H6
        have off6 : OffN p H H6 := ⟨⟨_, dx, hp⟩, fun b o e z => by rw [← h6, upd_ne z]; exact s15 _ _ e⟩
        have hp6 : H6 p = some (.ins T.C_Machine dx (putF "room_names" (.ref nq) (putF "watch_names" (.ref w1) []))) := by rw [← h6, upd_same]
        obtain ⟨rqs6, q1, q2, q3⟩ := off6.i.rs hrs
        walk_at "rd"
        refine seq_step ?_
        refine lcg_src ?_
        refine ⟨_, rfl, pr, rfl, ⟨_, .of q1⟩, ?_⟩
        refine lcM (R := fun Hx q x => LsAt Hx q x ∧ H6 q = none) (fun H H' q x s h => ⟨LsAt.keep h.1 s, h.2⟩) (F := fun r : Rq => r.2) (zs := M.rooms) q1 (by simp [q2]) (by simp; omega) (fun i x z H7 Yes hx hz s7 hy => ?_) (fun slq H7 s7 f7 e7 => ?_)
        · rw [List.getElem?_map] at hx
          obtain ⟨qi, h1, rfl⟩ := Option.map_eq_some_iff.mp hx
          obtain ⟨g, e, ⟨gs, g1, g2, g3⟩⟩ := q3 i qi z h1 hz
          walk_at "rd"
          refine ix_t (sqt (s7 _ _ e)) (by decide) rfl ?_
          walk_at "rd"
          exact ⟨_, .inl (.of (s7 _ _ g1)), fun l H8 s8 f8 e8 => hy l H8 s8 ⟨⟨gs, cut_new f8 e8, g2, fun i q x h1 h2 => (g3 i q x h1 h2).keep (cut_same (s7.trans s8))⟩, s7.free f8⟩⟩
        · refine ⟨_, rfl, p, _, dx, _, rfl, s7 _ _ hp6, T.cl_Machine, T.n_Machine_stay_looks, (by show 2 < 1000; decide), ?_⟩
          generalize h8 : upd H7 p (.ins T.C_Machine dx (putF "stay_looks" (.ref slq) (putF "room_names" (.ref nq) (putF "watch_names" (.ref w1) [])))) = H8
          have hp8 : H8 p = some (.ins T.C_Machine dx (putF "stay_looks" (.ref slq) (putF "room_names" (.ref nq) (putF "watch_names" (.ref w1) [])))) := by rw [← h8, upd_same]
          have up68 : ∀ b o, H6 b = some o → b ≠ p → H8 b = some o := fun b o e z => by rw [← h8, upd_ne z]; exact s7 _ _ e
          have off8 : OffN p H H8 := ⟨⟨_, dx, hp⟩, fun b o e z => up68 b o (off6.2 b o e z) z⟩
          obtain ⟨dqs8, t1, t2, t3⟩ := off8.ds hds
          refine ⟨_, rfl, pd, _, rfl, .inl (.of t1), fun dl H9 s9 f9 e9 => ?_⟩
          refine ⟨_, rfl, p, _, dx, _, rfl, s9 _ _ hp8, T.cl_Machine, T.n_Machine_door_list, (by show 3 < 1000; decide), ?_⟩
          generalize h10 : upd H9 p (.ins T.C_Machine dx (putF "door_list" (.ref dl) (putF "stay_looks" (.ref slq) (putF "room_names" (.ref nq) (putF "watch_names" (.ref w1) []))))) = H10
          have up810 : ∀ b o, H8 b = some o → b ≠ p → H10 b = some o := fun b o e z => by rw [← h10, upd_ne z]; exact s9 _ _ e
          have off10 : OffN p H H10 := ⟨⟨_, dx, hp⟩, fun b o e z => up810 b o (off8.2 b o e z) z⟩
          have hp9 := s9 _ _ hp8
          have o510 : OffI p H5 H10 := ⟨⟨_, dx, _, s5 _ _ hp4⟩, fun b o e z => up810 b o (up68 b o (by rw [← h6, upd_ne z]; exact e) z) z⟩
          have o710 : OffI p H7 H10 := ⟨⟨_, dx, _, s7 _ _ hp6⟩, fun b o e z => up810 b o (by rw [← h8, upd_ne z]; exact e) z⟩
          have o910 : OffI p H9 H10 := ⟨⟨_, dx, _, hp9⟩, fun b o e z => by rw [← h10, upd_ne z]; exact e⟩
          have hp10 : H10 p = some (.ins T.C_Machine dx (machF w1 nq slq dl)) := by rw [← h10, upd_same]; rfl
          have hnq := o510.lst ((s4.trans s5) _ _ (e3.trans (by rw [List.map_map]; rfl : some (HO.lst (M.rooms.map fun r => V.str r.1)) = some (HO.lst ((M.rooms.map (·.1)).map V.str)))))
          refine q H10 off10 ⟨dx, w1, nq, slq, dl, hp10, o510.lst e5, hnq, ?_, ?_⟩ ?_
          · have e7' : SeqOf LsAt H7 slq (M.rooms.map fun r : Rq => r.2) := by
              obtain ⟨qs, a, b, c⟩ := e7
              exact ⟨qs, a, b, fun i q x h1 h2 => (c i q x h1 h2).1⟩
            exact o710.seq (fun _ _ h => o710.ls h) e7'
          · exact ⟨dqs8, o910.lst e9, t2, fun i q x h1 h2 => by
              obtain ⟨dqs', u1, u2, u3⟩ := off10.ds hds
              have : dqs' = dqs8 := by
                have e1 := off8.i.lst d1
                have e2 := off10.i.lst d1
                rw [t1] at e1; rw [u1] at e2
                have inj : ∀ xs ys : List Addr, xs.map V.ref = ys.map V.ref → xs = ys := fun xs ys h => List.map_inj_right (f := V.ref) (fun a b e => by cases e; rfl) |>.mp h
                have a1 : dqs8.map V.ref = dqs.map V.ref := by simpa using e1
                have a2 : dqs'.map V.ref = dqs.map V.ref := by simpa using e2
                exact inj _ _ (a2.trans a1.symm)
              subst this
              exact u3 i q x h1 h2⟩
          · intro U u hdU
            have lst10 : ∀ b xs, H b = some (.lst xs) → H10 b = some (.lst xs) := fun b xs e => off10.i.lst e
            have isU : ∀ b, U b → ∃ o, H b = some o := fun b h => let ⟨xs, e⟩ := u b h; ⟨_, e⟩
            have pU : ¬ U p := fun h => by
              obtain ⟨xs, e⟩ := u p h
              rw [hp] at e; cases e
            have freshU : ∀ {Hx : Hp} {b : Addr}, Same H Hx → Hx b = none → ¬ U b := fun {Hx b} s f h => by
              obtain ⟨o, e⟩ := isU b h
              rw [s _ _ e] at f; cases f
            refine ⟨dx, w1, nq, slq, dl, rem_at pU hp10, rem_at (freshU s14 f5) (o510.lst e5), rem_at (freshU s12 f3) hnq, ?_, ?_⟩
            · obtain ⟨zqs, z1, z2, z3⟩ := o710.seq (R := fun Hx q x => LsAt Hx q x ∧ H6 q = none) (fun q x h => ⟨o710.ls h.1, h.2⟩) e7
              refine ⟨zqs, rem_at (fun h => ?_) z1, z2, fun i q x h1 h2 => ?_⟩
              · obtain ⟨xs, e⟩ := u slq h
                rw [off6.i.lst e] at f7; cases f7
              · obtain ⟨y1, y2⟩ := z3 i q x h1 h2
                refine y1.rem u lst10 fun h => ?_
                obtain ⟨xs, e⟩ := u q h
                rw [off6.i.lst e] at y2; cases y2
            · refine ⟨dqs8, rem_at (fun h => ?_) (o910.lst e9), t2, fun i q x h1 h2 => ?_⟩
              · obtain ⟨xs, e⟩ := u dl h
                rw [off8.i.lst e] at f9; cases f9
              · have e8' := lst_inj t1 (off8.i.lst d1)
                subst e8'
                have dx0 := hdU q x (d3 i q x h1 h2) (List.mem_of_getElem? h2) ⟨dqs8, i, d1, h1, h2⟩
                obtain ⟨ddx, dg, dn, k1, k2, k3⟩ := dx0
                have nn := rem_of k1
                have tr : ∀ b xs, remU U H b = some (.lst xs) → remU U H10 b = some (.lst xs) := fun b xs e => rem_at (rem_of e).1 (off10.i.lst (rem_of e).2)
                have tt : ∀ b xs, remU U H b = some (.tup xs) → remU U H10 b = some (.tup xs) := fun b xs e => rem_at (rem_of e).1 (off10.i.tup (rem_of e).2)
                obtain ⟨ls1, ls2, ls3, ls4⟩ := k2
                obtain ⟨odx, og, on, oa, ob, oc⟩ := off10.door (d3 i q x h1 h2)
                have k1' : H10 q = some (.ins T.C_Door ddx (doorF x.st x.en x.sg dg dn)) := off10.2 _ _ nn.2 (fun z => by
                  rw [z, hp] at nn
                  have l := door_start (st := x.st) (en := x.en) (sg := x.sg) (g := dg) (n := dn)
                  have e : ([] : List (Str × V)) = doorF x.st x.en x.sg dg dn := by have a := nn.2; injection a with a; injection a
                  rw [← e] at l; cases l)
                exact ⟨ddx, dg, dn, rem_at nn.1 k1', ⟨ls1, tr _ _ ls2, ls3, fun i q x h1 h2 => ⟨tt _ _ (ls4 i q x h1 h2).1, (ls4 i q x h1 h2).2⟩⟩, tr _ _ k3⟩
def spMWatches (CM CD : Addr) : Sp := fun vs H Q _ => ∃ (p : Addr) (M : MachD), vs = [.ref p] ∧ MachAt CM CD H p M ∧ ∀ q H', Same H H' → H q = none → H' q = some (.lst (M.watches.map V.str)) → Q (.ref q) H'
theorem ok_Machine_watches (T : Top K mg) : FnOk P w K mg base CX0 1 T.f_Machine_watches T.d_Machine_watches ["self"] (spMWatches T.C_Machine T.C_Door) := by
  refine T.F_Machine_watches.ok sc_Machine_watches (fun vs H Q E h => ?_) (fun cdv A outer s H vs Q E hr h => ?_)
  · obtain ⟨p, M, rfl, _⟩ := h; rfl
  · obtain ⟨p, M, rfl, ⟨dx, wn, rn, sl, dl, a, b, c, d, e⟩, q⟩ := h
    refine ⟨_, (pss_one (ps_ret (pe_callTy (call_listA (K := K) rfl) (by rfl) T.m_list (by decide +kernel) (pa_cons (pe_fldA (K := K) rfl (pv 0) rfl) pa_nil)))), ?_⟩
    refine ⟨_, rfl, p, _, dx, _, _, rfl, a, T.cl_Machine, T.n_Machine_watch_names, mach_watch, ?_⟩
    walk_at "rd"
    exact ⟨_, .inl (.of b), fun l H s f e => q l H s f e⟩
def spMRooms (CM CD : Addr) : Sp := fun vs H Q _ => ∃ (p : Addr) (M : MachD), vs = [.ref p] ∧ MachAt CM CD H p M ∧ ∀ q H', Same H H' → H q = none → H' q = some (.lst ((M.rooms.map (·.1)).map V.str)) → Q (.ref q) H'
theorem ok_Machine_rooms (T : Top K mg) : FnOk P w K mg base CX0 1 T.f_Machine_rooms T.d_Machine_rooms ["self"] (spMRooms T.C_Machine T.C_Door) := by
  refine T.F_Machine_rooms.ok sc_Machine_rooms (fun vs H Q E h => ?_) (fun cdv A outer s H vs Q E hr h => ?_)
  · obtain ⟨p, M, rfl, _⟩ := h; rfl
  · obtain ⟨p, M, rfl, ⟨dx, wn, rn, sl, dl, a, b, c, d, e⟩, q⟩ := h
    refine ⟨_, (pss_one (ps_ret (pe_callTy (call_listA (K := K) rfl) (by rfl) T.m_list (by decide +kernel) (pa_cons (pe_fldA (K := K) rfl (pv 0) rfl) pa_nil)))), ?_⟩
    refine ⟨_, rfl, p, _, dx, _, _, rfl, a, T.cl_Machine, T.n_Machine_room_names, mach_room, ?_⟩
    walk_at "rd"
    exact ⟨_, .inl (.of c), fun l H s f e => q l H s f e⟩
def spMDoors (CM CD : Addr) : Sp := fun vs H Q _ => ∃ (p : Addr) (M : MachD), vs = [.ref p] ∧ MachAt CM CD H p M ∧ ∀ q H' (qs : List Addr), Same H H' → H q = none → H' q = some (.lst (qs.map V.ref)) → qs.length = M.doors.length → (∀ H0, Same H0 H → MachAt CM CD H0 p M → ∀ (i : Nat) (q : Addr) (x : DoorD), qs[i]? = some q → M.doors[i]? = some x → DoorAt CD H0 q x) → Q (.ref q) H'
theorem ok_Machine_doors (T : Top K mg) : FnOk P w K mg base CX0 1 T.f_Machine_doors T.d_Machine_doors ["self"] (spMDoors T.C_Machine T.C_Door) := by
  refine T.F_Machine_doors.ok sc_Machine_doors (fun vs H Q E h => ?_) (fun cdv A outer s H vs Q E hr h => ?_)
  · obtain ⟨p, M, rfl, _⟩ := h; rfl
  · obtain ⟨p, M, rfl, ⟨dx, wn, rn, sl, dl, a, b, c, d, ⟨qs, e1, e2, e3⟩⟩, q⟩ := h
    refine ⟨_, (pss_one (ps_ret (pe_callTy (call_listA (K := K) rfl) (by rfl) T.m_list (by decide +kernel) (pa_cons (pe_fldA (K := K) rfl (pv 0) rfl) pa_nil)))), ?_⟩
    refine ⟨_, rfl, p, _, dx, _, _, rfl, a, T.cl_Machine, T.n_Machine_door_list, mach_door, ?_⟩
    walk_at "rd"
    refine ⟨_, .inl (.of e1), fun l H' s f e => q l H' qs s f e e2 fun H0 s0 ⟨dx', wn', rn', sl', dl', a', _, _, _, ⟨qs', u1, u2, u3⟩⟩ i q x h1 h2 => ?_⟩
    have e0 := s0 _ _ a'
    rw [a] at e0
    have hf : machF wn rn sl dl = machF wn' rn' sl' dl' := by injection e0 with e0; injection e0
    obtain ⟨_, _, _, rfl⟩ := machF_inj hf
    obtain rfl := lst_inj e1 (s0 _ _ u1)
    exact u3 i q x h1 h2
theorem index_of {xs : List Str} {x : Str} (h : x ∈ xs) : ∃ j, xs.idxOf x = j ∧ (xs.map V.str)[j]? = some (.str x) ∧ ∀ (m : Nat) (z : V), m < j → (xs.map V.str)[m]? = some z → eqV z (.str x) = false := by
  refine ⟨_, rfl, ?_, fun m z hm hz => ?_⟩
  · rw [List.getElem?_map, List.getElem?_eq_getElem (List.idxOf_lt_length_of_mem h)]
    simp
  · rw [List.getElem?_map] at hz
    obtain ⟨y, h1, rfl⟩ := Option.map_eq_some_iff.mp hz
    obtain ⟨hl, h2⟩ := List.getElem?_eq_some_iff.mp h1
    have : y ≠ x := fun e => by
      have := List.not_of_lt_findIdx (p := (· == x)) (xs := xs) (i := m) hm
      rw [h2, e] at this
      simp at this
    simp [eqV, this]
def spMStay (CM CD : Addr) : Sp := fun vs H Q _ => ∃ (p : Addr) (M : MachD) (r : Rq), vs = [.ref p, .str r.1] ∧ MachAt CM CD H p M ∧ r ∈ M.rooms ∧ (M.rooms.map (·.1)).Nodup ∧ ∀ q H', Same H H' → H q = none → LsAt H' q r.2 → Q (.ref q) H'
theorem ok_Machine_stay (T : Top K mg) : FnOk P w K mg base CX0 1 T.f_Machine_stay T.d_Machine_stay ["self", "room"] (spMStay T.C_Machine T.C_Door) := by
  refine T.F_Machine_stay.ok sc_Machine_stay (fun vs H Q E h => ?_) (fun cdv A outer s H vs Q E hr h => ?_)
  · obtain ⟨p, M, r, rfl, _⟩ := h; rfl
  · obtain ⟨p, M, r, rfl, ⟨dx, wn, rn, sl, dl, a, b, c, ⟨qs, d1, d2, d3⟩, e⟩, hmem, nd, q⟩ := h
    refine ⟨_, (pss_one (ps_ret (pe_callTy (call_listA (K := K) rfl) (by rfl) T.m_list (by decide +kernel) (pa_cons (pe_ix (ix_listA (K := K) rfl) (pe_fldA (K := K) rfl (pv 0) rfl) (pe_bm PySem.F.plainAttrs_list PySem.F.slot_list_index PySem.F.type_list_index mt_index (pe_fldA (K := K) rfl (pv 0) rfl) (pa_cons (pv 1) pa_nil)) (fun _ _ => rfl)) pa_nil)))), ?_⟩
    obtain ⟨j, ej, hj, hno⟩ := index_of (List.mem_map_of_mem hmem : r.1 ∈ M.rooms.map (·.1))
    have hj2 : M.rooms[j]? = some r := by
      obtain ⟨m, hm, e2⟩ := List.mem_iff_getElem.mp hmem
      have hm2 : (M.rooms.map (·.1))[m]? = some r.1 := by rw [List.getElem?_map, List.getElem?_eq_getElem hm, e2]; rfl
      have hj3 : (M.rooms.map (·.1))[j]? = some r.1 := by
        rw [List.getElem?_map] at hj
        obtain ⟨y, h1, h2⟩ := Option.map_eq_some_iff.mp hj
        rw [h1]; exact congrArg some (by simpa using h2)
      have : m = j := (List.getElem?_inj (by simpa using hm) nd).mp (hm2.trans hj3.symm)
      rw [← this, List.getElem?_eq_getElem hm, e2]
    refine ⟨_, rfl, p, _, dx, _, _, rfl, a, T.cl_Machine, T.n_Machine_stay_looks, mach_stay, ?_⟩
    refine ⟨_, rfl, p, _, dx, _, _, rfl, a, T.cl_Machine, T.n_Machine_room_names, mach_room, .inl ⟨rfl, _, .of c⟩, ?_⟩
    walk_at "rd"
    refine ⟨rn, _, _, j, _, rfl, rfl, .of c, rfl, flat_of, hj, by simp [eqV], hno, ?_⟩
    have hjl := (List.getElem?_eq_some_iff.mp hj2).1
    rw [List.length_map] at d2
    have hq := List.getElem?_eq_getElem (l := qs) (i := j) (by omega)
    have hls := d3 j _ r.2 hq (by rw [List.getElem?_map, hj2]; rfl)
    generalize qs[j] = ql at *
    obtain ⟨rs, f1, f2, f3⟩ := hls
    refine ix_l (.of d1) (by omega) (by rw [Int.toNat_natCast, List.getElem?_map, hq]; rfl) ?_
    walk_at "rd"
    exact ⟨_, .inl (.of f1), fun l H' s' f e => q l H' s' f ⟨rs, e, f2, fun i q x h1 h2 => (f3 i q x h1 h2).keep s'⟩⟩
def spMNum (CM CD : Addr) : Sp := fun vs H Q _ => ∃ (p : Addr) (M : MachD) (x : Str), vs = [.ref p, .str x] ∧ MachAt CM CD H p M ∧ x ∈ M.watches ∧ Q (.int (((M.watches.idxOf x + 1 : Nat)) : Int)) H
theorem ok_Machine_watch_number (T : Top K mg) : FnOk P w K mg base CX0 1 T.f_Machine_watch_number T.d_Machine_watch_number ["self", "name"] (spMNum T.C_Machine T.C_Door) := by
  refine T.F_Machine_watch_number.ok sc_Machine_watch_number (fun vs H Q E h => ?_) (fun cdv A outer s H vs Q E hr h => ?_)
  · obtain ⟨p, M, x, rfl, _⟩ := h; rfl
  · obtain ⟨p, M, x, rfl, ⟨dx, wn, rn, sl, dl, a, b, c, d, e⟩, hmem, q⟩ := h
    refine ⟨_, (pss_one (ps_ret (pe_op op_add pe_int (pe_bm PySem.F.plainAttrs_list PySem.F.slot_list_index PySem.F.type_list_index mt_index (pe_fldA (K := K) rfl (pv 0) rfl) (pa_cons (pv 1) pa_nil))))), ?_⟩
    obtain ⟨j, ej, hj, hno⟩ := index_of hmem
    refine ⟨_, rfl, p, _, dx, _, _, rfl, a, T.cl_Machine, T.n_Machine_watch_names, mach_watch, .inl ⟨rfl, _, .of b⟩, ?_⟩
    walk_at "rd"
    refine ⟨wn, _, _, j, _, rfl, rfl, .of b, rfl, flat_of, hj, by simp [eqV], hno, ?_⟩
    rw [ej] at q
    refine ⟨_, rfl, ?_⟩
    rw [show (1 : Int) + (j : Int) = ((j + 1 : Nat) : Int) by omega]
    exact q
abbrev WORDS : List Str := ["<", "<=", ">", ">=", "="]
/-! ### what is new between two heaps -/
open Classical in
noncomputable def newH (H H' : Hp) : Hp := fun b => if H b = none then H' b else none
theorem new_at {H H' : Hp} {b : Addr} {o : HO} (f : H b = none) (e : H' b = some o) : newH H H' b = some o := by unfold newH; rw [if_pos f]; exact e
theorem new_of {H H' : Hp} {b : Addr} {o : HO} (e : newH H H' b = some o) : H b = none ∧ H' b = some o := by
  unfold newH at e
  by_cases h : H b = none
  · rw [if_pos h] at e; exact ⟨h, e⟩
  · rw [if_neg h] at e; cases e
theorem new_sub {H H' : Hp} : Same (newH H H') H' := fun b o e => (new_of e).2
theorem new_mono {H1 H H' H2 : Hp} (s1 : Same H1 H) (s2 : Same H' H2) : Same (newH H H') (newH H1 H2) := fun b o e => by
  have := new_of e
  exact new_at (s1.free this.1) (s2 _ _ this.2)
theorem new_later {H H' H2 : Hp} (s2 : Same H' H2) : Same (newH H H') (newH H H2) := new_mono (Same.refl _) s2
theorem new_del {H H' : Hp} {D : Addr} {o : HO} (e : H D = some o) : Same (newH H H') (delH D H') := fun b o' h => by
  have := new_of h
  exact del_at (fun z => by rw [z, e] at this; cases this.1) this.2
theorem new_upd {H H' : Hp} {g : Addr} {o : HO} (f : H g = none) : newH H (upd H' g o) = upd (newH H H') g o := by
  funext b
  by_cases h : b = g
  · rw [h, upd_same]; exact new_at f upd_same
  · rw [upd_ne h]
    unfold newH
    rw [upd_ne h]
/-! ### the law's own machines, as they are drawn -/
structure LDoor where
  b : Nat
  e : Nat
  gd : List Lq
  ns : List Str
  sg : Str
def LDoorAt (H : Hp) (q : Addr) (d : LDoor) : Prop := ∃ g n, H q = some (.tup [.int d.b, .int d.e, .ref g, .ref n, .str d.sg]) ∧ LsAt H g d.gd ∧ H n = some (.lst (d.ns.map V.str))
theorem LDoorAt.keep {H H' : Hp} {q : Addr} {d : LDoor} (s : Same H H') (h : LDoorAt H q d) : LDoorAt H' q d := by
  obtain ⟨g, n, a, b, c⟩ := h
  exact ⟨g, n, s _ _ a, b.keep s, s _ _ c⟩
structure Spec where
  watches : List Str
  rooms : List Rq
  doors : List LDoor
def SpecAt (H : Hp) (q : Addr) (S : Spec) : Prop := ∃ w r d, H q = some (.tup [.ref w, .ref r, .ref d]) ∧ H w = some (.lst (S.watches.map V.str)) ∧ RsAt H r S.rooms ∧ SeqOf LDoorAt H d S.doors
theorem SpecAt.keep {H H' : Hp} {q : Addr} {S : Spec} (s : Same H H') (h : SpecAt H q S) : SpecAt H' q S := by
  obtain ⟨w, r, d, a, b, c, e⟩ := h
  exact ⟨w, r, d, s _ _ a, s _ _ b, c.keep s, SeqOf.keep (fun _ _ => LDoorAt.keep s) s e⟩
def NumsOk (ls : List Lq) : Prop := ∀ l ∈ ls, ∃ n : Int, l.2.2 = .int n ∧ 0 ≤ n ∧ Sz 210 n
structure SpecOk (S : Spec) : Prop where
  w : NamesOk S.watches S.watches.length
  w2 : S.watches.length ≤ 2
  r : NamesOk (S.rooms.map (·.1)) S.rooms.length
  r1 : 1 ≤ S.rooms.length
  r4 : S.rooms.length ≤ 4
  st : ∀ r ∈ S.rooms, guardOk ["<", "<="] S.watches r.2 = true ∧ r.2.length ≤ 2 ∧ NumsOk r.2
  d6 : S.doors.length ≤ 6
  d : ∀ d ∈ S.doors, d.b < S.rooms.length ∧ d.e < S.rooms.length ∧ guardOk WORDS S.watches d.gd = true ∧ d.gd.length ≤ 2 ∧ NumsOk d.gd ∧ d.ns.Nodup ∧ (∀ x ∈ d.ns, x ∈ S.watches) ∧ (d.sg = "" ∨ d.sg = "go!")
def Spec.name (S : Spec) (i : Nat) : Str := (S.rooms.map (·.1)).getD i ""
def Spec.door (S : Spec) (d : LDoor) : DoorD := ⟨S.name d.b, S.name d.e, d.sg, d.gd, d.ns⟩
def Spec.mach (S : Spec) : MachD := ⟨S.watches, S.rooms, S.doors.map S.door⟩
theorem okName_okT {x : Str} (h : okName x = true) : okT x (letters ++ ("/" : Str)) 60 = true := by
  unfold okName okT at h
  rw [Bool.and_eq_true, Bool.and_eq_true, List.all_eq_true] at h
  unfold okT
  rw [Bool.and_eq_true, Bool.and_eq_true, List.all_eq_true]
  refine ⟨⟨h.1.1, decide_eq_true (by have := of_decide_eq_true h.1.2; omega)⟩, fun c hc => decide_eq_true ?_⟩
  have := of_decide_eq_true (h.2 c hc)
  rw [show (letters ++ ("/" : Str)).cps.toList = letters.cps.toList ++ ("/" : Str).cps.toList by decide +kernel]
  exact List.mem_append_left _ this
theorem name_at {S : Spec} {i : Nat} (h : i < S.rooms.length) : ∃ r : Rq, S.rooms[i]? = some r ∧ S.name i = r.1 := by
  refine ⟨S.rooms[i], List.getElem?_eq_getElem h, ?_⟩
  unfold Spec.name
  rw [List.getD_eq_getElem?_getD, List.getElem?_map, List.getElem?_eq_getElem h]; rfl
theorem name_mem {S : Spec} {i : Nat} (h : i < S.rooms.length) : S.name i ∈ S.rooms.map (·.1) := by
  obtain ⟨r, h1, h2⟩ := name_at h
  rw [h2]; exact List.mem_map_of_mem (List.mem_of_getElem? h1)
theorem SpecOk.mach {S : Spec} (h : SpecOk S) : MachOk S.mach where
  w7 := by show S.watches.length ≤ 7; have := h.w2; omega
  wok := List.all_eq_true.mpr fun x hx => by
    have := h.w.2.1 x hx
    unfold okWatch; rw [this, Bool.or_true]
  wnd := h.w.2.2.1
  rok := List.all_eq_true.mpr fun r hr => by
    have h1 := okName_okT (h.r.2.1 r.1 (List.mem_map_of_mem hr))
    have h2 := (h.st r hr).1
    unfold roomOk
    rw [h1]
    exact h2
  rnd := h.r.2.2.1
  rne := fun z => by
    have h1 := h.r1
    have z : S.rooms = [] := z
    rw [z] at h1; simp at h1
  r64 := by show S.rooms.length ≤ 64; have := h.r4; omega
  dok := List.all_eq_true.mpr fun d hd => by
    obtain ⟨d', hd', rfl⟩ := List.mem_map.mp hd
    obtain ⟨a, b, c, _, _, e, f, g⟩ := h.d d' hd'
    unfold doorOk
    have s1 : okSign (S.door d').sg = true := by
      show okSign d'.sg = true
      rcases g with g | g <;> rw [g] <;> decide +kernel
    have s2 : (S.door d').backs.all (fun b => decide (b ∈ S.mach.watches)) = true := List.all_eq_true.mpr fun x hx => decide_eq_true (f x hx)
    rw [s1, s2, decide_eq_true (show (S.door d').st ∈ S.mach.rooms.map (·.1) from name_mem a), decide_eq_true (show (S.door d').en ∈ S.mach.rooms.map (·.1) from name_mem b), decide_eq_true (show (S.door d').backs.Nodup from e)]
    have s3 : guardOk ["<", "<=", ">", ">=", "="] S.mach.watches (S.door d').looks = true := c
    rw [s3]; rfl
  d200 := by show (S.doors.map S.door).length ≤ 200; rw [List.length_map]; have := h.d6; omega
  rsz := fun r hr => by have := (h.st r hr).2.1; omega
  dsz := fun d hd => by
    obtain ⟨d', hd', rfl⟩ := List.mem_map.mp hd
    have := (h.d d' hd').2.2.2.1
    show d'.gd.length ≤ 60
    omega
abbrev lqKeep : ∀ (H H' : Hp) (q : Addr) (x : Lq), Same H H' → LqAt H q x → LqAt H' q x := fun _ _ _ _ s h => LqAt.keep s h
theorem pick_word {ws : List Str} {i : Int} (h : 0 ≤ i ∧ i < (ws.length : Int)) : ∃ x, (ws.map V.str)[i.toNat]? = some (.str x) ∧ x ∈ ws := by
  have h1 : i.toNat < ws.length := by omega
  exact ⟨ws[i.toNat], by rw [List.getElem?_map, List.getElem?_eq_getElem h1]; rfl, List.getElem_mem h1⟩
theorem RqAt.keep' : ∀ (H H' : Hp) (q : Addr) (x : Rq), Same H H' → RqAt H q x → RqAt H' q x := fun _ _ _ _ s h => RqAt.keep s h
def PlAt (ws : List Str) (H : Hp) (q : Addr) (l : Lq) : Prop := ∃ n : Int, l.2.2 = .int n ∧ H q = some (.tup [.int ((ws.idxOf l.1 + 1 : Nat) : Int), .str l.2.1, .int n])
/-- what is none of a guard -/
inductive NoGuard (K : PySem.W.Frag) (H : Hp) (ws watches : List Str) : V → Prop where
  | lst {p : Addr} {xs : List V} {bs : List Bool} (h : H p = some (.lst xs)) (hl : xs.length = bs.length) (h60 : xs.length ≤ 60) (c : ∀ (i : Nat) (x : V) (b : Bool), xs[i]? = some x → bs[i]? = some b → ThgAt K H ws watches x b) (bad : bs.all id = false) : NoGuard K H ws watches (.ref p)
  | kind {x : V} {t : String} (h : TyX K H x (.type t)) (k : t ∈ kinds) (n : t ≠ "list") : NoGuard K H ws watches x
def spPlaced (K : PySem.W.Frag) (CM CD CN : Addr) : Sp := fun vs H Q E => (∃ (pm pg : Addr) (M : MachD) (ls : List Lq), vs = [.ref pm, .ref pg] ∧ MachAt CM CD H pm M ∧ LsAt H pg ls ∧ ls.length ≤ 60 ∧
  ((guardOk WORDS M.watches ls = true ∧ ∀ p H', Same H H' → H p = none → SeqOf (PlAt M.watches) H' p ls → Q (.ref p) H') ∨ (guardOk WORDS M.watches ls = false ∧ ∀ H', Same H H' → E (.ref CN) none H'))) ∨
  (∃ (pm : Addr) (x : V) (M : MachD), vs = [.ref pm, x] ∧ MachAt CM CD H pm M ∧ NoGuard K H WORDS M.watches x ∧ ∀ H', Same H H' → E (.ref CN) none H')
theorem ok_placed (T : Top K mg) : FnOk P w K mg base (L2.CX P w) 4 T.f_placed T.d_placed ["machine", "guard"] (spPlaced K T.C_Machine T.C_Door T.C_NoMark) := by
  refine T.F_placed.okX sc_placed (fun vs H Q E h => ?_) (fun cdv A outer s H vs Q E hr h => ?_)
  · rcases h with ⟨pm, pg, M, ls, rfl, _⟩ | ⟨pm, x, M, rfl, _⟩ <;> rfl
  · refine ⟨_, (pss_cons (ps_set (i := 2) sc_placed.nd rfl (.inl rfl) (pe_meth0 (pv 0) T.cl_Machine T.m_Machine_watches (ok_Machine_watches T) (hr.mono (by decide)) T.b_Machine_watches .nil pass0))
      (pss_cons (ps_if (pt_not (pt_val (pe_call (ok_is_guard T) (hr.mono (by decide)) rfl T.g_is_guard T.F_is_guard.kp T.b_is_guard .nil pass0 (pa_cons (pv 1) (pa_cons (pe_glob (v := .ref T.t_WORDS) rfl T.g_WORDS rfl) (pa_cons (pv 2) pa_nil)))))) (pss_one (ps_raise rfl (takes_of rfl rfl rfl rfl) (pmk_own PySem.F.excBase_ValueError T.x_NoMark T.g_NoMark T.k_NoMark (raises_own T.b_NoMark T.t_NoMark) rfl))) pss_nil)
      (pss_one (ps_ret (lc_vs (vs := [3, 4, 5]) (pe_lc (own := [("watch", 3), ("word", 4), ("number", 5)]) (tt := tYes) rfl sc_placed.nd (pi_listA (K := K) rfl (pv 1)) (blkOk_by (own := [("watch", 3), ("word", 4), ("number", 5)]) (N := ["machine", "guard", "watches", "watch", "word", "number"]) (sc := defScope s_placed) (by decide +kernel)) (fun _ _ _ _ _ => (pg_tupA (K := K) (n := 3) rfl (by rfl) (pgs_cons (pg_name (i := 3) sc_placed.nd rfl (.inl rfl)) (pgs_cons (pg_name (i := 4) sc_placed.nd rfl (.inl rfl)) (pgs_cons (pg_name (i := 5) sc_placed.nd rfl (.inl rfl)) pgs_nil))))) (fun _ _ _ _ _ => pts_nil) (fun _ _ _ _ _ => (pe_tupN (pa_cons (pe_meth (pv 0) T.cl_Machine T.m_Machine_watch_number (ok_Machine_watch_number T) (hr.mono (by decide)) T.b_Machine_watch_number .nil pass0 (pa_cons (pv 3) pa_nil)) (pa_cons (pv 4) (pa_cons (pv 5) pa_nil)))))) rfl))))), ?_⟩
    rcases h with ⟨pm, pg, M, ls, rfl, hm, hg, h60, q⟩ | ⟨pm, x, M, rfl, hm, hn, q⟩
    rotate_left
    · obtain ⟨dx, wn, rn, sl, dl, a, _⟩ := id hm
      refine seq_step ?_
      refine ⟨_, rfl, pm, dx, _, rfl, a, mach_no (by decide +kernel) (by decide +kernel) (by decide +kernel) (by decide +kernel), pm, M, rfl, hm, fun wq H1 s1 f1 e1 => ?_⟩
      walk_at "rd"
      refine seq_step ?_
      walk_at "rt"
      cases hn with
      | @lst p xs bs h hl h60 c bad =>
        refine .inr (.inl ⟨p, T.t_WORDS, wq, xs, bs, WORDS, M.watches, rfl, s1 _ _ h, hl, h60, fun i x b h1 h2 => (c i x b h1 h2).keep s1, .inr (T.q_WORDS _), .inl (.of e1), fun H2 s2 => ?_⟩)
        rw [bad]
        walk_at "rd"
        exact q _ (s1.trans s2)
      | kind h k n =>
        refine .inr (.inr ⟨_, _, T.t_WORDS, wq, rfl, tyx_same s1 h, k, n, ?_⟩)
        walk_at "rd"
        exact q _ s1
    obtain ⟨dx, wn, rn, sl, dl, a, _⟩ := id hm
    obtain ⟨qs, g1, g2, g3⟩ := id hg
    refine seq_step ?_
    refine ⟨_, rfl, pm, dx, _, rfl, a, mach_no (by decide +kernel) (by decide +kernel) (by decide +kernel) (by decide +kernel), pm, M, rfl, hm, fun wq H1 s1 f1 e1 => ?_⟩
    walk_at "rd"
    refine seq_step ?_
    walk_at "rt"
    refine .inl ⟨pg, T.t_WORDS, wq, ls, WORDS, M.watches, rfl, hg.keep s1, .inr (T.q_WORDS _), .inl (.of e1), h60, fun H2 s2 => ?_⟩
    have s12 := s1.trans s2
    rcases q with ⟨ok, q⟩ | ⟨bad, q⟩
    · rw [ok]
      walk_at "rd"
      refine lcg_src ?_
      walk_at "rd"
      refine ⟨⟨_, .of (s12 _ _ g1)⟩, ?_⟩
      refine lcM (R := PlAt M.watches) (fun H H' q x s ⟨n, h1, h2⟩ => ⟨n, h1, s _ _ h2⟩) (F := id) (zs := ls) (s12 _ _ g1) (by simp [g2]) (by simp; omega) (fun i x z H3 Yes hx hz s3 hy => ?_) (fun D H3 s3 f3 e3 => ?_)
      · rw [List.getElem?_map] at hx
        obtain ⟨qi, h1, rfl⟩ := Option.map_eq_some_iff.mp hx
        have s13 := s12.trans s3
        obtain ⟨ez, kz⟩ := (g3 i qi z h1 hz).keep s13
        have lz := List.all_eq_true.mp ok z (List.mem_of_getElem? hz)
        unfold lookOk at lz
        rw [Bool.and_eq_true, Bool.and_eq_true] at lz
        have wz := of_decide_eq_true lz.1.1
        obtain ⟨n, hn⟩ : ∃ n, z.2.2 = .int n := by
          have := lz.2
          cases hv : z.2.2 <;> rw [hv] at this <;> first | exact ⟨_, rfl⟩ | cases this
        refine gTup_of (sqt ez) rfl ?_
        walk_at "rd"
        refine ⟨_, rfl, pm, dx, _, rfl, s13 _ _ a, mach_no (by decide +kernel) (by decide +kernel) (by decide +kernel) (by decide +kernel), ?_⟩
        walk_at "rd"
        refine ⟨pm, M, z.1, rfl, hm.keep s13, wz, ?_⟩
        intro r H4 s4 f4 e4
        exact hy r H4 s4 ⟨n, hn, cut_new f4 (by rw [← hn]; exact e4)⟩
      · exact q D H3 (s12.trans s3) (s12.free f3) (by simpa using e3)
    · rw [bad]
      walk_at "rd"
      exact q _ s12
def markOk (M : MachD) (r : Rq) : Bool := decide (r.1 ∈ M.rooms.map (·.1)) && guardOk WORDS M.watches r.2
def spChecked (K : PySem.W.Frag) (CM CD CN : Addr) : Sp := fun vs H Q E => ∃ (pm pg : Addr) (M : MachD) (gs : List Rq), vs = [.ref pm, .ref pg] ∧ MachAt CM CD H pm M ∧ RsAt H pg gs ∧ (∀ r ∈ gs, r.2.length ≤ 60) ∧ gs.length ≤ 900 ∧
  ((gs.all (markOk M) = true ∧ ∀ H', Same H H' → Q .non H') ∨ (gs.all (markOk M) = false ∧ ∀ H', Same H H' → E (.ref CN) none H'))
theorem NoGuard.keep {K : PySem.W.Frag} {H H' : Hp} {ws watches : List Str} {x : V} (s : Same H H') (h : NoGuard K H ws watches x) : NoGuard K H' ws watches x := by
  cases h with
  | lst h hl h60 c bad => exact .lst (s _ _ h) hl h60 (fun i x b h1 h2 => (c i x b h1 h2).keep s) bad
  | kind h k n => exact .kind (tyx_same s h) k n
/-- a goal of which one mark is none -/
def BadGoal (K : PySem.W.Frag) (H : Hp) (M : MachD) (pg : Addr) (gs : List Rq) (k : Nat) : Prop := ∃ qs : List Addr, H pg = some (.lst (qs.map V.ref)) ∧ qs.length ≤ 900 ∧ gs.all (markOk M) = true ∧ (∀ r ∈ gs, r.2.length ≤ 60) ∧ gs.length = k ∧ (∀ (i : Nat) (q : Addr) (r : Rq), qs[i]? = some q → gs[i]? = some r → RqAt H q r) ∧
  ∃ q r x, qs[k]? = some q ∧ H q = some (.tup [.str r, x]) ∧ (r ∉ M.rooms.map (·.1) ∨ NoGuard K H WORDS M.watches x)
def spChecked2 (K : PySem.W.Frag) (CM CD CN : Addr) : Sp := fun vs H Q E => spChecked K CM CD CN vs H Q E ∨ ∃ (pm pg : Addr) (M : MachD) (gs : List Rq) (k : Nat), vs = [.ref pm, .ref pg] ∧ MachAt CM CD H pm M ∧ BadGoal K H M pg gs k ∧ ∀ H', Same H H' → E (.ref CN) none H'
theorem ok_checked_goal (T : Top K mg) : FnOk P w K mg base (L2.CX P w) 5 T.f_checked_goal T.d_checked_goal ["machine", "goal"] (spChecked2 K T.C_Machine T.C_Door T.C_NoMark) := by
  refine T.F_checked_goal.okX sc_checked_goal (fun vs H Q E h => ?_) (fun cdv A outer s H vs Q E hr h => ?_)
  · rcases h with ⟨pm, pg, M, ls, rfl, _⟩ | ⟨pm, pg, M, gs, k, rfl, _⟩ <;> rfl
  refine ⟨_, (pss_cons (ps_set (i := 2) sc_checked_goal.nd rfl (.inl rfl) (pe_meth0 (pv 0) T.cl_Machine T.m_Machine_rooms (ok_Machine_rooms T) (hr.mono (by decide)) T.b_Machine_rooms .nil pass0))
      (pss_one (ps_for (passes_of rfl) rfl (pi_listA (K := K) rfl (pv 1)) (pg_tupA (K := K) (n := 2) rfl (by rfl) (pgs_cons (pg_name (i := 3) sc_checked_goal.nd rfl (.inl rfl)) (pgs_cons (pg_name (i := 4) sc_checked_goal.nd rfl (.inl rfl)) pgs_nil))) (pss_cons (ps_if (pt_cmpR (op_notIn_seqA (K := K) rfl) (pv 3) (pv 2) (by rfl)) (pss_one (ps_raise rfl (takes_of rfl rfl rfl rfl) (pmk_own PySem.F.excBase_ValueError T.x_NoMark T.g_NoMark T.k_NoMark (raises_own T.b_NoMark T.t_NoMark) rfl))) pss_nil)
      (pss_one (ps_expr (pe_call (ok_placed T) (hr.mono (by decide)) rfl T.g_placed T.F_placed.kp T.b_placed .nil (passes_call (takes_of rfl rfl rfl rfl) (fun _ _ _ _ z => z)) (pa_cons (pv 0) (pa_cons (pv 4) pa_nil))))))))), ?_⟩
  rcases h with h | h
  · obtain ⟨pm, pg, M, gs, rfl, hm, hg, h60, h900, q⟩ := h
    obtain ⟨dx, wn, rn, sl, dl, a, _⟩ := id hm
    obtain ⟨qs, g1, g2, g3⟩ := id hg
    refine seq_step ?_
    refine ⟨_, rfl, pm, dx, _, rfl, a, mach_no (by decide +kernel) (by decide +kernel) (by decide +kernel) (by decide +kernel), pm, M, rfl, hm, fun rq H1 s1 f1 e1 => ?_⟩
    walk_at "rd"
    refine for_li ?_
    walk_at "rd"
    refine forL_by (xs := qs.map V.ref) (fun i σ' H' => ∃ v3 v4, σ' = [some (.ref pm), some (.ref pg), some (.ref rq), v3, v4] ∧ Same H1 H' ∧ (gs.take i).all (markOk M) = true) ⟨_, _, rfl, Same.refl _, rfl⟩ (fun i σ H' _ ⟨_, _, _, s, _⟩ => .of ((s1.trans s) _ _ g1)) ?_ ?_
    · rintro i x σ' H' hi ⟨v3, v4, rfl, s', ha⟩
      rw [List.getElem?_map] at hi
      obtain ⟨qi, h1, rfl⟩ := Option.map_eq_some_iff.mp hi
      have hil := (List.getElem?_eq_some_iff.mp h1).1
      have hz := List.getElem?_eq_getElem (l := gs) (i := i) (by omega)
      have s2 := s1.trans s'
      obtain ⟨g, ez, hgz⟩ := (g3 i qi _ h1 hz).keep s2
      have hmem := List.mem_of_getElem? hz
      generalize gs[i] = z at *
      have tk : (gs.take (i + 1)).all (markOk M) = ((gs.take i).all (markOk M) && markOk M z) := by
        rw [List.take_add_one, hz, List.all_append]; simp
      have bad : markOk M z = false → gs.all (markOk M) = false := fun h => List.all_eq_false.mpr ⟨z, hmem, by rw [h]; exact Bool.false_ne_true⟩
      refine gTup_of (sqt ez) rfl ?_
      walk_at "rd"
      refine seq_step ?_
      walk_at "rd"
      refine ⟨rq, _, rfl, .inl (.of (s' _ _ e1)), rfl, flat_of, ?_⟩
      rw [inV_str]
      by_cases m : z.1 ∈ M.rooms.map (·.1)
      · rw [decide_eq_true m]
        walk_at "rd"
        refine .inl ⟨pm, g, M, z.2, rfl, hm.keep s2, hgz, h60 z hmem, ?_⟩
        by_cases c : guardOk WORDS M.watches z.2 = true
        · refine .inl ⟨c, fun p H2 s3 f3 e3 => ?_⟩
          walk_at "rd"
          refine ⟨s'.trans s3, ?_⟩
          rw [tk, ha]
          unfold markOk
          rw [decide_eq_true m, c]; rfl
        · have c : guardOk WORDS M.watches z.2 = false := by simpa using c
          have b := bad (by unfold markOk; rw [c, Bool.and_false])
          refine .inr ⟨c, fun H2 s3 => ?_⟩
          rcases q with ⟨ok, _⟩ | ⟨_, q⟩
          · rw [b] at ok; cases ok
          · exact q _ (s2.trans s3)
      · rw [decide_eq_false m]
        walk_at "rd"
        have b := bad (by unfold markOk; rw [decide_eq_false m, Bool.false_and])
        rcases q with ⟨ok, _⟩ | ⟨_, q⟩
        · rw [b] at ok; cases ok
        · exact q _ s2
    · rintro σ' H' ⟨v3, v4, rfl, s', ha⟩
      walk_at "rd"
      rw [List.length_map, g2, List.take_length] at ha
      rcases q with ⟨_, q⟩ | ⟨b, _⟩
      · exact q _ (s1.trans s')
      · rw [b] at ha; cases ha
  · obtain ⟨pm, pg, M, gs, k, rfl, hm, ⟨qs, g1, q900, gok, h60, gk, g3, qb, rb, xb, hqb, eb, bad⟩, q⟩ := h
    obtain ⟨dx, wn, rn, sl, dl, a, _⟩ := id hm
    have hkl := (List.getElem?_eq_some_iff.mp hqb).1
    refine seq_step ?_
    refine ⟨_, rfl, pm, dx, _, rfl, a, mach_no (by decide +kernel) (by decide +kernel) (by decide +kernel) (by decide +kernel), pm, M, rfl, hm, fun rq H1 s1 f1 e1 => ?_⟩
    walk_at "rd"
    refine for_li ?_
    walk_at "rd"
    refine forL_by (xs := qs.map V.ref) (fun i σ' H' => i ≤ k ∧ ∃ v3 v4, σ' = [some (.ref pm), some (.ref pg), some (.ref rq), v3, v4] ∧ Same H1 H') ⟨Nat.zero_le _, _, _, rfl, Same.refl _⟩ (fun i σ H' _ ⟨_, _, _, _, s⟩ => .of ((s1.trans s) _ _ g1)) ?_ ?_
    · rintro i x σ' H' hi ⟨hik, v3, v4, rfl, s'⟩
      rw [List.getElem?_map] at hi
      obtain ⟨qi, h1, rfl⟩ := Option.map_eq_some_iff.mp hi
      have s2 := s1.trans s'
      rcases Nat.lt_or_eq_of_le hik with hlt | heq
      · obtain ⟨z, hz⟩ : ∃ z, gs[i]? = some z := ⟨_, List.getElem?_eq_getElem (by omega)⟩
        obtain ⟨g, ez, hgz⟩ := (g3 i qi _ h1 hz).keep s2
        have hmem := List.mem_of_getElem? hz
        have mk := List.all_eq_true.mp gok z hmem
        unfold markOk at mk
        have mk := Bool.and_eq_true_iff.mp mk
        refine gTup_of (sqt ez) rfl ?_
        walk_at "rd"
        refine seq_step ?_
        walk_at "rd"
        refine ⟨rq, _, rfl, .inl (.of (s' _ _ e1)), rfl, flat_of, ?_⟩
        rw [inV_str, mk.1]
        walk_at "rd"
        refine .inl ⟨pm, g, M, z.2, rfl, hm.keep s2, hgz, h60 z hmem, .inl ⟨mk.2, fun p H2 s3 f3 e3 => ?_⟩⟩
        exact ⟨hlt, s'.trans s3⟩
      · subst heq
        rw [hqb] at h1; cases h1
        refine gTup_of (sqt (s2 _ _ eb)) rfl ?_
        walk_at "rd"
        refine seq_step ?_
        walk_at "rd"
        refine ⟨rq, _, rfl, .inl (.of (s' _ _ e1)), rfl, flat_of, ?_⟩
        rw [inV_str]
        by_cases m : rb ∈ M.rooms.map (·.1)
        · rw [decide_eq_true m]
          walk_at "rd"
          rcases bad with h | h
          · exact absurd m h
          · exact .inr ⟨pm, xb, M, rfl, hm.keep s2, h.keep s2, fun H2 s3 => q _ (s2.trans s3)⟩
        · rw [decide_eq_false m]
          walk_at "rd"
          exact q _ s2
    · rintro σ' H' ⟨hk, _⟩
      rw [List.length_map] at hk
      omega
def spCell_at (K : PySem.W.Frag) : Sp := fun vs H Q _ => ∃ (a : Addr) (ns : List Int) (k : Int), vs = [.ref a, .int k] ∧ SqL K H a (ns.map V.int) ∧ 0 ≤ k ∧ Q (.int (ns.getD k.toNat 0)) H
theorem ok_l_cell_at (T : Top K mg) : FnOk P w K mg base CX0 1 T.f_l_cell_at T.d_l_cell_at ["_law_script", "_law_k"] (spCell_at K) := by
  refine T.F_l_cell_at.ok sc_l_cell_at (fun vs H Q E h => ?_) (fun cdv A outer s H vs Q E hr h => ?_)
  · obtain ⟨a, ns, k, rfl, _⟩ := h; rfl
  · obtain ⟨a, ns, k, rfl, hS, hk, q⟩ := h
    refine ⟨_, (pss_cons (ps_if (pt_cmpR op_lt (pv 1) (pe_callB call_len_seq (by rfl) T.m_len (by decide +kernel) (pa_cons (pv 0) pa_nil)) (nomark _)) (pss_one (ps_ret (pe_ix (ix_listA (K := K) rfl) (pv 0) (pv 1) (fun _ _ => rfl)))) pss_nil)
      (pss_one (ps_ret pe_int))), ?_⟩
    refine seq_step ?_
    walk_at "rd"
    refine ⟨_, .inl hS, ite_d (fun c => ?_) (fun c => ?_)⟩
    · rw [List.length_map] at c
      have hl : k.toNat < ns.length := by omega
      refine ⟨a, _, k, .int (ns[k.toNat]), rfl, rfl, hS, at_of (j := k.toNat) (by omega) (by rw [List.getElem?_map, List.getElem?_eq_getElem hl]; rfl), ?_⟩
      rw [List.getD_eq_getElem?_getD, List.getElem?_eq_getElem hl] at q
      exact q
    · rw [List.length_map] at c
      rw [List.getD_eq_getElem?_getD, List.getElem?_eq_none (by omega)] at q
      exact q
def spStream (K : PySem.W.Frag) : Sp := fun vs H Q _ => ∃ (c : Int) (m : Nat), vs = [.int c, .int m] ∧ m ≤ 60 ∧ ∀ (p : Addr) (H' : Hp) (xs : List Int), Same H H' → H p = none → H' p = some (.lst (xs.map V.int)) → xs.length = m → (∀ x ∈ xs, 0 ≤ x ∧ Sz 150 x) → Q (.ref p) H'
theorem ok_l_stream (T : Top K mg) : FnOk P w K mg base CX0 1 T.f_l_stream T.d_l_stream ["_law_cell", "_law_many"] (spStream K) := by
  refine T.F_l_stream.ok sc_l_stream (fun vs H Q E h => ?_) (fun cdv A outer s H vs Q E hr h => ?_)
  · obtain ⟨c, m, rfl, _⟩ := h; rfl
  · obtain ⟨c, m, rfl, hm, q⟩ := h
    refine ⟨_, (pss_cons (ps_set (i := 2) sc_l_stream.nd rfl (.inl rfl) (pe_lstN pa_nil))
      (pss_cons (ps_if (pt_cmpR op_ge (pv 0) (pe_op op_pow pe_int pe_int) (nomark _)) (pss_cons (ps_set (i := 3) sc_l_stream.nd rfl (.inl rfl) (pe_op op_sub (pv 0) (pe_op op_pow pe_int pe_int)))
      (pss_cons (ps_for PassesOwn.never rfl (pi_range1 (by rfl) T.m_range (pa_cons (pv 1) pa_nil)) (pg_name (i := 4) sc_l_stream.nd rfl (.inl rfl)) (pss_cons (ps_expr (pe_bm PySem.F.plainAttrs_list PySem.F.slot_list_append PySem.F.type_list_append mt_append (pv 2) (pa_cons (pe_op op_modN (pv 3) (pe_op op_pow pe_int pe_int)) pa_nil)))
      (pss_one (ps_set (i := 3) sc_l_stream.nd rfl (.inl rfl) (pe_op op_fdivZ (pv 3) (pe_op op_pow pe_int pe_int))))))
      (pss_one (ps_ret (pv 2))))) pss_nil)
      (pss_cons (ps_set (i := 5) sc_l_stream.nd rfl (.inl rfl) (pe_op op_add (pe_op op_modN (pv 0) (pe_op op_add (pe_op op_pow pe_int pe_int) pe_int)) pe_int))
      (pss_cons (ps_for PassesOwn.never rfl (pi_range1 (by rfl) T.m_range (pa_cons (pe_op op_add (pv 1) pe_int) pa_nil)) (pg_name (i := 4) sc_l_stream.nd rfl (.inl rfl)) (pss_cons (ps_set (i := 5) sc_l_stream.nd rfl (.inl rfl) (pe_op op_modN (pe_op op_add (pe_op op_add (pe_op op_mulW (pv 5) (pv 5)) (pe_op op_mulW pe_int (pv 5))) (pv 4)) (pe_op op_add (pe_op op_pow pe_int pe_int) pe_int)))
      (pss_one (ps_expr (pe_bm PySem.F.plainAttrs_list PySem.F.slot_list_append PySem.F.type_list_append mt_append (pv 2) (pa_cons (pv 5) pa_nil))))))
      (pss_one (ps_ret (pe_slice (sl_listA (K := K) rfl) (pv 2) (po_some pe_int) po_none))))))), ?_⟩
    refine seq_step ?_
    walk_at "rd"
    intro l H1 s1 fl e1
    refine seq_step ?_
    walk_at "rd"
    refine ite_d (fun _ => ?_) (fun _ => ?_)
    · refine seq_step ?_
      walk_at "rd"
      refine seq_step ?_
      refine for_rg ?_
      walk_at "rd"
      refine ⟨(rg_ok (by omega)).1, (rg_ok (by omega)).2, ?_⟩
      rw [Int.toNat_natCast]
      refine forR_by (fun i σ' H' => ∃ (r : Int) (v4 : Option V) (xs : List Int), σ' = [some (.int c), some (.int m), some (.ref l), some (.int r), v4, none] ∧ Same H H' ∧ H' l = some (.lst (xs.map V.int)) ∧ xs.length = i ∧ ∀ x ∈ xs, 0 ≤ x ∧ Sz 150 x) ⟨_, _, [], rfl, s1, e1, rfl, fun x h => by cases h⟩ ?_ ?_
      · rintro i σ' H2 hi ⟨r, v4, xs, rfl, s2, el, hl, hx⟩
        walk_at "rd"
        refine seq_step ?_
        refine ⟨.ref l, rfl, .inl ⟨rfl, _, .of el⟩, ?_⟩
        walk_at "rd"
        refine app_at el (by rw [List.length_map]; omega) ?_
        walk_at "rd"
        have f := fm_pos (c := r) (m := 1000000000000000000000000000000000000000000000) (by decide)
        refine ⟨same_updN fl s2, xs ++ [r.fmod 1000000000000000000000000000000000000000000000], by rw [upd_same, List.map_append]; rfl, by simp [hl], fun x hx' => ?_⟩
        rcases List.mem_append.mp hx' with h | h
        · exact hx x h
        · have : x = r.fmod 1000000000000000000000000000000000000000000000 := by simpa using h
          rw [this]
          exact ⟨f.1, Sz.nn f.1 (Int.le_of_lt f.2) (by unfold Sz; decide +kernel)⟩
      · rintro σ' H2 ⟨r, v4, xs, rfl, s2, el, hl, hx⟩
        walk_at "rd"
        exact q l H2 xs s2 fl el hl hx
    · refine seq_step ?_
      walk_at "rd"
      have f0 := fm_pos (c := c) (m := 1000000000000000009) (by decide)
      refine seq_step ?_
      refine for_rg ?_
      walk_at "rd"
      refine ⟨by omega, by omega, ?_⟩
      rw [show ((m : Int) + 2).toNat = m + 2 by omega]
      refine forR_by (fun i σ' H' => ∃ (r : Int) (v4 : Option V) (xs : List Int), σ' = [some (.int c), some (.int m), some (.ref l), none, v4, some (.int r)] ∧ 0 ≤ r ∧ Sz 62 r ∧ Same H H' ∧ H' l = some (.lst (xs.map V.int)) ∧ xs.length = i ∧ ∀ x ∈ xs, 0 ≤ x ∧ Sz 150 x) ⟨_, _, [], rfl, by omega, by unfold Sz; omega, s1, e1, rfl, fun x h => by cases h⟩ ?_ ?_
      · rintro i σ' H2 hi ⟨r, v4, xs, rfl, r0, sr, s2, el, hl, hx⟩
        walk_at "rd"
        refine seq_step ?_
        walk_at "rd"
        refine ⟨sr.mulW sr (by omega), Sz.mulW (a := 20) (by unfold Sz; decide) sr (by omega), ?_⟩
        have f := fm_pos (c := r * r + 48271 * r + i) (m := 1000000000000000009) (by decide)
        generalize (r * r + 48271 * r + i).fmod 1000000000000000009 = r2 at *
        refine ⟨.ref l, rfl, .inl ⟨rfl, _, .of el⟩, ?_⟩
        walk_at "rd"
        refine app_at el (by rw [List.length_map]; omega) ?_
        walk_at "rd"
        refine ⟨f.1, by unfold Sz; omega, same_updN fl s2, xs ++ [r2], by rw [upd_same, List.map_append]; rfl, by simp [hl], fun x hx' => ?_⟩
        rcases List.mem_append.mp hx' with h | h
        · exact hx x h
        · have : x = r2 := by simpa using h
          rw [this]
          exact ⟨f.1, by unfold Sz; omega⟩
      · rintro σ' H2 ⟨r, v4, xs, rfl, r0, sr, s2, el, hl, hx⟩
        walk_at "rd"
        refine ⟨_, .of el, fun p2 H3 s3 f3 e3 => ?_⟩
        have ec : cutV (xs.map V.int) (some 2) none = (xs.drop 2).map V.int := by
          rw [List.map_drop]
          exact cut_from (k := 2) (by rw [List.length_map]; omega)
        rw [ec] at e3
        exact q p2 H3 (xs.drop 2) (s2.trans s3) (s2.free f3) e3 (by rw [List.length_drop]; omega) fun x h => hx x (List.mem_of_mem_drop h)
theorem ok_l_names (T : Top K mg) : FnOk P w K mg base CX0 1 T.f_l_names T.d_l_names ["_law_cell", "_law_many"] spNames := by
  refine T.F_l_names.ok sc_l_names (fun vs H Q E h => ?_) (fun cdv A outer s H vs Q E hr h => ?_)
  · obtain ⟨c, m, rfl, _⟩ := h; rfl
  · obtain ⟨cell, many, rfl, hm, q⟩ := h
    refine ⟨_, (pss_cons (ps_set (i := 2) sc_l_names.nd rfl (.inr rfl) pe_str)
      (pss_cons (ps_set (i := 3) sc_l_names.nd rfl (.inl rfl) (pe_op op_add pe_int (pe_op op_modN (pv 0) pe_int)))
      (pss_cons (ps_set (i := 4) sc_l_names.nd rfl (.inl rfl) (pe_op op_modN (pe_op op_modN (pe_op op_fdivZ (pv 0) pe_int) pe_int) (pv 3)))
      (pss_cons (ps_set (i := 5) sc_l_names.nd rfl (.inl rfl) (pe_lstN pa_nil))
      (pss_cons (ps_for PassesOwn.never rfl (pi_range1 (by rfl) T.m_range (pa_cons (pv 1) pa_nil)) (pg_name (i := 6) sc_l_names.nd rfl (.inl rfl)) (pss_cons (lc_vsS (vs := [8]) (ps_setLc (i := 7) (own := [("_law_j", 8)]) (g := gName 8) (tt := tYes) rfl sc_l_names.nd rfl rfl (sw_true rfl rfl rfl (by decide +kernel)) (pi_range1 (by rfl) T.m_range (pa_cons (pv 3) pa_nil)) (blkOk_by (own := [("_law_j", 8)]) (N := ["_law_cell", "_law_many", "_law_letters", "_law_size", "_law_at", "_law_names_here", "_law_k", "_law_word", "_law_j"]) (sc := defScope s_l_names) (by decide +kernel)) (fun _ _ _ _ _ => (pg_name (i := 8) sc_l_names.nd rfl (.inl rfl))) (fun _ _ _ _ _ => pts_nil) (fun _ _ _ _ _ => (pe_ix ix_str (pv 2) (pe_op op_modN (pe_op op_fdivZ (pv 0) (pe_op op_add pe_int (pe_op op_mulW pe_int (pv 8)))) pe_int) (fun _ _ => rfl)))) rfl)
      (pss_cons (ps_asg (pe_ix ix_str (pv 2) (pe_op op_modN (pe_op op_add (pe_op op_fdivZ (pv 0) pe_int) (pv 6)) pe_int) (fun _ _ => rfl)) (pg_sub (pv 7) (pv 4) set_list))
      (pss_one (ps_expr (pe_bm PySem.F.plainAttrs_list PySem.F.slot_list_append PySem.F.type_list_append mt_append (pv 5) (pa_cons (pe_join pe_str (pv 7)) pa_nil)))))))
      (pss_one (ps_ret (pv 5)))))))), ?_⟩
    refine seq_step ?_
    walk_at "rt"
    refine seq_step ?_
    walk_at "rt"
    refine seq_step ?_
    walk_at "rt"
    have m8 := fm_pos (c := cell) (m := 8) (by decide)
    refine ⟨by omega, ?_⟩
    generalize hsz : 1 + cell.fmod 8 = szI at *
    generalize hat : Int.fmod _ szI = atv
    have at0 : 0 ≤ atv ∧ atv < szI := by rw [← hat]; exact fm_pos (by omega)
    refine seq_step ?_
    walk_at "rd"
    intro l H1 s1 f1 e1
    refine seq_step ?_
    refine for_rg ?_
    walk_at "rd"
    refine ⟨(rg_ok (by omega)).1, (rg_ok (by omega)).2, ?_⟩
    rw [Int.toNat_natCast]
    obtain ⟨sz, rfl⟩ : ∃ n : Nat, szI = (n : Int) := ⟨szI.toNat, by omega⟩
    obtain ⟨av, rfl⟩ : ∃ n : Nat, atv = (n : Int) := ⟨atv.toNat, by omega⟩
    have fr : ∀ j : Nat, 0 ≤ (cell.fdiv (6720 + 31 * (j : Int))).fmod 26 ∧ (cell.fdiv (6720 + 31 * (j : Int))).fmod 26 < 26 := fun j => fm_pos (by decide)
    have nok : NamesOk ((List.range many).map fun k : Nat => txt (nmC sz av (fun j => (cell.fdiv (6720 + 31 * (j : Int))).fmod 26) ((cell.fdiv 6720 + (k : Int)).fmod 26))) many := names_ok (by omega) (by omega) (by omega) hm fr
    generalize hF : (fun k : Nat => txt (nmC sz av (fun j => (cell.fdiv (6720 + 31 * (j : Int))).fmod 26) ((cell.fdiv 6720 + (k : Int)).fmod 26))) = F at nok
    refine forR_by (fun i σ' H' => (∃ v6 v7 v8, σ' = [some (.int cell), some (.int many), some (.str letters), some (.int sz), some (.int av), some (.ref l), v6, v7, v8]) ∧ Same H H' ∧ H' l = some (.lst (((List.range i).map F).map V.str))) ⟨⟨_, _, _, rfl⟩, s1, e1⟩ ?_ ?_
    · rintro i σ' H2 hi ⟨⟨v6, v7, v8, rfl⟩, s2, e2⟩
      walk_at "rd"
      refine seq_step ?_
      refine lcr_src ?_
      walk_at "rd"
      refine ⟨(rg_ok (by omega)).1, (rg_ok (by omega)).2, ?_⟩
      rw [Int.toNat_natCast]
      refine lcRM (F := fun j => V.str (one (lett ((cell.fdiv (6720 + 31 * (j : Int))).fmod 26)))) (by omega) (fun j H3 Yes hj s3 hy => ?_) (fun wl H3 s3 f3 e3 => ?_)
      · walk_at "rd"
        refine ⟨Sz.mulW (a := 8) (b := 8) (by show (31 : Int).natAbs < 2 ^ 8; decide) (by show (j : Int).natAbs < 2 ^ 8; omega) (by decide), .of (n := 16) (by omega) (by show (6720 + 31 * (j : Int)).natAbs < 2 ^ 16; omega) (by decide), ?_⟩
        exact ⟨letters, _, _, rfl, rfl, small1000' (by decide +kernel), lett_at (fr j), hy _ (Same.refl _)⟩
      · walk_at "rd"
        refine seq_step ?_
        walk_at "rd"
        have fg : 0 ≤ (cell.fdiv 6720 + (i : Int)).fmod 26 ∧ (cell.fdiv 6720 + (i : Int)).fmod 26 < 26 := fm_pos (by decide)
        refine ⟨letters, _, _, rfl, rfl, small1000' (by decide +kernel), lett_at fg, ?_⟩
        walk_at "rd"
        refine ⟨wl, _, _, av, rfl, rfl, e3, (by rw [List.length_map, List.length_range]; unfold ixN; rw [if_pos (by omega), if_pos (by omega)]; simp), ?_⟩
        rw [show (V.str { cps := #[lett ((cell.fdiv 6720 + (i : Int)).fmod 26)] }) = V.str (one (lett ((cell.fdiv 6720 + (i : Int)).fmod 26))) from rfl, nmC_vals]
        have lw : l ≠ wl := fun z => by rw [← z, e2] at f3; cases f3
        refine ⟨_, rfl, .inl ⟨rfl, _, .of (by rw [upd_ne lw]; exact s3 _ _ e2)⟩, ?_⟩
        walk_at "rd"
        refine ⟨⟨_, rfl⟩, _, rfl, _, rfl, wl, rfl, _, .inl (.of upd_same), ?_, ?_⟩
        · rw [sum_one, nmC_len, List.length_map, nmC_len]
          have : (Str.ofString "").length = 0 := by decide +kernel
          rw [this]; omega
        · rw [join_one]
          walk_at "rd"
          refine app_at (by rw [upd_ne lw]; exact s3 _ _ e2) (by rw [List.length_map, List.length_map, List.length_range]; omega) ?_
          walk_at "rd"
          refine ⟨⟨_, rfl⟩, same_updN f1 (same_updN (s2.free f3) (s2.trans s3)), ?_⟩
          rw [upd_same, List.range_succ, List.map_append, List.map_append]
          subst hF
          rfl
    · rintro σ' H2 ⟨⟨v6, v7, v8, rfl⟩, s2, e2⟩
      walk_at "rd"
      exact q l H2 _ s2 f1 e2 nok
def SzL (ls : List Lq) : Prop := ∀ l ∈ ls, Sz 250 (numOf l.2.2)
def NumsB (b : Nat) (ls : List Lq) : Prop := ∀ l ∈ ls, ∃ n : Int, l.2.2 = .int n ∧ 0 ≤ n ∧ Sz b n
theorem NumsB.ok {b : Nat} {ls : List Lq} (h : NumsB b ls) (k : b ≤ 210) : NumsOk ls := fun l hl => by
  obtain ⟨n, e, n0, sz⟩ := h l hl
  exact ⟨n, e, n0, sz.mono k⟩
theorem NumsB.szl {b : Nat} {ls : List Lq} (h : NumsB b ls) (k : b ≤ 250) : SzL ls := fun l hl => by
  obtain ⟨n, e, _, sz⟩ := h l hl
  rw [e]; exact sz.mono k
def spLNumber : Sp := fun vs H Q _ => ∃ (x unit : Int) (b : Nat), vs = [.int x, .int unit] ∧ b ≤ 215 ∧ 0 ≤ unit ∧ Sz b unit ∧ ∀ (n : Int) (H' : Hp), Same H H' → 0 ≤ n → Sz (b + 20) n → Q (.int n) H'
theorem ok_l_number (T : Top K mg) : FnOk P w K mg base CX0 1 T.f_l_number T.d_l_number ["_law_x", "_law_unit"] spLNumber := by
  refine T.F_l_number.ok sc_l_number (fun vs H Q E h => ?_) (fun cdv A outer s H vs Q E hr h => ?_)
  · obtain ⟨x, unit, b, rfl, _⟩ := h; rfl
  · obtain ⟨x, unit, b, rfl, b215, hu, su, q⟩ := h
    refine ⟨_, (pss_one (ps_ret (pe_op op_add (pe_op op_mulW (pv 1) (pe_op op_modN (pv 0) pe_int)) (pe_ix (ix_listA (K := K) rfl) (pe_lstN (pa_cons pe_int (pa_cons pe_int (pa_cons pe_int (pa_cons (pe_op op_add pe_int (pe_op op_modN (pe_op op_fdivZ (pv 0) pe_int) pe_int)) pa_nil))))) (pe_op op_modN (pe_op op_fdivZ (pv 0) pe_int) pe_int) (fun _ _ => rfl))))), ?_⟩
    have m7 := fm_pos (c := x) (m := 7) (by decide)
    have m4 := fm_pos (c := x.fdiv 7) (m := 4) (by decide)
    have m3 := fm_pos (c := x.fdiv 28) (m := 3) (by decide)
    have s7 : Sz 3 (x.fmod 7) := by show (x.fmod 7).natAbs < 2 ^ 3; omega
    have sm : Sz (b + 3) (unit * x.fmod 7) := Sz.mul su s7 (Nat.le_refl _)
    have n0 : 0 ≤ unit * x.fmod 7 := Int.mul_nonneg hu m7.1
    walk_at "rd"
    refine ⟨Sz.mulW su s7 (by omega), fun l H1 s1 f1 e1 => ?_⟩
    generalize x.fmod 7 = r7 at *
    generalize (x.fdiv 7).fmod 4 = r4 at *
    generalize (x.fdiv 28).fmod 3 = r3 at *
    have key : ∃ z : Int, [V.int 0, V.int 0, V.int 0, V.int (1 + r3)][r4.toNat]? = some (.int z) ∧ 0 ≤ z ∧ z ≤ 3 := by
      obtain rfl | rfl | rfl | rfl : r4 = 0 ∨ r4 = 1 ∨ r4 = 2 ∨ r4 = 3 := by omega
      · exact ⟨_, rfl, by omega, by omega⟩
      · exact ⟨_, rfl, by omega, by omega⟩
      · exact ⟨_, rfl, by omega, by omega⟩
      · exact ⟨_, rfl, by omega, by omega⟩
    obtain ⟨z, hz, z0, z3⟩ := key
    refine ix_l (.of e1) m4.1 hz ?_
    walk_at "rd"
    exact q _ _ s1 (by omega) (Sz.add sm (show Sz 3 z by show z.natAbs < 2 ^ 3; omega) (by omega) (by omega))
def spLGuard (ws : List Str) (most : Nat) : Sp := fun vs H Q _ => ∃ (px pw : Addr) (xs : List Int) (unit : Int) (watches : List Str) (b : Nat), vs = [.ref px, .int unit, .ref pw] ∧ b ≤ 215 ∧ H px = some (.lst (xs.map V.int)) ∧ 5 ≤ xs.length ∧ xs.length ≤ 60 ∧ H pw = some (.lst (watches.map V.str)) ∧ NamesOk watches watches.length ∧ watches.length ≤ 7 ∧ 0 ≤ unit ∧ Sz b unit ∧
  ∀ (q : Addr) (H' : Hp) (ls : List Lq), Same H H' → H q = none → LsAt (newH H H') q ls → ls.length ≤ most → guardOk ws watches ls = true → NumsB (b + 22) ls → Q (.ref q) H'
theorem ok_l_guard (T : Top K mg) : FnOk P w K mg base CX0 2 T.f_l_guard T.d_l_guard ["_law_xs", "_law_unit", "_law_watches"] (spLGuard WORDS 2) := by
  refine T.F_l_guard.ok sc_l_guard (fun vs H Q E h => ?_) (fun cdv A outer s H vs Q E hr h => ?_)
  · obtain ⟨px, pw, xs, unit, watches, b, rfl, _⟩ := h; rfl
  · obtain ⟨px, pw, xs, unit, watches, b, rfl, b215, hx, x5, x60, hw, wok, w7, u0, su, q⟩ := h
    refine ⟨_, (pss_cons (ps_set (i := 3) sc_l_guard.nd rfl (.inl rfl) (pe_lstN pa_nil))
      (pss_cons (ps_for PassesOwn.never rfl (pi_range1 (by rfl) T.m_range (pa_cons (pe_ix (ix_listA (K := K) rfl) (pe_lstN (pa_cons pe_int (pa_cons pe_int (pa_cons pe_int (pa_cons pe_int pa_nil))))) (pe_op op_modN (pe_ix (ix_listA (K := K) rfl) (pv 0) pe_int (fun _ _ => rfl)) pe_int) (fun _ _ => rfl)) pa_nil)) (pg_name (i := 4) sc_l_guard.nd rfl (.inl rfl)) (pss_one (ps_if (pt_cmpR (op_neD hr.units) (pv 2) (pe_lstN pa_nil) (nomark _)) (pss_cons (ps_set (i := 5) sc_l_guard.nd rfl (.inl rfl) (pe_ix (ix_listA (K := K) rfl) (pe_lstN (pa_cons pe_str (pa_cons pe_str (pa_cons pe_str (pa_cons pe_str (pa_cons pe_str (pa_cons pe_str pa_nil))))))) (pe_op op_modN (pe_op op_fdivZ (pe_ix (ix_listA (K := K) rfl) (pv 0) (pe_op op_add pe_int (pe_op op_mulW pe_int (pv 4))) (fun _ _ => rfl)) pe_int) pe_int) (fun _ _ => rfl)))
      (pss_one (ps_expr (pe_bm PySem.F.plainAttrs_list PySem.F.slot_list_append PySem.F.type_list_append mt_append (pv 3) (pa_cons (pe_tupN (pa_cons (pe_ix (ix_listA (K := K) rfl) (pv 2) (pe_op op_modN (pe_ix (ix_listA (K := K) rfl) (pv 0) (pe_op op_add pe_int (pe_op op_mulW pe_int (pv 4))) (fun _ _ => rfl)) (pe_callB call_len_seq (by rfl) T.m_len (by decide +kernel) (pa_cons (pv 2) pa_nil))) (fun _ _ => rfl)) (pa_cons (pv 5) (pa_cons (pe_call (ok_l_number T) (hr.mono (by decide)) rfl T.g_l_number T.F_l_number.kp T.b_l_number .nil pass0 (pa_cons (pe_ix (ix_listA (K := K) rfl) (pv 0) (pe_op op_add pe_int (pe_op op_mulW pe_int (pv 4))) (fun _ _ => rfl)) (pa_cons (pv 1) pa_nil))) pa_nil)))) pa_nil))))) pss_nil)))
      (pss_one (ps_ret (pv 3))))), ?_⟩
    have xat : ∀ i : Nat, i < 5 → ∃ v : Int, (xs.map V.int)[i]? = some (.int v) := fun i h => ⟨xs[i], by rw [List.getElem?_map, List.getElem?_eq_getElem (by omega)]; rfl⟩
    refine seq_step ?_
    walk_at "rd"
    intro g H1 s1 f1 e1
    refine seq_step ?_
    refine for_rg ?_
    walk_at "rd"
    intro l H2 s2 f2 e2
    obtain ⟨x0, h0⟩ := xat 0 (by omega)
    refine ix_l (.of ((s1.trans s2) _ _ hx)) (by decide) h0 ?_
    walk_at "rd"
    have m4 := fm_pos (c := x0) (m := 4) (by decide)
    generalize x0.fmod 4 = r4 at *
    obtain ⟨n, hn, n2⟩ : ∃ n : Nat, [V.int 0, V.int 1, V.int 1, V.int 2][r4.toNat]? = some (.int (n : Int)) ∧ n ≤ 2 := by
      obtain rfl | rfl | rfl | rfl : r4 = 0 ∨ r4 = 1 ∨ r4 = 2 ∨ r4 = 3 := by omega
      · exact ⟨0, rfl, by omega⟩
      · exact ⟨1, rfl, by omega⟩
      · exact ⟨1, rfl, by omega⟩
      · exact ⟨2, rfl, by omega⟩
    refine ix_l (.of e2) m4.1 hn ?_
    walk_at "rd"
    refine ⟨(rg_ok (by omega)).1, (rg_ok (by omega)).2, ?_⟩
    rw [Int.toNat_natCast]
    have s12 := s1.trans s2
    refine forR_by (fun i σ' H' => (∃ v4 v5, σ' = [some (.ref px), some (.int unit), some (.ref pw), some (.ref g), v4, v5]) ∧ Same H H' ∧ ∃ ls, SeqD LqAt (newH H H') g ls ∧ ls.length ≤ i ∧ guardOk WORDS watches ls = true ∧ NumsB (b + 22) ls) ⟨⟨_, _, rfl⟩, s12, [], SeqD.nil (new_at f1 (s2 _ _ e1)), by simp, rfl, fun l h => by cases h⟩ ?_ ?_
    · rintro i σ' H' hi ⟨⟨v4, v5, rfl⟩, s', ls, sd, ll, gk, nk⟩
      walk_at "rd"
      intro l3 H3 s3 f3 e3
      have sh := s'.trans s3
      refine ⟨_, _, names_dp (sh _ _ hw), .lst (.of e3) .nil, shaped_xs fun x h => okName_tx (wok.2.1 x h), rfl, ?_⟩
      by_cases we : watches = []
      · subst we
        walk_at "rd"
        exact ⟨⟨_, rfl⟩, sh, ls, sd.keep lqKeep (new_later s3), by omega, gk, nk⟩
      · have ne : PyData.eqv (.list (watches.map PyData.str)) (.list []) = false := by
          cases watches with
          | nil => exact absurd rfl we
          | cons r rs => rfl
        rw [ne]
        walk_at "rd"
        have wl : 0 < watches.length := List.length_pos_iff.mpr we
        have cm : CMulW 2 (i : Int) := Sz.mulW (a := 8) (b := 8) (by show (2 : Int).natAbs < 2 ^ 8; decide) (by show (i : Int).natAbs < 2 ^ 8; omega) (by decide)
        obtain ⟨v1, hv1⟩ := xat (1 + 2 * i) (by omega)
        obtain ⟨v2, hv2⟩ := xat (2 + 2 * i) (by omega)
        refine seq_step ?_
        walk_at "rd"
        intro l4 H4 s4 f4 e4
        have sh4 := sh.trans s4
        refine ⟨cm, ?_⟩
        refine ix_l (.of (sh4 _ _ hx)) (by omega) (by rw [show (1 + 2 * (i : Int)).toNat = 1 + 2 * i by omega]; exact hv1) ?_
        walk_at "rd"
        have m6 := fm_pos (c := v1.fdiv 8) (m := 6) (by decide)
        obtain ⟨wd, hwd, hwm⟩ := pick_word (ws := ["<", "<=", ">", ">=", ">=", "="]) (i := (v1.fdiv 8).fmod 6) m6
        have hwm : wd ∈ WORDS := (by decide +kernel : ∀ x ∈ (["<", "<=", ">", ">=", ">=", "="] : List Str), x ∈ WORDS) wd hwm
        refine ix_l (.of e4) m6.1 hwd ?_
        walk_at "rd"
        have sd4 := sd.keep lqKeep (new_later (H := H) (s3.trans s4))
        obtain ⟨gqs, gq1, _⟩ := id sd4
        refine ⟨_, rfl, .inl ⟨rfl, _, .of (new_of gq1).2⟩, ?_⟩
        walk_at "rd"
        refine ⟨cm, ?_⟩
        refine ix_l (.of (sh4 _ _ hx)) (by omega) (by rw [show (1 + 2 * (i : Int)).toNat = 1 + 2 * i by omega]; exact hv1) ?_
        walk_at "rd"
        refine ⟨_, .inl (.of (sh4 _ _ hw)), ?_⟩
        rw [List.length_map]
        refine ⟨by omega, ?_⟩
        have mw := fm_pos (c := v1) (m := (watches.length : Int)) (by omega)
        obtain ⟨wn, hwn, hwnm⟩ := pick_word (ws := watches) mw
        refine ix_l (.of (sh4 _ _ hw)) mw.1 hwn ?_
        walk_at "rd"
        refine ⟨cm, ?_⟩
        refine ix_l (.of (sh4 _ _ hx)) (by omega) (by rw [show (2 + 2 * (i : Int)).toNat = 2 + 2 * i by omega]; exact hv2) ?_
        walk_at "rd"
        refine ⟨_, _, b, rfl, b215, u0, su, fun n H5 s5 n0 sn => ?_⟩
        walk_at "rd"
        intro tq H6 s6 f6 e6
        have s46 := s5.trans s6
        have sh6 := sh4.trans s46
        have sd6 := sd4.keep lqKeep (new_later (H := H) s46)
        have tg : tq ≠ g := fun z => by
          rw [z, s5 _ _ (new_of gq1).2] at f6; cases f6
        obtain ⟨items, it1, it2, it3⟩ := sd6.app lqKeep (x := (wn, wd, V.int n)) ⟨del_at tg (new_at ((sh4.trans s5).free f6) e6), rfl⟩
        refine app_at (new_of it1).2 (by omega) ?_
        walk_at "rd"
        rw [← new_upd f1] at it3
        refine ⟨⟨_, rfl⟩, same_updN f1 sh6, _, it3, by rw [List.length_append, List.length_singleton]; omega, ?_, ?_⟩
        · show (ls ++ [(wn, wd, V.int n)]).all (lookOk WORDS watches) = true
          rw [List.all_append, show ls.all (lookOk WORDS watches) = true from gk]
          simp only [List.all_cons, List.all_nil, Bool.and_true, Bool.true_and]
          unfold lookOk numOk
          simp only [decide_eq_true hwnm, decide_eq_true hwm, decide_eq_true n0, Bool.and_true]
        · intro l hl
          rcases List.mem_append.mp hl with h | h
          · exact nk l h
          · have : l = (wn, wd, V.int n) := by simpa using h
            subst this
            exact ⟨n, rfl, n0, sn.mono (by omega)⟩
    · rintro σ' H' ⟨⟨v4, v5, rfl⟩, s', ls, sd, ll, gk, nk⟩
      walk_at "rd"
      exact q g H' ls s' f1 (sd.seq lqKeep) (by omega) gk nk
theorem ok_l_stay (T : Top K mg) : FnOk P w K mg base CX0 2 T.f_l_stay T.d_l_stay ["_law_xs", "_law_unit", "_law_watches"] (spLGuard ["<", "<="] 2) := by
  refine T.F_l_stay.ok sc_l_stay (fun vs H Q E h => ?_) (fun cdv A outer s H vs Q E hr h => ?_)
  · obtain ⟨px, pw, xs, unit, watches, b, rfl, _⟩ := h; rfl
  · obtain ⟨px, pw, xs, unit, watches, b, rfl, b215, hx, x5, x60, hw, wok, w7, u0, su, q⟩ := h
    refine ⟨_, (pss_cons (ps_set (i := 3) sc_l_stay.nd rfl (.inl rfl) (pe_lstN pa_nil))
      (pss_cons (ps_for PassesOwn.never rfl (pi_range1 (by rfl) T.m_range (pa_cons (pe_ix (ix_listA (K := K) rfl) (pe_lstN (pa_cons pe_int (pa_cons pe_int (pa_cons pe_int (pa_cons pe_int pa_nil))))) (pe_op op_modN (pe_ix (ix_listA (K := K) rfl) (pv 0) pe_int (fun _ _ => rfl)) pe_int) (fun _ _ => rfl)) pa_nil)) (pg_name (i := 4) sc_l_stay.nd rfl (.inl rfl)) (pss_one (ps_if (pt_cmpR (op_neD hr.units) (pv 2) (pe_lstN pa_nil) (nomark _)) (pss_cons (ps_set (i := 5) sc_l_stay.nd rfl (.inl rfl) (pe_op op_add (pe_call (ok_l_number T) (hr.mono (by decide)) rfl T.g_l_number T.F_l_number.kp T.b_l_number .nil pass0 (pa_cons (pe_ix (ix_listA (K := K) rfl) (pv 0) (pe_op op_add pe_int (pe_op op_mulW pe_int (pv 4))) (fun _ _ => rfl)) (pa_cons (pv 1) pa_nil))) (pe_op op_mulW (pv 1) (pe_op op_sub pe_int (pe_op op_fdivZ (pe_op op_modN (pe_op op_fdivZ (pe_ix (ix_listA (K := K) rfl) (pv 0) pe_int (fun _ _ => rfl)) pe_int) pe_int) pe_int)))))
      (pss_one (ps_expr (pe_bm PySem.F.plainAttrs_list PySem.F.slot_list_append PySem.F.type_list_append mt_append (pv 3) (pa_cons (pe_tupN (pa_cons (pe_ix (ix_listA (K := K) rfl) (pv 2) (pe_op op_modN (pe_ix (ix_listA (K := K) rfl) (pv 0) (pe_op op_add pe_int (pe_op op_mulW pe_int (pv 4))) (fun _ _ => rfl)) (pe_callB call_len_seq (by rfl) T.m_len (by decide +kernel) (pa_cons (pv 2) pa_nil))) (fun _ _ => rfl)) (pa_cons (pe_ix (ix_listA (K := K) rfl) (pe_lstN (pa_cons pe_str (pa_cons pe_str pa_nil))) (pe_op op_modN (pe_op op_fdivZ (pe_ix (ix_listA (K := K) rfl) (pv 0) (pe_op op_add pe_int (pe_op op_mulW pe_int (pv 4))) (fun _ _ => rfl)) pe_int) pe_int) (fun _ _ => rfl)) (pa_cons (pv 5) pa_nil)))) pa_nil))))) pss_nil)))
      (pss_one (ps_ret (pv 3))))), ?_⟩
    have xat : ∀ i : Nat, i < 5 → ∃ v : Int, (xs.map V.int)[i]? = some (.int v) := fun i h => ⟨xs[i], by rw [List.getElem?_map, List.getElem?_eq_getElem (by omega)]; rfl⟩
    refine seq_step ?_
    walk_at "rd"
    intro g H1 s1 f1 e1
    refine seq_step ?_
    refine for_rg ?_
    walk_at "rd"
    intro l H2 s2 f2 e2
    obtain ⟨x0, h0⟩ := xat 0 (by omega)
    refine ix_l (.of ((s1.trans s2) _ _ hx)) (by decide) h0 ?_
    walk_at "rd"
    have m4 := fm_pos (c := x0) (m := 4) (by decide)
    generalize x0.fmod 4 = r4 at *
    obtain ⟨n, hn, n2⟩ : ∃ n : Nat, [V.int 0, V.int 0, V.int 1, V.int 2][r4.toNat]? = some (.int (n : Int)) ∧ n ≤ 2 := by
      obtain rfl | rfl | rfl | rfl : r4 = 0 ∨ r4 = 1 ∨ r4 = 2 ∨ r4 = 3 := by omega
      · exact ⟨0, rfl, by omega⟩
      · exact ⟨0, rfl, by omega⟩
      · exact ⟨1, rfl, by omega⟩
      · exact ⟨2, rfl, by omega⟩
    refine ix_l (.of e2) m4.1 hn ?_
    walk_at "rd"
    refine ⟨(rg_ok (by omega)).1, (rg_ok (by omega)).2, ?_⟩
    rw [Int.toNat_natCast]
    have s12 := s1.trans s2
    refine forR_by (fun i σ' H' => (∃ v4 v5, σ' = [some (.ref px), some (.int unit), some (.ref pw), some (.ref g), v4, v5]) ∧ Same H H' ∧ ∃ ls, SeqD LqAt (newH H H') g ls ∧ ls.length ≤ i ∧ guardOk ["<", "<="] watches ls = true ∧ NumsB (b + 22) ls) ⟨⟨_, _, rfl⟩, s12, [], SeqD.nil (new_at f1 (s2 _ _ e1)), by simp, rfl, fun l h => by cases h⟩ ?_ ?_
    · rintro i σ' H' hi ⟨⟨v4, v5, rfl⟩, s', ls, sd, ll, gk, nk⟩
      walk_at "rd"
      intro l3 H3 s3 f3 e3
      have sh := s'.trans s3
      refine ⟨_, _, names_dp (sh _ _ hw), .lst (.of e3) .nil, shaped_xs fun x h => okName_tx (wok.2.1 x h), rfl, ?_⟩
      by_cases we : watches = []
      · subst we
        walk_at "rd"
        exact ⟨⟨_, rfl⟩, sh, ls, sd.keep lqKeep (new_later s3), by omega, gk, nk⟩
      · have ne : PyData.eqv (.list (watches.map PyData.str)) (.list []) = false := by
          cases watches with
          | nil => exact absurd rfl we
          | cons r rs => rfl
        rw [ne]
        walk_at "rd"
        have wl : 0 < watches.length := List.length_pos_iff.mpr we
        have cm : CMulW 2 (i : Int) := Sz.mulW (a := 8) (b := 8) (by show (2 : Int).natAbs < 2 ^ 8; decide) (by show (i : Int).natAbs < 2 ^ 8; omega) (by decide)
        obtain ⟨v1, hv1⟩ := xat (1 + 2 * i) (by omega)
        obtain ⟨v2, hv2⟩ := xat (2 + 2 * i) (by omega)
        refine seq_step ?_
        walk_at "rd"
        refine ⟨cm, ?_⟩
        refine ix_l (.of (sh _ _ hx)) (by omega) (by rw [show (2 + 2 * (i : Int)).toNat = 2 + 2 * i by omega]; exact hv2) ?_
        walk_at "rd"
        refine ⟨_, _, b, rfl, b215, u0, su, fun n1 H4 s4 n10 sn1 => ?_⟩
        walk_at "rd"
        have sh4 := sh.trans s4
        refine ix_l (.of (sh4 _ _ hx)) (by decide) h0 ?_
        walk_at "rd"
        have m16 := fm_pos (c := x0.fdiv 4) (m := 16) (by decide)
        have d15 : 0 ≤ ((x0.fdiv 4).fmod 16).fdiv 15 ∧ ((x0.fdiv 4).fmod 16).fdiv 15 ≤ 1 := by
          rw [Int.fdiv_eq_ediv_of_nonneg _ (by decide)]
          omega
        have sn0 : Sz (b + 4) (unit * (1 - ((x0.fdiv 4).fmod 16).fdiv 15)) := Sz.mul su (show Sz 4 _ by show (1 - ((x0.fdiv 4).fmod 16).fdiv 15).natAbs < 2 ^ 4; omega) (by omega)
        have nn0 : 0 ≤ unit * (1 - ((x0.fdiv 4).fmod 16).fdiv 15) := Int.mul_nonneg u0 (by omega)
        refine ⟨Sz.mulW su (show Sz 4 _ by show (1 - ((x0.fdiv 4).fmod 16).fdiv 15).natAbs < 2 ^ 4; omega) (by omega), ?_⟩
        generalize hn : n1 + unit * (1 - ((x0.fdiv 4).fmod 16).fdiv 15) = n at *
        have n0 : 0 ≤ n := by omega
        have sn : Sz (b + 22) n := by rw [← hn]; exact Sz.add sn1 sn0 (by omega) (by omega)
        have sd4 := sd.keep lqKeep (new_later (H := H) (s3.trans s4))
        obtain ⟨gqs, gq1, _⟩ := id sd4
        refine ⟨_, rfl, .inl ⟨rfl, _, .of (new_of gq1).2⟩, ?_⟩
        walk_at "rd"
        refine ⟨cm, ?_⟩
        refine ix_l (.of (sh4 _ _ hx)) (by omega) (by rw [show (1 + 2 * (i : Int)).toNat = 1 + 2 * i by omega]; exact hv1) ?_
        walk_at "rd"
        refine ⟨_, .inl (.of (sh4 _ _ hw)), ?_⟩
        rw [List.length_map]
        refine ⟨by omega, ?_⟩
        have mw := fm_pos (c := v1) (m := (watches.length : Int)) (by omega)
        obtain ⟨wn, hwn, hwnm⟩ := pick_word (ws := watches) mw
        refine ix_l (.of (sh4 _ _ hw)) mw.1 hwn ?_
        walk_at "rd"
        intro l4 H5 s5 f5 e5
        have sh5 := sh4.trans s5
        refine ⟨cm, ?_⟩
        refine ix_l (.of (sh5 _ _ hx)) (by omega) (by rw [show (1 + 2 * (i : Int)).toNat = 1 + 2 * i by omega]; exact hv1) ?_
        walk_at "rd"
        have m2 := fm_pos (c := v1.fdiv 8) (m := 2) (by decide)
        obtain ⟨wd, hwd, hwdm⟩ := pick_word (ws := ["<", "<="]) (i := (v1.fdiv 8).fmod 2) m2
        refine ix_l (.of e5) m2.1 hwd ?_
        walk_at "rd"
        intro tq H6 s6 f6 e6
        have s46 := s5.trans s6
        have sh6 := sh4.trans s46
        have sd6 := sd4.keep lqKeep (new_later (H := H) s46)
        have tg : tq ≠ g := fun z => by
          rw [z, s5 _ _ (new_of gq1).2] at f6; cases f6
        obtain ⟨items, it1, it2, it3⟩ := sd6.app lqKeep (x := (wn, wd, V.int n)) ⟨del_at tg (new_at ((sh4.trans s5).free f6) e6), rfl⟩
        refine app_at (new_of it1).2 (by omega) ?_
        walk_at "rd"
        rw [← new_upd f1] at it3
        refine ⟨⟨_, rfl⟩, same_updN f1 sh6, _, it3, by rw [List.length_append, List.length_singleton]; omega, ?_, ?_⟩
        · show (ls ++ [(wn, wd, V.int n)]).all (lookOk ["<", "<="] watches) = true
          rw [List.all_append, show ls.all (lookOk ["<", "<="] watches) = true from gk]
          simp only [List.all_cons, List.all_nil, Bool.and_true, Bool.true_and]
          unfold lookOk numOk
          simp only [decide_eq_true hwnm, decide_eq_true hwdm, decide_eq_true n0, Bool.and_true]
        · intro l hl
          rcases List.mem_append.mp hl with h | h
          · exact nk l h
          · have : l = (wn, wd, V.int n) := by simpa using h
            subst this
            exact ⟨n, rfl, n0, sn.mono (by omega)⟩
    · rintro σ' H' ⟨⟨v4, v5, rfl⟩, s', ls, sd, ll, gk, nk⟩
      walk_at "rd"
      exact q g H' ls s' f1 (sd.seq lqKeep) (by omega) gk nk
theorem cut_nat {xs : List V} {a b : Nat} (h : a ≤ b) (hb : b ≤ xs.length) : cutV xs (some (a : Int)) (some (b : Int)) = (xs.drop a).take (b - a) := by
  unfold cutV
  rw [HT.sIx_nat, HT.sIx_nat, Nat.min_eq_left hb, Nat.min_eq_left (Nat.le_trans h hb)]
theorem fm_nodup {ws : List Str} (h : ws.Nodup) {n : Nat} {F : Nat → Option Str} (hF : ∀ k x, F k = some x → ws[k]? = some x) : ((List.range n).filterMap F).Nodup ∧ ∀ x ∈ (List.range n).filterMap F, x ∈ ws := by
  constructor
  · unfold List.Nodup
    rw [List.pairwise_filterMap]
    refine List.Pairwise.imp_of_mem (fun {a b} _ _ hne x hx y hy he => hne ?_) List.nodup_range
    have h1 := hF a x hx
    have h2 := hF b y hy
    rw [← he] at h2
    exact (List.getElem?_inj (List.getElem?_eq_some_iff.mp h1).1 h).mp (h1.trans h2.symm)
  · intro x hx
    obtain ⟨k, _, hk⟩ := List.mem_filterMap.mp hx
    exact List.mem_of_getElem? (hF k x hk)
def LDoorOk (watches : List Str) (many : Nat) (d : LDoor) : Prop := d.b < many ∧ d.e < many ∧ guardOk WORDS watches d.gd = true ∧ d.gd.length ≤ 2 ∧ NumsOk d.gd ∧ d.ns.Nodup ∧ (∀ x ∈ d.ns, x ∈ watches) ∧ (d.sg = "" ∨ d.sg = "go!")
def spLDoor : Sp := fun vs H Q _ => ∃ (cell unit : Int) (pw : Addr) (watches : List Str) (many : Nat), vs = [.int cell, .int unit, .ref pw, .int many] ∧ H pw = some (.lst (watches.map V.str)) ∧ NamesOk watches watches.length ∧ watches.length ≤ 7 ∧ 0 ≤ unit ∧ Sz 180 unit ∧ 1 ≤ many ∧
  ∀ (q : Addr) (H' : Hp) (d : LDoor), Same H H' → H q = none → LDoorAt (newH H H') q d → LDoorOk watches many d → Q (.ref q) H'
theorem ok_l_door (T : Top K mg) : FnOk P w K mg base CX0 3 T.f_l_door T.d_l_door ["_law_cell", "_law_unit", "_law_watches", "_law_many"] spLDoor := by
  refine T.F_l_door.ok sc_l_door (fun vs H Q E h => ?_) (fun cdv A outer s H vs Q E hr h => ?_)
  · obtain ⟨cell, unit, pw, watches, many, rfl, _⟩ := h; rfl
  · obtain ⟨cell, unit, pw, watches, many, rfl, hw, wok, w7, u0, su, hm1, q⟩ := h
    refine ⟨_, (pss_cons (ps_set (i := 4) sc_l_door.nd rfl (.inr rfl) (pe_call (ok_l_stream T) (hr.mono (by decide)) rfl T.g_l_stream T.F_l_stream.kp T.b_l_stream .nil pass0 (pa_cons (pv 0) (pa_cons pe_int pa_nil))))
      (pss_cons (lc_vsS (vs := [7]) (ps_setLc (i := 5) (own := [("_law_k", 7)]) (g := gName 7) rfl sc_l_door.nd rfl rfl (sw_true rfl rfl rfl (by decide +kernel)) (pi_range1 (by rfl) T.m_range (pa_cons (pe_callB call_len_seq (by rfl) T.m_len (by decide +kernel) (pa_cons (pv 2) pa_nil)) pa_nil)) (blkOk_by (own := [("_law_k", 7)]) (N := ["_law_cell", "_law_unit", "_law_watches", "_law_many", "_law_xs", "_law_noughts", "_law_sign", "_law_k"]) (sc := defScope s_l_door) (by decide +kernel)) (fun _ _ _ _ _ => (pg_name (i := 7) sc_l_door.nd rfl (.inl rfl))) (fun _ _ _ _ _ => pts_one (pt_cmpR op_eq (pe_op op_modN (pe_op op_fdivZ (pe_op op_fdivZ (pe_ix (ix_listA (K := K) rfl) (pv 4) pe_int (fun _ _ => rfl)) (pe_op op_pow pe_int pe_int)) (pe_op op_add (pv 7) pe_int)) pe_int) pe_int (nomark _))) (fun _ _ _ _ _ => (pe_ix (ix_listA (K := K) rfl) (pv 2) (pv 7) (fun _ _ => rfl)))) rfl)
      (pss_cons (ps_set (i := 6) sc_l_door.nd rfl (.inl rfl) (pe_ix (ix_listA (K := K) rfl) (pe_lstN (pa_cons pe_str (pa_cons pe_str (pa_cons pe_str (pa_cons pe_str pa_nil))))) (pe_op op_mulW (pe_op op_fdivZ (pe_op op_modN (pe_ix (ix_listA (K := K) rfl) (pv 4) pe_int (fun _ _ => rfl)) pe_int) pe_int) (pe_op op_modN (pe_op op_fdivZ (pe_ix (ix_listA (K := K) rfl) (pv 4) pe_int (fun _ _ => rfl)) pe_int) pe_int)) (fun _ _ => rfl)))
      (pss_one (ps_ret (pe_tupN (pa_cons (pe_op op_modN (pe_ix (ix_listA (K := K) rfl) (pv 4) pe_int (fun _ _ => rfl)) (pv 3)) (pa_cons (pe_op op_modN (pe_ix (ix_listA (K := K) rfl) (pv 4) pe_int (fun _ _ => rfl)) (pv 3)) (pa_cons (pe_call (ok_l_guard T) (hr.mono (by decide)) rfl T.g_l_guard T.F_l_guard.kp T.b_l_guard .nil pass0 (pa_cons (pe_slice (sl_listA (K := K) rfl) (pv 4) (po_some pe_int) (po_some pe_int)) (pa_cons (pv 1) (pa_cons (pv 2) pa_nil)))) (pa_cons (pv 5) (pa_cons (pv 6) pa_nil))))))))))), ?_⟩
    refine seq_step ?_
    walk_at "rd"
    refine ⟨cell, 9, rfl, by decide, fun px H1 xs s1 f1 e1 xl xok => ?_⟩
    have xat : ∀ i : Nat, i < 9 → ∃ v : Int, (xs.map V.int)[i]? = some (.int v) := fun i h => ⟨xs[i], by rw [List.getElem?_map, List.getElem?_eq_getElem (by omega)]; rfl⟩
    obtain ⟨x0, h0⟩ := xat 0 (by omega)
    obtain ⟨x1, h1⟩ := xat 1 (by omega)
    obtain ⟨x7, h7⟩ := xat 7 (by omega)
    obtain ⟨x8, h8⟩ := xat 8 (by omega)
    walk_at "rd"
    refine seq_step ?_
    refine lcr_src ?_
    walk_at "rd"
    refine ⟨_, .inl (.of (s1 _ _ hw)), ?_⟩
    rw [List.length_map]
    refine ⟨(rg_ok (by omega)).1, (rg_ok (by omega)).2, ?_⟩
    rw [Int.toNat_natCast]
    generalize hF : (fun k : Nat => if ((x7.fdiv 16).fdiv ((k : Int) + 1)).fmod 2 = 1 then watches[k]? else none) = F
    have fn := fm_nodup wok.2.2.1 (n := watches.length) (F := F) (fun k x h => by
      subst hF
      simp only at h
      split at h
      · exact h
      · cases h)
    refine lcR (F := fun k => (F k).map V.str) (by omega) (fun j H2 Yes No hj s2 hy hno => ?_) (fun nl H2 s2 f2 e2 => ?_)
    · have s12 := s1.trans s2
      walk_at "rd"
      refine ix_l (.of (s2 _ _ e1)) (by decide) h7 ?_
      walk_at "rd"
      refine ⟨.of (n := 8) (by omega) (by show ((j : Int) + 1).natAbs < 2 ^ 8; omega) (by decide), ?_⟩
      have hwj : watches[j]? = some watches[j] := List.getElem?_eq_getElem hj
      refine ite_d (fun c => ?_) (fun c => ?_)
      · refine ix_l (.of (s12 _ _ hw)) (by omega) (by rw [Int.toNat_natCast, List.getElem?_map, hwj]; rfl) (hy _ _ (Same.refl _) ?_)
        subst hF
        simp only
        rw [if_pos c, hwj]; rfl
      · refine hno _ (Same.refl _) ?_
        subst hF
        simp only
        rw [if_neg c]; rfl
    · have e2' : H2 nl = some (.lst (((List.range watches.length).filterMap F).map V.str)) := by rw [e2, List.map_filterMap]
      generalize (List.range watches.length).filterMap F = ns at fn e2'
      walk_at "rd"
      refine seq_step ?_
      walk_at "rd"
      intro sl H3 s3 f3 e3
      have s13 : Same H1 H3 := s2.trans s3
      refine ix_l (.of (s13 _ _ e1)) (by decide) h8 ?_
      walk_at "rd"
      refine ix_l (.of (s13 _ _ e1)) (by decide) h8 ?_
      walk_at "rd"
      have a1 : (x8.fmod 16).fdiv 12 = 0 ∨ (x8.fmod 16).fdiv 12 = 1 := by
        have := fm_pos (c := x8) (m := 16) (by decide)
        rw [Int.fdiv_eq_ediv_of_nonneg _ (by decide)]
        omega
      have a2 := fm_pos (c := x8.fdiv 16) (m := 4) (by decide)
      generalize (x8.fmod 16).fdiv 12 = r1 at *
      generalize (x8.fdiv 16).fmod 4 = r2 at *
      have a3 : 0 ≤ r1 * r2 ∧ r1 * r2 < 4 := by rcases a1 with rfl | rfl <;> omega
      refine ⟨Sz.mulW (a := 4) (b := 4) (by show r1.natAbs < 2 ^ 4; omega) (by show r2.natAbs < 2 ^ 4; omega) (by decide), ?_⟩
      generalize r1 * r2 = r at *
      obtain ⟨sg, hsg, sgm⟩ := pick_word (ws := ["", "", "", "go!"]) (i := r) a3
      have sgo : sg = "" ∨ sg = "go!" := by simpa using sgm
      refine ix_l (.of e3) a3.1 hsg ?_
      walk_at "rd"
      refine ix_l (.of (s13 _ _ e1)) (by decide) h0 ?_
      walk_at "rd"
      refine ⟨by omega, ?_⟩
      refine ix_l (.of (s13 _ _ e1)) (by decide) h1 ?_
      walk_at "rd"
      refine ⟨by omega, ?_⟩
      refine ⟨_, .of (s13 _ _ e1), fun gx H4 s4 f4 e4 => ?_⟩
      have s04 := (s1.trans s13).trans s4
      have ec : H4 gx = some (.lst (((xs.drop 2).take 5).map V.int)) := by
        rw [e4, show (some (2 : Int)) = some ((2 : Nat) : Int) from rfl, show (some (7 : Int)) = some ((7 : Nat) : Int) from rfl, cut_nat (by decide) (by rw [List.length_map]; omega), List.map_take, List.map_drop]
      have m0 := fm_pos (c := x0) (m := (many : Int)) (by omega)
      have m1 := fm_pos (c := x1) (m := (many : Int)) (by omega)
      obtain ⟨bn, hb⟩ : ∃ n : Nat, x0.fmod many = (n : Int) := ⟨(x0.fmod many).toNat, by omega⟩
      obtain ⟨en, he⟩ : ∃ n : Nat, x1.fmod many = (n : Int) := ⟨(x1.fmod many).toNat, by omega⟩
      rw [hb, he]
      rw [hb] at m0
      rw [he] at m1
      refine ⟨gx, pw, (xs.drop 2).take 5, unit, watches, 180, rfl, by decide, ec, by simp; omega, by simp; omega, s04 _ _ hw, wok, w7, u0, su, fun g H5 ls s5 f5 e5 l2 gk nk => ?_⟩
      walk_at "rd"
      intro t H6 s6 f6 e6
      have s46 := s5.trans s6
      refine q t H6 ⟨bn, en, ls, ns, sg⟩ (s04.trans s46) ((s04.trans s5).free f6) ⟨g, nl, new_at ((s04.trans s5).free f6) e6, e5.keep (new_mono s04 s6), new_at (s1.free f2) (((s3.trans s4).trans s46) _ _ e2')⟩ ⟨by show bn < many; omega, by show en < many; omega, gk, l2, nk.ok (by decide), fn.1, fn.2, sgo⟩
theorem cut_ints {cs : List Int} {a b : Nat} (h : a ≤ b) : ∃ ds : List Int, cutV (cs.map V.int) (some (a : Int)) (some (b : Int)) = ds.map V.int ∧ ds.length ≤ b - a := by
  refine ⟨(cs.drop (min a cs.length)).take (min b cs.length - min a cs.length), ?_, ?_⟩
  · unfold cutV
    rw [HT.sIx_nat, HT.sIx_nat, List.length_map, List.map_take, List.map_drop]
  · rw [List.length_take]; omega
theorem LDoorAt.keep' : ∀ (H H' : Hp) (q : Addr) (x : LDoor), Same H H' → LDoorAt H q x → LDoorAt H' q x := fun _ _ _ _ s h => LDoorAt.keep s h
def spLMachine (K : PySem.W.Frag) : Sp := fun vs H Q _ => ∃ (ps : Addr) (cs : List Int), vs = [.ref ps] ∧ SqL K H ps (cs.map V.int) ∧ cs.length ≤ 63 ∧ ∀ (q : Addr) (H' : Hp) (S : Spec), Same H H' → SpecAt H' q S → SpecOk S → Q (.ref q) H'
theorem ok_l_machine (T : Top K mg) : FnOk P w K mg base CX0 4 T.f_l_machine T.d_l_machine ["_law_script"] (spLMachine K) := by
  refine T.F_l_machine.ok sc_l_machine (fun vs H Q E h => ?_) (fun cdv A outer s H vs Q E hr h => ?_)
  · obtain ⟨ps, cs, rfl, _⟩ := h; rfl
  · obtain ⟨ps, cs, rfl, hc, c63, q⟩ := h
    refine ⟨_, (pss_cons (ps_set (i := 1) sc_l_machine.nd rfl (.inl rfl) (pe_call (ok_l_cell_at T) (hr.mono (by decide)) rfl T.g_l_cell_at T.F_l_cell_at.kp T.b_l_cell_at .nil pass0 (pa_cons (pv 0) (pa_cons pe_int pa_nil))))
      (pss_cons (ps_set (i := 2) sc_l_machine.nd rfl (.inl rfl) (pe_call (ok_l_cell_at T) (hr.mono (by decide)) rfl T.g_l_cell_at T.F_l_cell_at.kp T.b_l_cell_at .nil pass0 (pa_cons (pv 0) (pa_cons pe_int pa_nil))))
      (pss_cons (ps_set (i := 3) sc_l_machine.nd rfl (.inr rfl) (pe_op op_add pe_int (pe_op op_modN (pe_op op_fdivZ (pv 1) pe_int) (pe_ix (ix_listA (K := K) rfl) (pe_lstN (pa_cons pe_int (pa_cons pe_int (pa_cons (pe_op op_pow pe_int pe_int) (pa_cons (pe_op op_pow pe_int pe_int) pa_nil))))) (pe_op op_modN (pv 1) pe_int) (fun _ _ => rfl)))))
      (pss_cons (ps_set (i := 4) sc_l_machine.nd rfl (.inr rfl) (pe_call (ok_l_names T) (hr.mono (by decide)) rfl T.g_l_names T.F_l_names.kp T.b_l_names .nil pass0 (pa_cons (pe_op op_fdivZ (pv 1) pe_int) (pa_cons (pe_ix (ix_listA (K := K) rfl) (pe_lstN (pa_cons pe_int (pa_cons pe_int (pa_cons pe_int (pa_cons pe_int (pa_cons pe_int (pa_cons pe_int pa_nil))))))) (pe_op op_modN (pv 2) pe_int) (fun _ _ => rfl)) pa_nil))))
      (pss_cons (ps_set (i := 5) sc_l_machine.nd rfl (.inr rfl) (pe_call (ok_l_names T) (hr.mono (by decide)) rfl T.g_l_names T.F_l_names.kp T.b_l_names .nil pass0 (pa_cons (pe_op op_fdivZ (pv 2) pe_int) (pa_cons (pe_op op_add pe_int (pe_op op_modN (pe_op op_fdivZ (pv 2) pe_int) pe_int)) pa_nil))))
      (pss_cons (ps_set (i := 6) sc_l_machine.nd rfl (.inl rfl) (pe_lstN pa_nil))
      (pss_cons (ps_for PassesOwn.never rfl (pi_range1 (by rfl) T.m_range (pa_cons (pe_callB call_len_seq (by rfl) T.m_len (by decide +kernel) (pa_cons (pv 5) pa_nil)) pa_nil)) (pg_name (i := 7) sc_l_machine.nd rfl (.inl rfl)) (pss_cons (ps_set (i := 8) sc_l_machine.nd rfl (.inl rfl) (pe_call (ok_l_stream T) (hr.mono (by decide)) rfl T.g_l_stream T.F_l_stream.kp T.b_l_stream .nil pass0 (pa_cons (pe_op op_add (pe_call (ok_l_cell_at T) (hr.mono (by decide)) rfl T.g_l_cell_at T.F_l_cell_at.kp T.b_l_cell_at .nil pass0 (pa_cons (pv 0) (pa_cons (pe_op op_add pe_int (pv 7)) pa_nil))) (pv 7)) (pa_cons pe_int pa_nil))))
      (pss_one (ps_expr (pe_bm PySem.F.plainAttrs_list PySem.F.slot_list_append PySem.F.type_list_append mt_append (pv 6) (pa_cons (pe_tupN (pa_cons (pe_ix (ix_listA (K := K) rfl) (pv 5) (pv 7) (fun _ _ => rfl)) (pa_cons (pe_call (ok_l_stay T) (hr.mono (by decide)) rfl T.g_l_stay T.F_l_stay.kp T.b_l_stay .nil pass0 (pa_cons (pv 8) (pa_cons (pv 3) (pa_cons (pv 4) pa_nil)))) pa_nil))) pa_nil))))))
      (pss_cons (lc_vsS (vs := [10]) (ps_setLc (i := 9) (own := [("_law_cell", 10)]) (g := gName 10) (tt := tYes) rfl sc_l_machine.nd rfl rfl (sw_true rfl rfl rfl (by decide +kernel)) (pi_listA (K := K) rfl (pe_slice (sl_listA (K := K) rfl) (pv 0) (po_some pe_int) (po_some pe_int))) (blkOk_by (own := [("_law_cell", 10)]) (N := ["_law_script", "_law_first", "_law_second", "_law_unit", "_law_watches", "_law_names_here", "_law_rooms", "_law_k", "_law_xs", "_law_doors", "_law_cell"]) (sc := defScope s_l_machine) (by decide +kernel)) (fun _ _ _ _ _ => (pg_name (i := 10) sc_l_machine.nd rfl (.inl rfl))) (fun _ _ _ _ _ => pts_nil) (fun _ _ _ _ _ => (pe_call (ok_l_door T) (hr.mono (by decide)) rfl T.g_l_door T.F_l_door.kp T.b_l_door .nil pass0 (pa_cons (pv 10) (pa_cons (pv 3) (pa_cons (pv 4) (pa_cons (pe_callB (call_len_seqA (K := K) rfl) (by rfl) T.m_len (by decide +kernel) (pa_cons (pv 5) pa_nil)) pa_nil))))))) rfl)
      (pss_one (ps_ret (pe_tupN (pa_cons (pv 4) (pa_cons (pv 6) (pa_cons (pv 9) pa_nil)))))))))))))), ?_⟩
    refine seq_step ?_
    walk_at "rd"
    refine ⟨ps, cs, 0, rfl, hc, by decide, ?_⟩
    generalize cs.getD (0 : Int).toNat 0 = first
    walk_at "rd"
    refine seq_step ?_
    walk_at "rd"
    refine ⟨ps, cs, 1, rfl, hc, by decide, ?_⟩
    generalize cs.getD (1 : Int).toNat 0 = second
    walk_at "rd"
    refine seq_step ?_
    walk_at "rd"
    intro ul H1 s1 f1 e1
    have m4 := fm_pos (c := first) (m := 4) (by decide)
    obtain ⟨z, hz, z1, zs⟩ : ∃ z : Int, [V.int 1, V.int 3, V.int (10 ^ 15), V.int (10 ^ 40)][(first.fmod 4).toNat]? = some (.int z) ∧ 1 ≤ z ∧ z ≤ 10 ^ 40 := by
      generalize first.fmod 4 = r4 at *
      obtain rfl | rfl | rfl | rfl : r4 = 0 ∨ r4 = 1 ∨ r4 = 2 ∨ r4 = 3 := by omega
      · exact ⟨_, rfl, by decide, by decide⟩
      · exact ⟨_, rfl, by decide, by decide⟩
      · exact ⟨_, rfl, by decide, by decide⟩
      · exact ⟨_, rfl, by decide, by decide⟩
    refine ix_l (.of e1) m4.1 hz ?_
    walk_at "rd"
    refine ⟨by omega, ?_⟩
    have mz := fm_pos (c := first.fdiv 4) (m := z) (by omega)
    generalize hun : 1 + (first.fdiv 4).fmod z = unit
    have u0 : 0 ≤ unit := by omega
    have su : Sz 180 unit := Sz.nn (j := 10 ^ 40) u0 (by omega) (by show (10 ^ 40 : Int).natAbs < 2 ^ 180; decide +kernel)
    refine seq_step ?_
    walk_at "rd"
    intro wl H2 s2 f2 e2
    have m6 := fm_pos (c := second) (m := 6) (by decide)
    obtain ⟨wn, hwn, wn2⟩ : ∃ n : Nat, [V.int 0, V.int 1, V.int 1, V.int 2, V.int 2, V.int 2][(second.fmod 6).toNat]? = some (.int (n : Int)) ∧ n ≤ 2 := by
      generalize second.fmod 6 = r6 at *
      obtain rfl | rfl | rfl | rfl | rfl | rfl : r6 = 0 ∨ r6 = 1 ∨ r6 = 2 ∨ r6 = 3 ∨ r6 = 4 ∨ r6 = 5 := by omega
      · exact ⟨0, rfl, by decide⟩
      · exact ⟨1, rfl, by decide⟩
      · exact ⟨1, rfl, by decide⟩
      · exact ⟨2, rfl, by decide⟩
      · exact ⟨2, rfl, by decide⟩
      · exact ⟨2, rfl, by decide⟩
    refine ix_l (.of e2) m6.1 hwn ?_
    walk_at "rd"
    refine ⟨_, wn, rfl, by omega, fun pw H3 ws s3 f3 e3 wok => ?_⟩
    have s13 := (s1.trans s2).trans s3
    walk_at "rd"
    refine seq_step ?_
    walk_at "rd"
    have m24 := fm_pos (c := second.fdiv 6) (m := 4) (by decide)
    obtain ⟨rn, hrn⟩ : ∃ n : Nat, 1 + (second.fdiv 6).fmod 4 = (n : Int) := ⟨(1 + (second.fdiv 6).fmod 4).toNat, by omega⟩
    rw [hrn]
    refine ⟨_, rn, rfl, by omega, fun pn H4 ns s4 f4 e4 nok => ?_⟩
    have s14 := s13.trans s4
    walk_at "rd"
    refine seq_step ?_
    walk_at "rd"
    intro rl H5 s5 f5 e5
    have s15 := s14.trans s5
    have w2 : ws.length ≤ 2 := by rw [wok.1]; exact wn2
    have wok : NamesOk ws ws.length := ⟨rfl, wok.2⟩
    have nl : ns.length = rn := nok.1
    refine seq_step ?_
    refine for_rg ?_
    walk_at "rd"
    refine ⟨_, .inl (.of (s5 _ _ e4)), ?_⟩
    rw [List.length_map, Int.toNat_natCast]
    refine ⟨(rg_ok (by omega)).1, (rg_ok (by omega)).2, ?_⟩
    refine forR_by (fun i σ' H' => (∃ v7 v8, σ' = [some (.ref ps), some (.int first), some (.int second), some (.int unit), some (.ref pw), some (.ref pn), some (.ref rl), v7, v8, none, none]) ∧ Same H4 H' ∧ ∃ rs : List Rq, SeqD RqAt (newH H H') rl rs ∧ rs.map (·.1) = ns.take i ∧ ∀ r ∈ rs, guardOk ["<", "<="] ws r.2 = true ∧ r.2.length ≤ 2 ∧ NumsOk r.2) ⟨⟨_, _, rfl⟩, s5, [], SeqD.nil (new_at (s14.free f5) e5), rfl, fun r h => by cases h⟩ ?_ ?_
    · rintro i σ' H' hi ⟨⟨v7, v8, rfl⟩, s', rs, sd, hnm, hok⟩
      have s0' := s14.trans s'
      walk_at "rd"
      refine seq_step ?_
      walk_at "rd"
      refine ⟨ps, cs, 2 + (i : Int), rfl, s0'.seq hc, by omega, ?_⟩
      generalize cs.getD (2 + (i : Int)).toNat 0 = cell
      walk_at "rd"
      refine ⟨_, 5, rfl, by decide, fun px H6 xs s6 f6 e6 xl xok => ?_⟩
      walk_at "rd"
      obtain ⟨gqs, gq1, _⟩ := id sd
      have s06 := s0'.trans s6
      refine ⟨_, rfl, .inl ⟨rfl, _, .of (s6 _ _ (new_of gq1).2)⟩, ?_⟩
      walk_at "rd"
      have hni := List.getElem?_eq_getElem (l := ns) (i := i) hi
      generalize hnm2 : ns[i] = nm at *
      refine ix_l (.of ((s'.trans s6) _ _ e4)) (by omega) (by rw [Int.toNat_natCast, List.getElem?_map, hni]; rfl) ?_
      walk_at "rd"
      refine ⟨px, pw, xs, unit, ws, 180, rfl, by decide, e6, by omega, by omega, ((s4.trans s').trans s6) _ _ e3, wok, by omega, u0, su, fun g H7 ls s7 f7 e7 l2 gk nk => ?_⟩
      walk_at "rd"
      intro t H8 s8 f8 e8
      have s68 := s7.trans s8
      have sd8 := sd.keep RqAt.keep' (new_later (H := H) (s6.trans s68))
      have tr : t ≠ rl := fun y => by rw [y, (s6.trans s7) _ _ (new_of gq1).2] at f8; cases f8
      have lg : LsAt (newH H H8) g ls := e7.keep (new_mono s06 s8)
      have gr : g ≠ rl := fun y => by rw [y, s6 _ _ (new_of gq1).2] at f7; cases f7
      obtain ⟨dqs, dq1, _⟩ := id sd8
      obtain ⟨items, it1, it2, it3⟩ := sd8.app RqAt.keep' (q := t) (x := (nm, ls)) ⟨g, del_at tr (new_at ((s06.trans s7).free f8) e8), lg.del gr dq1⟩
      have ll : rs.length = i := by
        have := congrArg List.length hnm
        rw [List.length_map, List.length_take] at this
        omega
      refine app_at (new_of it1).2 (by omega) ?_
      walk_at "rd"
      have frl : H rl = none := s14.free f5
      rw [← new_upd frl] at it3
      refine ⟨⟨_, rfl⟩, same_updN f5 ((s'.trans s6).trans s68), _, it3, ?_, ?_⟩
      · rw [List.map_append, hnm, List.take_add_one, hni]; rfl
      · intro r hr
        rcases List.mem_append.mp hr with h | h
        · exact hok r h
        · have : r = (nm, ls) := by simpa using h
          subst this
          exact ⟨gk, l2, nk.ok (by decide)⟩
    · rintro σ' H' ⟨⟨v7, v8, rfl⟩, s', rs, sd, hnm, hok⟩
      rw [List.take_length] at hnm
      have s0' := s14.trans s'
      walk_at "rd"
      refine seq_step ?_
      refine lcg_src ?_
      walk_at "rd"
      refine ⟨_, s0'.seq hc, fun cl H6 s6 f6 e6 => ?_⟩
      obtain ⟨ds, hds, dl6⟩ := cut_ints (cs := cs) (a := 6) (b := 12) (by decide)
      have e6' : H6 cl = some (.lst (ds.map V.int)) := by rw [← hds]; exact e6
      refine ⟨⟨_, .of e6'⟩, ?_⟩
      refine lcMP (R := LDoorAt) (P := fun (_ : Int) d => LDoorOk ws ns.length d) LDoorAt.keep' (zs := ds) e6' (by simp) (by simp; omega) (fun i x z H7 Yes hx hz s7 hy => ?_) (fun dq H7 dd s7 f7 e7 dl dp => ?_)
      · rw [List.getElem?_map, hz] at hx
        obtain rfl : x = .int z := by simpa using hx.symm
        have s47 := (s'.trans s6).trans s7
        walk_at "rd"
        refine ⟨_, .inl (.of (s47 _ _ e4)), ?_⟩
        rw [List.length_map]
        refine ⟨z, unit, pw, ws, ns.length, rfl, (s4.trans s47) _ _ e3, wok, by omega, u0, su, by omega, fun q H8 d s8 f8 e8 ok8 => ?_⟩
        exact hy q H8 d s8 ok8 fun D acc fD eD => e8.keep (new_del eD)
      · walk_at "rd"
        intro t H8 s8 f8 e8
        have s48 := ((s'.trans s6).trans s7).trans s8
        have rq : RsAt H' rl rs := (sd.keep RqAt.keep' new_sub |>.seq RqAt.keep')
        have lr : rs.length = ns.length := by rw [← hnm, List.length_map]
        refine q t H8 ⟨ws, rs, dd⟩ (s14.trans s48) ⟨pw, rl, dq, e8, (s4.trans s48) _ _ e3, rq.keep ((s6.trans s7).trans s8), (e7.seq LDoorAt.keep').keep (fun _ _ => LDoorAt.keep s8) s8⟩ ⟨wok, w2, ?_, by show 1 ≤ rs.length; omega, by show rs.length ≤ 4; omega, hok, by show dd.length ≤ 6; omega, fun d hd => ?_⟩
        · show NamesOk (rs.map (·.1)) rs.length
          rw [hnm, lr]
          exact ⟨rfl, nok.2⟩
        · obtain ⟨i, hi, e⟩ := List.mem_iff_getElem.mp hd
          have hi : i < dd.length := hi
          have hy := List.getElem?_eq_getElem hi
          have hz := List.getElem?_eq_getElem (l := ds) (i := i) (by omega)
          have := dp i _ _ hz hy
          rw [e] at this
          show LDoorOk ws rs.length d
          rw [lr]; exact this
abbrev doorKeep {C : Addr} : ∀ (H H' : Hp) (q : Addr) (x : DoorD), Same H H' → DoorAt C H q x → DoorAt C H' q x := fun _ _ _ _ s h => DoorAt.keep s h
/-- what a made machine wants of its spec -/
structure MadeOk (S : Spec) : Prop where
  r4 : S.rooms.length ≤ 4
  d6 : S.doors.length ≤ 6
  d : ∀ d ∈ S.doors, d.b < S.rooms.length ∧ d.e < S.rooms.length
  mach : MachOk S.mach
theorem SpecOk.made {S : Spec} (h : SpecOk S) : MadeOk S := ⟨h.r4, h.d6, fun d hd => ⟨(h.d d hd).1, (h.d d hd).2.1⟩, h.mach⟩
def spLMade (CM CD : Addr) : Sp := fun vs H Q _ => ∃ (ps : Addr) (S : Spec), vs = [.ref ps] ∧ SpecAt H ps S ∧ MadeOk S ∧ ∀ (q : Addr) (H' : Hp), Same H H' → MachAt CM CD H' q S.mach → Q (.ref q) H'
theorem ok_l_made (T : Top K mg) : FnOk P w K mg base CX0 8 T.f_l_made T.d_l_made ["_law_spec"] (spLMade T.C_Machine T.C_Door) := by
  refine T.F_l_made.ok sc_l_made (fun vs H Q E h => ?_) (fun cdv A outer s H vs Q E hr h => ?_)
  · obtain ⟨ps, S, rfl, _⟩ := h; rfl
  · obtain ⟨ps, S, rfl, hs, ok, q⟩ := h
    refine ⟨_, (pss_cons (ps_asg (pv 0) (pg_tupA (K := K) (n := 3) rfl (by rfl) (pgs_cons (pg_name (i := 1) sc_l_made.nd rfl (.inl rfl)) (pgs_cons (pg_name (i := 2) sc_l_made.nd rfl (.inl rfl)) (pgs_cons (pg_name (i := 3) sc_l_made.nd rfl (.inl rfl)) pgs_nil)))))
      (pss_cons (ps_set (i := 4) sc_l_made.nd rfl (.inl rfl) (pe_lstN pa_nil))
      (pss_cons (ps_for PassesOwn.never rfl (pi_listA (K := K) rfl (pv 3)) (pg_tupA (K := K) (n := 5) rfl (by rfl) (pgs_cons (pg_name (i := 5) sc_l_made.nd rfl (.inl rfl)) (pgs_cons (pg_name (i := 6) sc_l_made.nd rfl (.inl rfl)) (pgs_cons (pg_name (i := 7) sc_l_made.nd rfl (.inl rfl)) (pgs_cons (pg_name (i := 8) sc_l_made.nd rfl (.inl rfl)) (pgs_cons (pg_name (i := 9) sc_l_made.nd rfl (.inl rfl)) pgs_nil)))))) (pss_one (ps_expr (pe_bm PySem.F.plainAttrs_list PySem.F.slot_list_append PySem.F.type_list_append mt_append (pv 4) (pa_cons (pe_makeN T.mk_Door (ok_Door_init T) (hr.mono (by decide)) rfl T.g_Door T.b_Door_init .nil pass0 (pa_cons (pe_ix (ix_tupA (K := K) rfl) (pe_ix (ix_listA (K := K) rfl) (pv 2) (pv 5) (fun _ _ => rfl)) pe_int (fun _ _ => rfl)) (pa_cons (pe_ix (ix_tupA (K := K) rfl) (pe_ix (ix_listA (K := K) rfl) (pv 2) (pv 6) (fun _ _ => rfl)) pe_int (fun _ _ => rfl)) (pa_cons (pe_callTy (call_listA (K := K) rfl) (by rfl) T.m_list (by decide +kernel) (pa_cons (pv 7) pa_nil)) (pa_cons (pe_callTy (call_listA (K := K) rfl) (by rfl) T.m_list (by decide +kernel) (pa_cons (pv 8) pa_nil)) (pa_cons (pv 9) pa_nil)))))) pa_nil)))))
      (pss_one (ps_ret (pe_makeN T.mk_Machine (ok_Machine_init T) (hr.mono (by decide)) rfl T.g_Machine T.b_Machine_init .nil passL (pa_cons (pe_callTy (call_listA (K := K) rfl) (by rfl) T.m_list (by decide +kernel) (pa_cons (pv 1) pa_nil)) (pa_cons (lc_vs (vs := [10, 11]) (pe_lc (own := [("_law_name", 10), ("_law_stay_here", 11)]) (tt := tYes) rfl sc_l_made.nd (pi_listA (K := K) rfl (pv 2)) (blkOk_by (own := [("_law_name", 10), ("_law_stay_here", 11)]) (N := ["_law_spec", "_law_watches", "_law_rooms", "_law_doors", "_law_built", "_law_begin", "_law_end", "_law_guard_here", "_law_noughts", "_law_sign", "_law_name", "_law_stay_here"]) (sc := defScope s_l_made) (by decide +kernel)) (fun _ _ _ _ _ => (pg_tupA (K := K) (n := 2) rfl (by rfl) (pgs_cons (pg_name (i := 10) sc_l_made.nd rfl (.inl rfl)) (pgs_cons (pg_name (i := 11) sc_l_made.nd rfl (.inl rfl)) pgs_nil)))) (fun _ _ _ _ _ => pts_nil) (fun _ _ _ _ _ => (pe_tupN (pa_cons (pv 10) (pa_cons (pe_callTy (call_listA (K := K) rfl) (by rfl) T.m_list (by decide +kernel) (pa_cons (pv 11) pa_nil)) pa_nil))))) rfl) (pa_cons (pv 4) pa_nil))))))))), ?_⟩
    obtain ⟨pw, pr, pd, es, hw, hr', hd⟩ := id hs
    obtain ⟨rqs, r1, r2, r3⟩ := id hr'
    obtain ⟨dqs, d1, d2, d3⟩ := id hd
    have r4 := ok.r4
    have d6 := ok.d6
    refine seq_step ?_
    walk_at "rd"
    refine gTup_of (sqt es) rfl ?_
    walk_at "rd"
    refine seq_step ?_
    walk_at "rd"
    intro bl H1 s1 f1 e1
    refine seq_step ?_
    refine for_li ?_
    walk_at "rd"
    have bne : ∀ b o, H b = some o → b ≠ bl := fun b o e z => by rw [← z, e] at f1; cases f1
    refine forL_by (xs := dqs.map V.ref) (fun i σ' H' => (∃ v5 v6 v7 v8 v9, σ' = [some (.ref ps), some (.ref pw), some (.ref pr), some (.ref pd), some (.ref bl), v5, v6, v7, v8, v9, none, none]) ∧ Same H H' ∧ SeqD (DoorAt T.C_Door) H' bl ((S.doors.take i).map S.door)) ⟨⟨_, _, _, _, _, rfl⟩, s1, SeqD.nil e1⟩ (fun i σ H' _ ⟨_, k, _⟩ => .of (k _ _ d1)) ?_ ?_
    · rintro i x σ' H2 hi ⟨⟨v5, v6, v7, v8, v9, rfl⟩, s2, sd⟩
      rw [List.getElem?_map] at hi
      obtain ⟨qi, h1, rfl⟩ := Option.map_eq_some_iff.mp hi
      have hil := (List.getElem?_eq_some_iff.mp h1).1
      have hz := List.getElem?_eq_getElem (l := S.doors) (i := i) (by omega)
      have okz := ok.d _ (List.mem_of_getElem? hz)
      obtain ⟨g, n, e, hg, hn⟩ := d3 i qi _ h1 hz
      generalize S.doors[i] = z at *
      obtain ⟨gs, g1, g2, g3⟩ := id hg
      obtain ⟨rb, hb1, hb2⟩ := name_at okz.1
      obtain ⟨re, he1, he2⟩ := name_at okz.2
      obtain ⟨bqs, w1, w2, w3⟩ := id sd
      have hqb := List.getElem?_eq_getElem (l := rqs) (i := z.b) (by rw [r2]; exact okz.1)
      have hqe := List.getElem?_eq_getElem (l := rqs) (i := z.e) (by rw [r2]; exact okz.2)
      obtain ⟨gb, tb, _⟩ := r3 _ _ _ hqb hb1
      obtain ⟨ge, te', _⟩ := r3 _ _ _ hqe he1
      refine gTup_of (sqt (s2 _ _ e)) rfl ?_
      walk_at "rd"
      refine ⟨_, rfl, .inl ⟨rfl, _, .of w1⟩, ?_⟩
      walk_at "rd"
      simp only [tMakeN]
      walk_at "rd"
      refine ix_l (.of (s2 _ _ r1)) (by omega) (by rw [Int.toNat_natCast, List.getElem?_map, hqb]; rfl) ?_
      walk_at "rd"
      refine ix_t (sqt (s2 _ _ tb)) (by decide) rfl ?_
      walk_at "rd"
      refine ix_l (.of (s2 _ _ r1)) (by omega) (by rw [Int.toNat_natCast, List.getElem?_map, hqe]; rfl) ?_
      walk_at "rd"
      refine ix_t (sqt (s2 _ _ te')) (by decide) rfl ?_
      walk_at "rd"
      refine ⟨_, .inl (.of (s2 _ _ g1)), fun g' H3 s3 f3 e3 => ?_⟩
      walk_at "rd"
      refine ⟨_, .inl (.of ((s2.trans s3) _ _ hn)), fun n' H4 s4 f4 e4 => ?_⟩
      walk_at "rd"
      intro p dx H5 s5 f5 e5
      refine ⟨p, dx, g', n', rb.1, re.1, z.sg, _, _, rfl, e5, s5 _ _ (s4 _ _ e3), s5 _ _ e4, fun g2' n2' H6 k6 fg fn e6 eg en => ?_⟩
      walk_at "rd"
      have s24 := s3.trans s4
      have s46 : Same H4 H6 := fun b o e => k6 b o (s5 _ _ e) (fun z => by rw [z, f5] at e; cases e)
      have s06 : Same H H6 := (s2.trans s24).trans s46
      have bl4 := s24 _ _ w1
      have sdel : Same H (delH bl H6) := fun b o e => del_at (bne b o e) (s06 _ _ e)
      have dz : DoorAt T.C_Door (delH bl H6) p (S.door z) := by
        refine ⟨dx, g2', n2', del_at (fun y => by rw [y, bl4] at f5; cases f5) ?_, ⟨gs, del_at (fun y => by rw [y, s5 _ _ bl4] at fg; cases fg) eg, g2, fun i q x h1 h2 => (g3 i q x h1 h2).keep sdel⟩, del_at (fun y => by rw [y, s5 _ _ bl4] at fn; cases fn) en⟩
        show H6 p = some (.ins T.C_Door dx (doorF (S.name z.b) (S.name z.e) z.sg g2' n2'))
        rw [hb2, he2]; exact e6
      obtain ⟨items, it1, it2, it3⟩ := (sd.keep doorKeep (s24.trans s46)).app doorKeep dz
      refine app_at it1 (by rw [it2, List.length_map, List.length_take]; omega) ?_
      walk_at "rd"
      refine ⟨⟨_, rfl⟩, same_updN f1 s06, ?_⟩
      rw [List.take_add_one, hz, List.map_append]
      exact it3
    · rintro σ' H2 ⟨⟨v5, v6, v7, v8, v9, rfl⟩, s2, sd⟩
      rw [List.length_map, d2, List.take_length] at sd
      walk_at "rd"
      simp only [tMakeN]
      walk_at "rd"
      refine ⟨_, .inl (.of (s2 _ _ hw)), fun w' H3 s3 f3 e3 => ?_⟩
      walk_at "rd"
      refine lcg_src ?_
      walk_at "rd"
      have s03 := s2.trans s3
      refine ⟨⟨_, .of (s03 _ _ r1)⟩, ?_⟩
      refine lcM (R := RqAt) RqAt.keep' (F := id) (zs := S.rooms) (s03 _ _ r1) (by simp [r2]) (by simp; omega) (fun i x z H4 Yes hx hz s4 hy => ?_) (fun rq H4 s4 f4 e4 => ?_)
      · rw [List.getElem?_map] at hx
        obtain ⟨qi, h1, rfl⟩ := Option.map_eq_some_iff.mp hx
        have s04 := s03.trans s4
        obtain ⟨g, e, gs, g1, g2, g3⟩ := r3 i qi z h1 hz
        refine gTup_of (sqt (s04 _ _ e)) rfl ?_
        walk_at "rd"
        refine ⟨_, .inl (.of (s04 _ _ g1)), fun l H5 s5 f5 e5 => ?_⟩
        walk_at "rd"
        intro t H6 s6 f6 e6
        have sc : Same H (cutH H3 H4 H6) := s03.trans (cut_same (s4.trans (s5.trans s6)))
        refine hy t H6 (s5.trans s6) ⟨l, cut_new (s5.free f6) e6, gs, cut_new f5 (s6 _ _ e5), g2, fun i q x h1 h2 => (g3 i q x h1 h2).keep sc⟩
      · have e4' : RsAt H4 rq S.rooms := by simpa using e4
        walk_at "rd"
        intro p dx H5 s5 f5 e5
        have s25 := (s3.trans s4).trans s5
        refine .inl ⟨p, dx, w', rq, bl, S.mach, rfl, e5, (s4.trans s5) _ _ e3, e4'.keep s5, ((sd.seq doorKeep).keep (fun _ _ h => DoorAt.keep s25 h) s25), ok.mach, fun H6 off mach _ => ?_⟩
        walk_at "rd"
        refine q p H6 (fun b o e => off.2 b o ((s2.trans s25) _ _ e) fun y => ?_) mach
        have := (s2.trans (s3.trans s4)) _ _ e
        rw [y, f5] at this; cases this
/-! ### machines with a long watch, with a room cut off -/
def TDAt (H : Hp) (q : Addr) (d : DoorD) : Prop := ∃ g n, H q = some (.tup [.str d.st, .str d.en, .ref g, .ref n, .str d.sg]) ∧ LsAt H g d.looks ∧ H n = some (.lst (d.backs.map V.str))
theorem TDAt.keep : ∀ (H H' : Hp) (q : Addr) (d : DoorD), Same H H' → TDAt H q d → TDAt H' q d := fun _ _ _ _ s ⟨g, n, a, b, c⟩ => ⟨g, n, s _ _ a, b.keep s, s _ _ c⟩
def LooksOk (d : DoorD) : Prop := (∀ l ∈ d.looks, LqOk l) ∧ ∀ x ∈ d.backs, TxOk x
def longW (W : List Str) : List Str := W ++ [("/" : Str)]
def longM (M : MachD) : MachD := ⟨longW M.watches, M.rooms, M.doors⟩
def cutD (r : Str) (d : DoorD) : DoorD := if r = d.st ∨ r = d.en then ⟨d.st, d.en, "cut!", d.looks, d.backs⟩ else d
def coM (r : Str) (M : MachD) : MachD := ⟨M.watches, M.rooms, M.doors.map (cutD r)⟩
theorem lookOk_mono {ws W W' : List Str} {l : Lq} (h : ∀ x ∈ W, x ∈ W') (k : lookOk ws W l = true) : lookOk ws W' l = true := by
  unfold lookOk at k ⊢
  rw [Bool.and_eq_true, Bool.and_eq_true] at k ⊢
  exact ⟨⟨decide_eq_true (h _ (of_decide_eq_true k.1.1)), k.1.2⟩, k.2⟩
theorem guardOk_mono {ws W W' : List Str} {ls : List Lq} (h : ∀ x ∈ W, x ∈ W') (k : guardOk ws W ls = true) : guardOk ws W' ls = true := List.all_eq_true.mpr fun l hl => lookOk_mono h (List.all_eq_true.mp k l hl)
theorem roomOk_mono {W W' : List Str} {r : Rq} (h : ∀ x ∈ W, x ∈ W') (k : roomOk W r = true) : roomOk W' r = true := by
  unfold roomOk at k ⊢
  rw [Bool.and_eq_true] at k ⊢
  exact ⟨k.1, guardOk_mono h k.2⟩
theorem doorOk_mono {W W' ns : List Str} {d : DoorD} (h : ∀ x ∈ W, x ∈ W') (k : doorOk W ns d = true) : doorOk W' ns d = true := by
  unfold doorOk at k ⊢
  rw [Bool.and_eq_true, Bool.and_eq_true, Bool.and_eq_true, Bool.and_eq_true, Bool.and_eq_true, List.all_eq_true] at k ⊢
  obtain ⟨⟨⟨⟨⟨a, b⟩, c⟩, d'⟩, e⟩, f⟩ := k
  exact ⟨⟨⟨⟨⟨a, b⟩, c⟩, guardOk_mono h d'⟩, fun x hx => decide_eq_true (h x (of_decide_eq_true (e x hx)))⟩, f⟩
theorem MachOk.areW {M : MachD} (h : MachOk M) : areW M.watches = true := by unfold ZW.areW; rw [decide_eq_true h.w7, h.wok, decide_eq_true h.wnd]; rfl
theorem MachOk.more {M : MachD} {W : List Str} (h : MachOk M) (sub : ∀ x ∈ M.watches, x ∈ W) (ha : ZW.areW W = true) : MachOk ⟨W, M.rooms, M.doors⟩ := by
  unfold ZW.areW at ha
  rw [Bool.and_eq_true, Bool.and_eq_true] at ha
  exact { w7 := of_decide_eq_true ha.1, wok := ha.2.1, wnd := of_decide_eq_true ha.2.2, rok := List.all_eq_true.mpr fun r hr => roomOk_mono sub (List.all_eq_true.mp h.rok r hr), rnd := h.rnd, rne := h.rne, r64 := h.r64
          dok := List.all_eq_true.mpr fun d hd => doorOk_mono sub (List.all_eq_true.mp h.dok d hd), d200 := h.d200, rsz := h.rsz, dsz := h.dsz }
theorem MachOk.long {M : MachD} (h : MachOk M) (ha : ZW.areW (longW M.watches) = true) : MachOk (longM M) := h.more (fun x hx => List.mem_append_left _ hx) ha
theorem cutD_ok {W ns : List Str} {r : Str} {d : DoorD} (k : doorOk W ns d = true) : doorOk W ns (cutD r d) = true := by
  unfold cutD
  split
  · unfold doorOk at k ⊢
    rw [Bool.and_eq_true, Bool.and_eq_true, Bool.and_eq_true, Bool.and_eq_true, Bool.and_eq_true] at k ⊢
    obtain ⟨⟨⟨⟨⟨a, b⟩, c⟩, d'⟩, e⟩, f⟩ := k
    exact ⟨⟨⟨⟨⟨show okSign "cut!" = true by decide +kernel, b⟩, c⟩, d'⟩, e⟩, f⟩
  · exact k
theorem cutD_looks {r : Str} {d : DoorD} : (cutD r d).looks = d.looks := by unfold cutD; split <;> rfl
theorem MachOk.cut {M : MachD} (h : MachOk M) (r : Str) : MachOk (coM r M) := {
    w7 := h.w7, wok := h.wok, wnd := h.wnd, rok := h.rok, rnd := h.rnd, rne := h.rne, r64 := h.r64
    dok := List.all_eq_true.mpr fun d hd => by
      obtain ⟨d', hd', rfl⟩ := List.mem_map.mp hd
      exact cutD_ok (List.all_eq_true.mp h.dok d' hd')
    d200 := by show (M.doors.map _).length ≤ 200; rw [List.length_map]; exact h.d200
    rsz := h.rsz
    dsz := fun d hd => by
      obtain ⟨d', hd', rfl⟩ := List.mem_map.mp hd
      rw [cutD_looks]; exact h.dsz d' hd' }
theorem MachOk.lq {M : MachD} (h : MachOk M) {r : Rq} (hr : r ∈ M.rooms) : RqOk r := (h.room hr).2.2
theorem MachOk.dlooks {M : MachD} (h : MachOk M) {d : DoorD} (hd : d ∈ M.doors) : LooksOk d := by
  have k := h.door hd
  exact ⟨fun l hl => look_ok (ws := ["<", "<=", ">", ">=", "="]) (by decide +kernel) h.watch (List.all_eq_true.mp k.2.2.2.1 l hl), fun x hx => okWatch_tx (h.watch x (k.2.2.2.2.1 x hx))⟩
theorem MachOk.names {M : MachD} (h : MachOk M) {x : Str} (hx : x ∈ M.rooms.map (·.1)) : TxOk x := by
  obtain ⟨r, hr, rfl⟩ := List.mem_map.mp hx
  exact (h.lq hr).1
theorem lay_strs {xs : List Str} (h : ∀ x ∈ xs, TxOk x) : (PyData.list (xs.map PyData.str)).canLay0 = true ∧ (PyData.list (xs.map PyData.str)).depth ≤ 2 := lay_listM fun d hd => by
  obtain ⟨x, hx, rfl⟩ := List.mem_map.mp hd
  exact ⟨h x hx, Nat.zero_le _⟩
/-- what is told of a machine -/
def TM (H : Hp) (q : Addr) (M : MachD) : Prop := ∃ w r d, H q = some (.tup [.ref w, .ref r, .ref d]) ∧ H w = some (.lst (M.watches.map V.str)) ∧ RsAt H r M.rooms ∧ SeqOf TDAt H d M.doors
theorem TM.keep {H H' : Hp} {q : Addr} {M : MachD} (s : Same H H') (h : TM H q M) : TM H' q M := by
  obtain ⟨w, r, d, a, b, c, e⟩ := h
  exact ⟨w, r, d, s _ _ a, s _ _ b, c.keep s, SeqOf.keep (fun _ _ => TDAt.keep _ _ _ _ s) s e⟩
def ddat (d : DoorD) : PyData := .tuple [.str d.st, .str d.en, .list (d.looks.map ldat), .list (d.backs.map PyData.str), .str d.sg]
def mdat (M : MachD) : PyData := .tuple [.list (M.watches.map PyData.str), .list (M.rooms.map rdat), .list (M.doors.map ddat)]
section
variable {K : PySem.W.Frag} {H : Hp} {q : Addr}
theorem dp_td {d : DoorD} (h : TDAt H q d) : Dp K H (.ref q) (ddat d) := by
  obtain ⟨g, n, a, b, c⟩ := h
  exact .tup (.of a) (.cons (.str _) (.cons (.str _) (.cons (dp_ls b) (.cons (names_dp c) (.cons (.str _) .nil)))))
theorem dp_tds {ds : List DoorD} (h : SeqOf TDAt H q ds) : Dp K H (.ref q) (.list (ds.map ddat)) := dp_seq (fun _ _ h => dp_td h) h
theorem dp_tm {M : MachD} (h : TM H q M) : Dp K H (.ref q) (mdat M) := by
  obtain ⟨w, r, d, a, b, c, e⟩ := h
  exact .tup (.of a) (.cons (names_dp b) (.cons (dp_rs c) (.cons (dp_tds e) .nil)))
end
theorem okSign_tx {x : Str} (h : okSign x = true) : TxOk x := by
  unfold okSign at h
  rw [Bool.or_eq_true] at h
  rcases h with h | h
  · rw [of_decide_eq_true h]; show PyData.strOk _ = true; decide +kernel
  · cases e : x.cps.toList.getLast? with
    | none => rw [e] at h; cases h
    | some c =>
      rw [e] at h
      have h1 := of_decide_eq_true (Bool.and_eq_true_iff.mp h).1
      have h2 := okName_tx (Bool.and_eq_true_iff.mp h).2
      refine txok_of fun z hz => ?_
      have s0 : HT.sIx x.length 0 none = 0 := rfl
      have s1 : HT.sIx x.length x.length (some (-1)) = x.length - 1 := by
        unfold HT.sIx
        simp only [show ((-1 : Int) < 0) from by decide, if_true]
        omega
      have len : x.length = x.cps.toList.length := by unfold Str.length; exact Array.length_toList.symm
      have hx : x.cps.toList = x.cps.toList.dropLast ++ [c] := by
        obtain ⟨ys, hys⟩ := List.getLast?_eq_some_iff.mp e
        rw [hys]; simp
      have h3 : ∀ z ∈ x.cps.toList.dropLast, z < 0x110000 := fun z hz => by
        have h2 : PyData.strOk (cutS x none (some (-1))) = true := h2
        unfold PyData.strOk cutS at h2
        rw [s0, s1, ← Array.all_toList, List.all_eq_true] at h2
        have := h2 z (by
          rw [List.dropLast_eq_take] at hz
          simp only [List.drop_zero, Nat.sub_zero]
          rw [len]; simpa using hz)
        exact of_decide_eq_true this
      rw [hx] at hz
      rcases List.mem_append.mp hz with hz | hz
      · exact h3 z hz
      · have : z = c := by simpa using hz
        rw [this]
        exact (by decide +kernel : ∀ c ∈ ("!?" : Str).cps.toList, c < 0x110000) c h1
theorem lay_ddat {M : MachD} (h : MachOk M) {d : DoorD} (hd : d ∈ M.doors) : (ddat d).canLay0 = true ∧ (ddat d).depth ≤ 4 := lay_tup (k := 3) fun e he => by
  have k := h.door hd
  have l := h.dlooks hd
  simp only [List.mem_cons, List.not_mem_nil, or_false] at he
  rcases he with rfl | rfl | rfl | rfl | rfl
  · exact ⟨h.names k.2.1, Nat.zero_le _⟩
  · exact ⟨h.names k.2.2.1, Nat.zero_le _⟩
  · exact lay_ldats l.1
  · have := lay_strs l.2; exact ⟨this.1, by omega⟩
  · exact ⟨okSign_tx k.1, Nat.zero_le _⟩
theorem lay_mdat {M : MachD} (h : MachOk M) : (mdat M).canLay0 = true ∧ (mdat M).depth ≤ 6 := lay_tup (k := 5) fun e he => by
  simp only [List.mem_cons, List.not_mem_nil, or_false] at he
  rcases he with rfl | rfl | rfl
  · have := lay_strs fun x hx => okWatch_tx (h.watch x hx); exact ⟨this.1, by omega⟩
  · exact lay_rdats fun r hr => h.lq hr
  · exact lay_listM (k := 4) fun e he => by
      obtain ⟨d, hd, rfl⟩ := List.mem_map.mp he
      exact lay_ddat h hd
theorem shaped_mdat {M : MachD} (h : MachOk M) : SeqAt.shaped (mdat M) = true := Bool.and_eq_true_iff.mpr ⟨(lay_mdat h).1, decide_eq_true (by have := (lay_mdat h).2; omega)⟩
theorem areW_iff {W : List Str} : areW W = true ↔ W.length ≤ 7 ∧ (∀ x ∈ W, okWatch x = true) ∧ W.Nodup := by
  unfold areW
  rw [Bool.and_eq_true, Bool.and_eq_true, List.all_eq_true]
  exact ⟨fun h => ⟨of_decide_eq_true h.1, h.2.1, of_decide_eq_true h.2.2⟩, fun h => ⟨decide_eq_true h.1, h.2.1, decide_eq_true h.2.2⟩⟩
theorem areW_long {W : List Str} (h : areW W = true) (a : ("/" : Str) ∉ W) (b : W.length ≤ 6) : areW (longW W) = true := by
  obtain ⟨h1, h2, h3⟩ := areW_iff.mp h
  refine areW_iff.mpr ⟨by unfold longW; simp; omega, fun x hx => ?_, List.nodup_append.mpr ⟨h3, by simp, fun x hx y hy e => ?_⟩⟩
  · rcases List.mem_append.mp hx with k | k
    · exact h2 x k
    · rw [show x = "/" by simpa using k]; decide +kernel
  · rw [show y = "/" by simpa using hy] at e
    exact a (e ▸ hx)
theorem areW_long_no {W : List Str} (h : ("/" : Str) ∈ W ∨ 6 < W.length) : areW (longW W) = false := by
  refine Bool.eq_false_iff.mpr fun k => ?_
  obtain ⟨h1, h2, h3⟩ := areW_iff.mp k
  rcases h with h | h
  · exact (List.nodup_append.mp h3).2.2 _ h "/" (by simp) rfl
  · unfold longW at h1; simp at h1; omega
def spWithLong (K : PySem.W.Frag) (CM CD CB : Addr) : Sp := fun vs H Q E => ∃ (pm : Addr) (M : MachD), vs = [.ref pm] ∧ MachAt CM CD H pm M ∧ MachOk M ∧ (areW (longW M.watches) = true → ∀ q H', Same H H' → MachAt CM CD H' q (longM M) → Q (.ref q) H') ∧ (areW (longW M.watches) = false → ∀ H', Same H H' → E (.ref CB) none H')
theorem ok_with_long (T : Top K mg) : FnOk P w K mg base (L2.CX P w) 8 T.f_with_long T.d_with_long ["machine"] (spWithLong K T.C_Machine T.C_Door T.C_BadMachine) := by
  refine T.F_with_long.okX sc_with_long (fun vs H Q E h => ?_) (fun cdv A outer s H vs Q E hr h => ?_)
  · obtain ⟨pm, M, rfl, _⟩ := h; rfl
  · obtain ⟨pm, M, rfl, hm, ok, q1, q2⟩ := h
    refine ⟨_, (pss_cons (lc_vsS (vs := [2]) (ps_setLc (i := 1) (own := [("room", 2)]) (g := gName 2) (tt := tYes) rfl sc_with_long.nd rfl rfl (sw_true rfl rfl rfl (by decide +kernel)) (pi_listA (K := K) rfl (pe_meth0 (pv 0) T.cl_Machine T.m_Machine_rooms (ok_Machine_rooms T) (hr.mono (by decide)) T.b_Machine_rooms .nil pass0)) (blkOk_by (own := [("room", 2)]) (N := ["machine", "rooms", "room"]) (sc := defScope s_with_long) (by decide +kernel)) (fun _ _ _ _ _ => (pg_name (i := 2) sc_with_long.nd rfl (.inl rfl))) (fun _ _ _ _ _ => pts_nil) (fun _ _ _ _ _ => (pe_tupN (pa_cons (pv 2) (pa_cons (pe_meth (pv 0) T.cl_Machine T.m_Machine_stay (ok_Machine_stay T) (hr.mono (by decide)) T.b_Machine_stay .nil pass0 (pa_cons (pv 2) pa_nil)) pa_nil))))) rfl)
      (pss_one (ps_ret (pe_makeN T.mk_Machine (ok_Machine_init T) (hr.mono (by decide)) rfl T.g_Machine T.b_Machine_init .nil (passes_call (takes_of rfl rfl rfl rfl) (fun _ _ _ _ z => z)) (pa_cons (pe_op op_catN (pe_meth0 (pv 0) T.cl_Machine T.m_Machine_watches (ok_Machine_watches T) (hr.mono (by decide)) T.b_Machine_watches .nil pass0) (pe_lstN (pa_cons (pe_glob (v := .str "/") rfl T.g_LONG ⟨_, rfl⟩) pa_nil))) (pa_cons (pv 1) (pa_cons (pe_meth0 (pv 0) T.cl_Machine T.m_Machine_doors (ok_Machine_doors T) (hr.mono (by decide)) T.b_Machine_doors .nil pass0) pa_nil))))))), ?_⟩
    obtain ⟨dx, wn, rn, sl, dl, a, _⟩ := id hm
    have r64 := ok.r64
    have w7 := ok.w7
    have mno : ∀ {m : Str}, ¬ m = "watch_names" → ¬ m = "room_names" → ¬ m = "stay_looks" → ¬ m = "door_list" → (machF wn rn sl dl).lookup m = none := fun h1 h2 h3 h4 => mach_no h1 h2 h3 h4
    refine seq_step ?_
    refine lcg_src ?_
    refine ⟨_, rfl, pm, dx, _, rfl, a, mno (by decide +kernel) (by decide +kernel) (by decide +kernel) (by decide +kernel), pm, M, rfl, hm, fun nq H1 s1 f1 e1 => ?_⟩
    refine ⟨nq, rfl, ⟨_, .of e1⟩, ?_⟩
    refine lcMD (R := RqAt) RqAt.keep' (F := id) (zs := M.rooms) e1 (by simp) (by simp; omega) (fun i x z H2 Yes hx hz s2 hy => ?_) (fun rq H2 s2 f2 e2 => ?_)
    · rw [List.getElem?_map, List.getElem?_map, hz] at hx
      obtain rfl : x = .str z.1 := by simpa using hx.symm
      have s12 := s1.trans s2
      walk_at "rd"
      refine ⟨_, rfl, pm, dx, _, rfl, s12 _ _ a, mno (by decide +kernel) (by decide +kernel) (by decide +kernel) (by decide +kernel), ?_⟩
      walk_at "rd"
      refine ⟨pm, M, z, rfl, hm.keep s12, List.mem_of_getElem? hz, ok.rnd, fun l H3 s3 f3 e3 => ?_⟩
      walk_at "rd"
      exact fun t H4 s4 f4 e4 => hy t H4 (s3.trans s4) fun D acc fD eD => ⟨l, del_at (fun y => by rw [y, s3 _ _ eD] at f4; cases f4) e4, (e3.keep s4).del (fun y => by rw [y, eD] at f3; cases f3) ((s3.trans s4) _ _ eD)⟩
    · have e2 : RsAt H2 rq M.rooms := SeqD.seq RqAt.keep' (by simpa using e2)
      walk_at "rd"
      simp only [tMakeN]
      walk_at "rd"
      have s12 := s1.trans s2
      refine ⟨_, rfl, pm, dx, _, rfl, s12 _ _ a, mno (by decide +kernel) (by decide +kernel) (by decide +kernel) (by decide +kernel), pm, M, rfl, hm.keep s12, fun wq H3 s3 f3 e3 => ?_⟩
      walk_at "rd"
      intro sl1 H4 s4 f4 e4
      refine ⟨_, s4 _ _ e3, _, e4, small1000' (by rw [List.length_map]; simp; omega), fun w2 H5 s5 f5 e5 => ?_⟩
      have s15 := s12.trans (s3.trans (s4.trans s5))
      refine ⟨_, rfl, pm, dx, _, rfl, s15 _ _ a, mno (by decide +kernel) (by decide +kernel) (by decide +kernel) (by decide +kernel), pm, M, rfl, hm.keep s15, fun dq H6 dqs s6 f6 e6 l6 d6 => ?_⟩
      walk_at "rd"
      intro p dx' H7 s7 f7 e7
      have e5' : H5 w2 = some (.lst ((longW M.watches).map V.str)) := by rw [e5]; unfold longW; rw [List.map_append]; rfl
      have s17 := s15.trans (s6.trans s7)
      have tx : ∀ x ∈ longW M.watches, x.length ≤ 1000 := fun x hx => by
        rcases List.mem_append.mp hx with h | h
        · have := okWatch_len (ok.watch x h); omega
        · have : x = "/" := by simpa using h
          rw [this]; decide +kernel
      cases c : areW (longW M.watches) with
      | false =>
        refine .inr ⟨p, dx', w2, _, _, longW M.watches, rfl, e7, (s6.trans s7) _ _ e5', by unfold longW; simp; omega, tx, c, fun H8 s8 => q2 c H8 (s17.trans s8)⟩
      | true =>
        have d7 := d6 H s15 hm
        refine .inl ⟨p, dx', w2, rq, dq, longM M, rfl, e7, (s6.trans s7) _ _ e5', e2.keep (s3.trans (s4.trans (s5.trans (s6.trans s7)))), ⟨dqs, s7 _ _ e6, l6, fun i q x h1 h2 => (d7 i q x h1 h2).keep s17⟩, ok.long c, fun H8 off mach _ => ⟨rfl, ?_⟩⟩
        refine q1 c p H8 (fun b o e => off.2 b o (s17 _ _ e) fun y => ?_) mach
        have := (s15.trans s6) _ _ e
        rw [y, f7] at this; cases this
def spCutOff (K : PySem.W.Frag) (CM CD CN : Addr) : Sp := fun vs H Q E => ∃ (pm : Addr) (M : MachD) (r : Str), vs = [.ref pm, .str r] ∧ MachAt CM CD H pm M ∧ MachOk M ∧ r.length ≤ 1000 ∧ (r ∈ M.rooms.map (·.1) → ∀ q H', Same H H' → MachAt CM CD H' q (coM r M) → Q (.ref q) H') ∧ (r ∉ M.rooms.map (·.1) → ∀ H', Same H H' → E (.ref CN) none H')
theorem ok_cut_off (T : Top K mg) : FnOk P w K mg base (L2.CX P w) 8 T.f_cut_off T.d_cut_off ["machine", "room"] (spCutOff K T.C_Machine T.C_Door T.C_NoMark) := by
  refine T.F_cut_off.okX sc_cut_off (fun vs H Q E h => ?_) (fun cdv A outer s H vs Q E hr h => ?_)
  · obtain ⟨pm, M, r, rfl, _⟩ := h; rfl
  · obtain ⟨pm, M, r, rfl, hm, ok, r1000, q1, q2⟩ := h
    refine ⟨_, (pss_cons (ps_if (pt_cmpR (op_notIn_seqA (K := K) rfl) (pv 1) (pe_meth0 (pv 0) T.cl_Machine T.m_Machine_rooms (ok_Machine_rooms T) (hr.mono (by decide)) T.b_Machine_rooms .nil pass0) (by rfl)) (pss_one (ps_raise rfl (takes_of rfl rfl rfl rfl) (pmk_own PySem.F.excBase_ValueError T.x_NoMark T.g_NoMark T.k_NoMark (raises_own T.b_NoMark T.t_NoMark) rfl))) pss_nil)
      (pss_cons (ps_set (i := 2) sc_cut_off.nd rfl (.inl rfl) (pe_lstN pa_nil))
      (pss_cons (ps_for (passes_of rfl) rfl (pi_listA (K := K) rfl (pe_meth0 (pv 0) T.cl_Machine T.m_Machine_doors (ok_Machine_doors T) (hr.mono (by decide)) T.b_Machine_doors .nil pass0)) (pg_name (i := 3) sc_cut_off.nd rfl (.inl rfl)) (pss_cons (ps_if (PW.pt (pw_or (pt_cmpR op_eq (pv 1) (pe_fldA (K := K) rfl (pv 3) rfl) (nomark _)) (pw_or1 (pt_cmpR op_eq (pv 1) (pe_fldA (K := K) rfl (pv 3) rfl) (nomark _))))) (pss_one (ps_set (i := 3) sc_cut_off.nd rfl (.inl rfl) (pe_makeN T.mk_Door (ok_Door_init T) (hr.mono (by decide)) rfl T.g_Door T.b_Door_init .nil pass0 (pa_cons (pe_fldA (K := K) rfl (pv 3) rfl) (pa_cons (pe_fldA (K := K) rfl (pv 3) rfl) (pa_cons (pe_meth0 (pv 3) T.cl_Door T.m_Door_asks (ok_Door_asks T) (hr.mono (by decide)) T.b_Door_asks .nil pass0) (pa_cons (pe_meth0 (pv 3) T.cl_Door T.m_Door_sets (ok_Door_sets T) (hr.mono (by decide)) T.b_Door_sets .nil pass0) (pa_cons pe_str pa_nil)))))))) pss_nil)
      (pss_one (ps_expr (pe_bm PySem.F.plainAttrs_list PySem.F.slot_list_append PySem.F.type_list_append mt_append (pv 2) (pa_cons (pv 3) pa_nil))))))
      (pss_one (ps_ret (pe_makeN T.mk_Machine (ok_Machine_init T) (hr.mono (by decide)) rfl T.g_Machine T.b_Machine_init .nil (passes_call (takes_of rfl rfl rfl rfl) (fun _ _ _ _ z => z)) (pa_cons (pe_meth0 (pv 0) T.cl_Machine T.m_Machine_watches (ok_Machine_watches T) (hr.mono (by decide)) T.b_Machine_watches .nil pass0) (pa_cons (lc_vs (vs := [4]) (pe_lc (own := [("name", 4)]) (g := gName 4) (tt := tYes) rfl sc_cut_off.nd (pi_listA (K := K) rfl (pe_meth0 (pv 0) T.cl_Machine T.m_Machine_rooms (ok_Machine_rooms T) (hr.mono (by decide)) T.b_Machine_rooms .nil pass0)) (blkOk_by (own := [("name", 4)]) (N := ["machine", "room", "doors", "door", "name"]) (sc := defScope s_cut_off) (by decide +kernel)) (fun _ _ _ _ _ => (pg_name (i := 4) sc_cut_off.nd rfl (.inl rfl))) (fun _ _ _ _ _ => pts_nil) (fun _ _ _ _ _ => (pe_tupN (pa_cons (pv 4) (pa_cons (pe_meth (pv 0) T.cl_Machine T.m_Machine_stay (ok_Machine_stay T) (hr.mono (by decide)) T.b_Machine_stay .nil pass0 (pa_cons (pv 4) pa_nil)) pa_nil))))) rfl) (pa_cons (pv 2) pa_nil))))))))), ?_⟩
    obtain ⟨dx, wn, rn, sl, dl, a, _⟩ := id hm
    have r64 := ok.r64
    have w7 := ok.w7
    have d200 := ok.d200
    have mno : ∀ {m : Str}, ¬ m = "watch_names" → ¬ m = "room_names" → ¬ m = "stay_looks" → ¬ m = "door_list" → (machF wn rn sl dl).lookup m = none := fun h1 h2 h3 h4 => mach_no h1 h2 h3 h4
    refine seq_step ?_
    walk_at "rd"
    refine ⟨_, rfl, pm, dx, _, rfl, a, mno (by decide +kernel) (by decide +kernel) (by decide +kernel) (by decide +kernel), pm, M, rfl, hm, fun nq H1 s1 f1 e1 => ?_⟩
    refine ⟨nq, _, rfl, .inl (.of e1), rfl, flat_of, ?_⟩
    rw [inV_str]
    by_cases c : r ∈ M.rooms.map (·.1)
    rotate_left
    · rw [decide_eq_false c]
      walk_at "rd"
      exact q2 c H1 s1
    have q1 := q1 c
    rw [decide_eq_true c]
    walk_at "rd"
    refine seq_step ?_
    walk_at "rd"
    intro bl H2 s2 f2 e2
    have s12 := s1.trans s2
    refine seq_step ?_
    refine for_li ?_
    refine ⟨_, rfl, pm, dx, _, rfl, s12 _ _ a, mno (by decide +kernel) (by decide +kernel) (by decide +kernel) (by decide +kernel), pm, M, rfl, hm.keep s12, fun dq H3 dqs s3 f3 e3 l3 d3 => ?_⟩
    have d3 := d3 H s12 hm
    have s23 := s2.trans s3
    have fbl : H bl = none := s1.free f2
    have bne : ∀ b o, H b = some o → b ≠ bl := fun b o e z => by rw [z, fbl] at e; cases e
    refine ⟨dq, rfl, forL_by (xs := dqs.map V.ref) (fun i σ' H' => (∃ v3, σ' = [some (.ref pm), some (.str r), some (.ref bl), v3, none]) ∧ Same H H' ∧ H' dq = some (.lst (dqs.map V.ref)) ∧ SeqD (DoorAt T.C_Door) H' bl ((M.doors.take i).map (cutD r))) ⟨⟨_, rfl⟩, s1.trans s23, e3, SeqD.nil (s3 _ _ e2)⟩ (fun i σ H' _ ⟨_, _, k, _⟩ => .of k) ?_ ?_⟩
    · rintro i x σ' H4 hi ⟨⟨v3, rfl⟩, s4, e4, sd⟩
      rw [List.getElem?_map] at hi
      obtain ⟨qd, h1, rfl⟩ := Option.map_eq_some_iff.mp hi
      have hil := (List.getElem?_eq_some_iff.mp h1).1
      have hz := List.getElem?_eq_getElem (l := M.doors) (i := i) (by omega)
      have dz := d3 i qd _ h1 hz
      have dk := ok.door (List.mem_of_getElem? hz)
      have tk : (M.doors.take (i + 1)).map (cutD r) = (M.doors.take i).map (cutD r) ++ [cutD r M.doors[i]] := by rw [List.take_add_one, hz, List.map_append]; rfl
      generalize M.doors[i] = z at *
      obtain ⟨ddx, dg, dn, da, db, dc⟩ := id dz
      have dno : ∀ {m : Str}, ¬ m = "start" → ¬ m = "end" → ¬ m = "sign" → ¬ m = "looks" → ¬ m = "backs" → (doorF z.st z.en z.sg dg dn).lookup m = none := fun h1 h2 h3 h4 h5 => door_no h1 h2 h3 h4 h5
      obtain ⟨bqs, w1, w2, w3⟩ := id sd
      have bl_d : dq ≠ bl := fun y => by rw [← y, f3] at e2; cases e2
      walk_at "rd"
      refine join_op (fun σ' H' => ∃ p, σ' = [some (.ref pm), some (.str r), some (.ref bl), some (.ref p), none] ∧ Same H4 H' ∧ DoorAt T.C_Door (delH bl H') p (cutD r z)) ?r1 (fun R' way => ?_)
      case r1 =>
        rintro σ' H5 ⟨p, rfl, s5, dp⟩
        walk_at "rd"
        obtain ⟨items, it1, it2, it3⟩ := (sd.keep doorKeep s5).app doorKeep dp
        refine ⟨_, rfl, .inl ⟨rfl, _, .of it1⟩, ?_⟩
        walk_at "rd"
        refine app_at it1 (by rw [it2, List.length_map, List.length_take]; omega) ?_
        walk_at "rd"
        refine ⟨⟨_, rfl⟩, same_updN fbl (s4.trans s5), by rw [upd_ne bl_d]; exact s5 _ _ e4, ?_⟩
        rw [tk]; exact it3
      have dt : ∀ {H' : Hp}, Same H H' → DoorAt T.C_Door (delH bl H') qd z := fun {H'} s => dz.keep fun b o e => del_at (bne b o e) (s _ _ e)
      walk_at "rd"
      refine ⟨_, rfl, _, rfl, qd, _, ddx, _, _, rfl, s4 _ _ da, T.cl_Door, T.n_Door_start, door_start, ?_⟩
      walk_at "rd"
      refine ite_d (fun c => ?_) (fun c => ?_)
      rotate_left
      refine ⟨_, rfl, qd, _, ddx, _, _, rfl, s4 _ _ da, T.cl_Door, T.n_Door_end, door_end, ?_⟩
      walk_at "rd"
      refine ite_d (fun c2 => ?_) (fun c2 => ?_)
      rotate_left
      · refine way _ _ ⟨qd, rfl, Same.refl _, ?_⟩
        have : cutD r z = z := by unfold cutD; exact if_neg fun h => h.elim (fun h => c (by rw [h])) (fun h => c2 (by rw [h]))
        rw [this]; exact dt s4
      all_goals
        have hc : r = z.st ∨ r = z.en := by first | exact .inl (by injection c) | exact .inr (by injection c2)
        have ecut : cutD r z = ⟨z.st, z.en, "cut!", z.looks, z.backs⟩ := by unfold cutD; exact if_pos hc
        walk_at "rd"
        simp only [tMakeN]
        walk_at "rd"
        refine ⟨_, rfl, qd, _, ddx, _, _, rfl, s4 _ _ da, T.cl_Door, T.n_Door_start, door_start, ?_⟩
        refine ⟨_, rfl, qd, _, ddx, _, _, rfl, s4 _ _ da, T.cl_Door, T.n_Door_end, door_end, ?_⟩
        refine ⟨_, rfl, qd, ddx, _, rfl, s4 _ _ da, dno (by decide +kernel) (by decide +kernel) (by decide +kernel) (by decide +kernel) (by decide +kernel), qd, z, rfl, dz.keep s4, fun ga H5 s5 f5 e5 => ?_⟩
        have s45 := s4.trans s5
        refine ⟨_, rfl, qd, ddx, _, rfl, s45 _ _ da, dno (by decide +kernel) (by decide +kernel) (by decide +kernel) (by decide +kernel) (by decide +kernel), qd, z, rfl, dz.keep s45, fun na H6 s6 f6 e6 => ?_⟩
        walk_at "rd"
        intro p dx' H7 s7 f7 e7
        obtain ⟨gs, ga1, ga2, ga3⟩ := id e5
        refine ⟨p, dx', ga, na, z.st, z.en, "cut!", _, _, rfl, e7, (s6.trans s7) _ _ ga1, s7 _ _ e6, fun g' n' H8 k8 fg fn e8 eg en => ⟨rfl, ?_⟩⟩
        have w17 := (s5.trans (s6.trans s7)) _ _ w1
        have s68 : Same H6 H8 := fun b o e => k8 b o (s7 _ _ e) fun y => by rw [y, f7] at e; cases e
        have s48 := s5.trans (s6.trans s68)
        refine way _ _ ⟨p, rfl, s48, ?_⟩
        rw [ecut]
        have lg : LsAt H8 g' z.looks := ⟨gs, eg, ga2, fun i q x h1 h2 => (ga3 i q x h1 h2).keep (s6.trans s68)⟩
        exact ⟨dx', g', n', del_at (fun y => by rw [y, (s5.trans s6) _ _ w1] at f7; cases f7) e8, lg.del (fun y => by rw [y, w17] at fg; cases fg) (s48 _ _ w1), del_at (fun y => by rw [y, w17] at fn; cases fn) en⟩
    · rintro σ' H4 ⟨⟨v3, rfl⟩, s4, e4, sd⟩
      rw [List.length_map, l3, List.take_length] at sd
      walk_at "rd"
      simp only [tMakeN]
      walk_at "rd"
      refine ⟨_, rfl, pm, dx, _, rfl, s4 _ _ a, mno (by decide +kernel) (by decide +kernel) (by decide +kernel) (by decide +kernel), pm, M, rfl, hm.keep s4, fun wq H5 s5 f5 e5 => ?_⟩
      have s45 := s4.trans s5
      refine lcg_src ?_
      refine ⟨_, rfl, pm, dx, _, rfl, s45 _ _ a, mno (by decide +kernel) (by decide +kernel) (by decide +kernel) (by decide +kernel), pm, M, rfl, hm.keep s45, fun nq' H6 s6 f6 e6 => ?_⟩
      have s46 := s45.trans s6
      refine ⟨nq', rfl, ⟨_, .of e6⟩, ?_⟩
      refine lcMD (R := RqAt) RqAt.keep' (F := id) (zs := M.rooms) e6 (by simp) (by simp; omega) (fun i x z H7 Yes hx hz s7 hy => ?_) (fun rq H7 s7 f7 e7 => ?_)
      · rw [List.getElem?_map, List.getElem?_map, hz] at hx
        obtain rfl : x = .str z.1 := by simpa using hx.symm
        have s47 := s46.trans s7
        walk_at "rd"
        refine ⟨_, rfl, pm, dx, _, rfl, s47 _ _ a, mno (by decide +kernel) (by decide +kernel) (by decide +kernel) (by decide +kernel), ?_⟩
        walk_at "rd"
        refine ⟨pm, M, z, rfl, hm.keep s47, List.mem_of_getElem? hz, ok.rnd, fun l H8 s8 f8 e8 => ?_⟩
        walk_at "rd"
        exact fun t H9 s9 f9 e9 => hy t H9 (s8.trans s9) fun D acc fD eD => ⟨l, del_at (fun y => by rw [y, s8 _ _ eD] at f9; cases f9) e9, (e8.keep s9).del (fun y => by rw [y, eD] at f8; cases f8) ((s8.trans s9) _ _ eD)⟩
      have e7 : RsAt H7 rq M.rooms := SeqD.seq RqAt.keep' (by simpa using e7)
      walk_at "rd"
      intro p dx' H8 s8 f8 e8
      have s48 := s5.trans (s6.trans (s7.trans s8))
      refine .inl ⟨p, dx', wq, rq, bl, coM r M, rfl, e8, (s6.trans (s7.trans s8)) _ _ e5, e7.keep s8, DsAt.keep (sd.seq doorKeep) s48, ok.cut r, fun H9 off mach _ => ⟨rfl, ?_⟩⟩
      refine q1 p H9 (fun b o e => off.2 b o ((s4.trans s48) _ _ e) fun y => ?_) mach
      have := (s46.trans s7) _ _ e
      rw [y, f8] at this; cases this
def spLTold (K : PySem.W.Frag) (CM CD : Addr) : Sp := fun vs H Q _ => ∃ (pm : Addr) (M : MachD), vs = [.ref pm] ∧ MachAt CM CD H pm M ∧ MachOk M ∧ ∀ q H', Same H H' → TM H' q M → Q (.ref q) H'
theorem ok_l_told (T : Top K mg) : FnOk P w K mg base CX0 3 T.f_l_told T.d_l_told ["_law_machine_here"] (spLTold K T.C_Machine T.C_Door) := by
  refine T.F_l_told.ok sc_l_told (fun vs H Q E h => ?_) (fun cdv A outer s H vs Q E hr h => ?_)
  · obtain ⟨pm, M, rfl, _⟩ := h; rfl
  · obtain ⟨pm, M, rfl, hm, ok, q⟩ := h
    refine ⟨_, (pss_cons (lc_vsS (vs := [3]) (ps_setLc (i := 1) (own := [("_law_room", 3)]) (g := gName 3) (tt := tYes) rfl sc_l_told.nd rfl rfl (sw_true rfl rfl rfl (by decide +kernel)) (pi_listA (K := K) rfl (pe_meth0 (pv 0) T.cl_Machine T.m_Machine_rooms (ok_Machine_rooms T) (hr.mono (by decide)) T.b_Machine_rooms .nil pass0)) (blkOk_by (own := [("_law_room", 3)]) (N := ["_law_machine_here", "_law_rooms", "_law_doors", "_law_room", "_law_door_here"]) (sc := defScope s_l_told) (by decide +kernel)) (fun _ _ _ _ _ => (pg_name (i := 3) sc_l_told.nd rfl (.inl rfl))) (fun _ _ _ _ _ => pts_nil) (fun _ _ _ _ _ => (pe_tupN (pa_cons (pv 3) (pa_cons (pe_meth (pv 0) T.cl_Machine T.m_Machine_stay (ok_Machine_stay T) (hr.mono (by decide)) T.b_Machine_stay .nil pass0 (pa_cons (pv 3) pa_nil)) pa_nil))))) rfl)
      (pss_cons (lc_vsS (vs := [4]) (ps_setLc (i := 2) (own := [("_law_door_here", 4)]) (g := gName 4) (tt := tYes) rfl sc_l_told.nd rfl rfl (sw_true rfl rfl rfl (by decide +kernel)) (pi_listA (K := K) rfl (pe_meth0 (pv 0) T.cl_Machine T.m_Machine_doors (ok_Machine_doors T) (hr.mono (by decide)) T.b_Machine_doors .nil pass0)) (blkOk_by (own := [("_law_door_here", 4)]) (N := ["_law_machine_here", "_law_rooms", "_law_doors", "_law_room", "_law_door_here"]) (sc := defScope s_l_told) (by decide +kernel)) (fun _ _ _ _ _ => (pg_name (i := 4) sc_l_told.nd rfl (.inl rfl))) (fun _ _ _ _ _ => pts_nil) (fun _ _ _ _ _ => (pe_tupN (pa_cons (pe_fldA (K := K) rfl (pv 4) rfl) (pa_cons (pe_fldA (K := K) rfl (pv 4) rfl) (pa_cons (pe_meth0 (pv 4) T.cl_Door T.m_Door_asks (ok_Door_asks T) (hr.mono (by decide)) T.b_Door_asks .nil pass0) (pa_cons (pe_meth0 (pv 4) T.cl_Door T.m_Door_sets (ok_Door_sets T) (hr.mono (by decide)) T.b_Door_sets .nil pass0) (pa_cons (pe_fldA (K := K) rfl (pv 4) rfl) pa_nil)))))))) rfl)
      (pss_one (ps_ret (pe_tupN (pa_cons (pe_meth0 (pv 0) T.cl_Machine T.m_Machine_watches (ok_Machine_watches T) (hr.mono (by decide)) T.b_Machine_watches .nil pass0) (pa_cons (pv 1) (pa_cons (pv 2) pa_nil)))))))), ?_⟩
    obtain ⟨dx, wn, rn, sl, dl, a, _⟩ := id hm
    have r64 := ok.r64
    have w7 := ok.w7
    have d200 := ok.d200
    have mno : ∀ {m : Str}, ¬ m = "watch_names" → ¬ m = "room_names" → ¬ m = "stay_looks" → ¬ m = "door_list" → (machF wn rn sl dl).lookup m = none := fun h1 h2 h3 h4 => mach_no h1 h2 h3 h4
    refine seq_step ?_
    refine lcg_src ?_
    refine ⟨_, rfl, pm, dx, _, rfl, a, mno (by decide +kernel) (by decide +kernel) (by decide +kernel) (by decide +kernel), pm, M, rfl, hm, fun nq H1 s1 f1 e1 => ?_⟩
    refine ⟨nq, rfl, ⟨_, .of e1⟩, ?_⟩
    refine lcMD (R := RqAt) RqAt.keep' (F := id) (zs := M.rooms) e1 (by simp) (by simp; omega) (fun i x z H2 Yes hx hz s2 hy => ?_) (fun rq H2 s2 f2 e2 => ?_)
    · rw [List.getElem?_map, List.getElem?_map, hz] at hx
      obtain rfl : x = .str z.1 := by simpa using hx.symm
      have s12 := s1.trans s2
      walk_at "rd"
      refine ⟨_, rfl, pm, dx, _, rfl, s12 _ _ a, mno (by decide +kernel) (by decide +kernel) (by decide +kernel) (by decide +kernel), ?_⟩
      walk_at "rd"
      refine ⟨pm, M, z, rfl, hm.keep s12, List.mem_of_getElem? hz, ok.rnd, fun l H3 s3 f3 e3 => ?_⟩
      walk_at "rd"
      exact fun t H4 s4 f4 e4 => hy t H4 (s3.trans s4) fun D acc fD eD => ⟨l, del_at (fun y => by rw [y, s3 _ _ eD] at f4; cases f4) e4, (e3.keep s4).del (fun y => by rw [y, eD] at f3; cases f3) ((s3.trans s4) _ _ eD)⟩
    · have e2 : RsAt H2 rq M.rooms := SeqD.seq RqAt.keep' (by simpa using e2)
      have s12 := s1.trans s2
      walk_at "rd"
      refine seq_step ?_
      refine lcg_src ?_
      refine ⟨_, rfl, pm, dx, _, rfl, s12 _ _ a, mno (by decide +kernel) (by decide +kernel) (by decide +kernel) (by decide +kernel), pm, M, rfl, hm.keep s12, fun dq H3 dqs s3 f3 e3 l3 d3 => ?_⟩
      have d3 := d3 H s12 hm
      have s13 := s12.trans s3
      refine ⟨dq, rfl, ⟨_, .of e3⟩, ?_⟩
      refine lcMD (R := TDAt) TDAt.keep (F := id) (zs := M.doors) e3 (by simp [l3]) (by simp; omega) (fun i x z H4 Yes hx hz s4 hy => ?_) (fun tq H4 s4 f4 e4 => ?_)
      · rw [List.getElem?_map] at hx
        obtain ⟨qd, h1, rfl⟩ := Option.map_eq_some_iff.mp hx
        have dz := (d3 i qd z h1 hz).keep (s13.trans s4)
        obtain ⟨ddx, dg, dn, da, _⟩ := id dz
        have dno : ∀ {m : Str}, ¬ m = "start" → ¬ m = "end" → ¬ m = "sign" → ¬ m = "looks" → ¬ m = "backs" → (doorF z.st z.en z.sg dg dn).lookup m = none := fun h1 h2 h3 h4 h5 => door_no h1 h2 h3 h4 h5
        walk_at "rd"
        refine ⟨_, rfl, qd, _, ddx, _, _, rfl, da, T.cl_Door, T.n_Door_start, door_start, ?_⟩
        refine ⟨_, rfl, qd, _, ddx, _, _, rfl, da, T.cl_Door, T.n_Door_end, door_end, ?_⟩
        refine ⟨_, rfl, qd, ddx, _, rfl, da, dno (by decide +kernel) (by decide +kernel) (by decide +kernel) (by decide +kernel) (by decide +kernel), qd, z, rfl, dz, fun ga H5 s5 f5 e5 => ?_⟩
        refine ⟨_, rfl, qd, ddx, _, rfl, s5 _ _ da, dno (by decide +kernel) (by decide +kernel) (by decide +kernel) (by decide +kernel) (by decide +kernel), qd, z, rfl, dz.keep s5, fun na H6 s6 f6 e6 => ?_⟩
        refine ⟨_, rfl, qd, _, ddx, _, _, rfl, (s5.trans s6) _ _ da, T.cl_Door, T.n_Door_sign, door_sign, ?_⟩
        walk_at "rd"
        intro t H7 s7 f7 e7
        refine hy t H7 (s5.trans (s6.trans s7)) fun D acc fD eD => ⟨ga, na, del_at (fun y => by rw [y, (s5.trans s6) _ _ eD] at f7; cases f7) e7, (e5.keep (s6.trans s7)).del (fun y => by rw [y, eD] at f5; cases f5) ((s5.trans (s6.trans s7)) _ _ eD), del_at (fun y => by rw [y, s5 _ _ eD] at f6; cases f6) (s7 _ _ e6)⟩
      have e4 : SeqOf TDAt H4 tq M.doors := SeqD.seq TDAt.keep (by simpa using e4)
      have s14 := s13.trans s4
      walk_at "rd"
      refine ⟨_, rfl, pm, dx, _, rfl, s14 _ _ a, mno (by decide +kernel) (by decide +kernel) (by decide +kernel) (by decide +kernel), pm, M, rfl, hm.keep s14, fun wq H5 s5 f5 e5 => ?_⟩
      walk_at "rd"
      intro t H6 s6 f6 e6
      exact q t H6 (s14.trans (s5.trans s6)) ⟨wq, rq, tq, e6, s6 _ _ e5, e2.keep (s3.trans (s4.trans (s5.trans s6))), SeqOf.keep (fun _ _ => TDAt.keep _ _ _ _ (s5.trans s6)) (s5.trans s6) e4⟩
def spScale45 : Sp := fun vs H Q _ => ∃ (ps : Addr) (S : Spec), vs = [.ref ps] ∧ SpecAt H ps S ∧ SpecOk S ∧ ∀ (m : Int) (H' : Hp), Same H H' → 1 ≤ m → Sz 213 m → Q (.int m) H'
theorem nums_list {K : PySem.W.Frag} {ls : List Lq} (h : NumsOk ls) : ∃ ns : List Int, ls.map (fun l : Lq => l.2.2) = ns.map V.int ∧ ns.length = ls.length ∧ ∀ n ∈ ns, 0 ≤ n ∧ Sz 210 n := by
  induction ls with
  | nil => exact ⟨[], rfl, rfl, fun n h => by cases h⟩
  | cons l ls ih =>
    obtain ⟨n, e, n0, sz⟩ := h l List.mem_cons_self
    obtain ⟨ns, e2, l2, k⟩ := ih fun x hx => h x (List.mem_cons_of_mem _ hx)
    refine ⟨n :: ns, by rw [List.map_cons, List.map_cons, e, e2], by simp [l2], fun m hm => ?_⟩
    rcases List.mem_cons.mp hm with rfl | hm
    · exact ⟨n0, sz⟩
    · exact k m hm
theorem ok_l_scale (T : Top K mg) : FnOk P w K mg base CX0 1 T.f_l_scale T.d_l_scale ["_law_spec"] spScale45 := by
  refine T.F_l_scale.ok sc_l_scale (fun vs H Q E h => ?_) (fun cdv A outer s H vs Q E hr h => ?_)
  · obtain ⟨ps, S, rfl, _⟩ := h; rfl
  · obtain ⟨ps, S, rfl, hs, ok, q⟩ := h
    refine ⟨_, (pss_cons (ps_set (i := 1) sc_l_scale.nd rfl (.inl rfl) pe_int)
      (pss_cons (ps_for PassesOwn.never rfl (pi_listA (K := K) rfl (pe_ix (ix_tupA (K := K) rfl) (pv 0) pe_int (fun _ _ => rfl))) (pg_tupA (K := K) (n := 2) rfl (by rfl) (pgs_cons (pg_name (i := 2) sc_l_scale.nd rfl (.inl rfl)) (pgs_cons (pg_name (i := 3) sc_l_scale.nd rfl (.inl rfl)) pgs_nil))) (pss_one (ps_set (i := 1) sc_l_scale.nd rfl (.inl rfl) (pe_callB (cr_max rfl) (by rfl) T.m_max (by decide +kernel) (pa_cons (pe_op op_catN (pe_lstN (pa_cons (pv 1) pa_nil)) (lc_vs (vs := [9, 10, 11]) (pe_lc (own := [("_law_watch", 9), ("_law_word", 10), ("_law_number_here", 11)]) (tt := tYes) rfl sc_l_scale.nd (pi_listA (K := K) rfl (pv 3)) (blkOk_by (own := [("_law_watch", 9), ("_law_word", 10), ("_law_number_here", 11)]) (N := ["_law_spec", "_law_most", "_law_name", "_law_stay_here", "_law_begin", "_law_end", "_law_guard_here", "_law_noughts", "_law_sign", "_law_watch", "_law_word", "_law_number_here"]) (sc := defScope s_l_scale) (by decide +kernel)) (fun _ _ _ _ _ => (pg_tupA (K := K) (n := 3) rfl (by rfl) (pgs_cons (pg_name (i := 9) sc_l_scale.nd rfl (.inl rfl)) (pgs_cons (pg_name (i := 10) sc_l_scale.nd rfl (.inl rfl)) (pgs_cons (pg_name (i := 11) sc_l_scale.nd rfl (.inl rfl)) pgs_nil))))) (fun _ _ _ _ _ => pts_nil) (fun _ _ _ _ _ => (pv 11))) rfl)) pa_nil)))))
      (pss_cons (ps_for PassesOwn.never rfl (pi_listA (K := K) rfl (pe_ix (ix_tupA (K := K) rfl) (pv 0) pe_int (fun _ _ => rfl))) (pg_tupA (K := K) (n := 5) rfl (by rfl) (pgs_cons (pg_name (i := 4) sc_l_scale.nd rfl (.inl rfl)) (pgs_cons (pg_name (i := 5) sc_l_scale.nd rfl (.inl rfl)) (pgs_cons (pg_name (i := 6) sc_l_scale.nd rfl (.inl rfl)) (pgs_cons (pg_name (i := 7) sc_l_scale.nd rfl (.inl rfl)) (pgs_cons (pg_name (i := 8) sc_l_scale.nd rfl (.inl rfl)) pgs_nil)))))) (pss_one (ps_set (i := 1) sc_l_scale.nd rfl (.inl rfl) (pe_callB (cr_max rfl) (by rfl) T.m_max (by decide +kernel) (pa_cons (pe_op op_catN (pe_lstN (pa_cons (pv 1) pa_nil)) (lc_vs (vs := [9, 10, 11]) (pe_lc (own := [("_law_watch", 9), ("_law_word", 10), ("_law_number_here", 11)]) (tt := tYes) rfl sc_l_scale.nd (pi_listA (K := K) rfl (pv 6)) (blkOk_by (own := [("_law_watch", 9), ("_law_word", 10), ("_law_number_here", 11)]) (N := ["_law_spec", "_law_most", "_law_name", "_law_stay_here", "_law_begin", "_law_end", "_law_guard_here", "_law_noughts", "_law_sign", "_law_watch", "_law_word", "_law_number_here"]) (sc := defScope s_l_scale) (by decide +kernel)) (fun _ _ _ _ _ => (pg_tupA (K := K) (n := 3) rfl (by rfl) (pgs_cons (pg_name (i := 9) sc_l_scale.nd rfl (.inl rfl)) (pgs_cons (pg_name (i := 10) sc_l_scale.nd rfl (.inl rfl)) (pgs_cons (pg_name (i := 11) sc_l_scale.nd rfl (.inl rfl)) pgs_nil))))) (fun _ _ _ _ _ => pts_nil) (fun _ _ _ _ _ => (pv 11))) rfl)) pa_nil)))))
      (pss_one (ps_ret (pv 1)))))), ?_⟩
    obtain ⟨pw, pr, pd, es, hw, hrs, hds⟩ := id hs
    obtain ⟨rqs, r1, r2, r3⟩ := id hrs
    obtain ⟨dqs, d1, d2, d3⟩ := id hds
    refine seq_step ?_
    walk_at "rd"
    refine seq_step ?_
    refine for_li ?_
    walk_at "rd"
    refine ix_t (sqt es) (by decide) rfl ?_
    obtain ⟨Iv, hIv⟩ : ∃ Iv : Nat → L2.St → Hp → Prop, ∀ i σ' H', Iv i σ' H' ↔ (∃ v2 v3 v4 v5 v6 v7 v8 v9 v10 v11, ∃ m : Int, σ' = [some (.ref ps), some (.int m), v2, v3, v4, v5, v6, v7, v8, v9, v10, v11] ∧ Same H H' ∧ 1 ≤ m ∧ Sz 213 m) := ⟨_, fun _ _ _ => Iff.rfl⟩
    refine ⟨_, rfl, forL_by (xs := rqs.map V.ref) Iv ((hIv _ _ _).mpr ⟨_, _, _, _, _, _, _, _, _, _, 1, rfl, Same.refl _, by decide, by unfold Sz; decide⟩) (fun i σ H' _ h => (fun (⟨_, _, _, _, _, _, _, _, _, _, _, _, k, _⟩ : ∃ _ _ _ _ _ _ _ _ _ _, ∃ _ : Int, _ ∧ Same _ _ ∧ _) => .of (k _ _ r1)) ((hIv _ _ _).mp h)) ?_ ?_⟩
    · rintro i x σ' H' hi hinv
      obtain ⟨v2, v3, v4, v5, v6, v7, v8, v9, v10, v11, m, rfl, s', m1, m2⟩ := (hIv _ _ _).mp hinv
      rw [List.getElem?_map] at hi
      obtain ⟨qi, h1, rfl⟩ := Option.map_eq_some_iff.mp hi
      have hil := (List.getElem?_eq_some_iff.mp h1).1
      obtain ⟨r, hr⟩ : ∃ r, S.rooms[i]? = some r := ⟨_, List.getElem?_eq_getElem (by omega)⟩
      obtain ⟨g, e, hg⟩ := r3 i qi r h1 hr
      have sto := ok.st r (List.mem_of_getElem? hr)
      have nok := sto.2.2
      have gl2 := sto.2.1
      generalize r.2 = LS at *
      refine gTup_of (sqt (s' _ _ e)) rfl ?_
      walk_at "rd"
      intro p1 Ha sa fa ea
      refine lcg_src ?_
      walk_at "rd"
      obtain ⟨lq, l1, l2, l3⟩ := hg
      have s0a := s'.trans sa
      refine ⟨⟨_, .of (s0a _ _ l1)⟩, ?_⟩
      obtain ⟨ns, en, nl, nb⟩ := nums_list (K := K) nok
      refine lcF (F := fun l : Lq => l.2.2) (zs := LS) (s0a _ _ l1) (by simp [l2]) (by simp; omega) (fun j x z Hb Yes hx hz sb hy => ?_) (fun p2 Hb sb fb eb => ?_)
      · rw [List.getElem?_map] at hx
        obtain ⟨qj, h2, rfl⟩ := Option.map_eq_some_iff.mp hx
        obtain ⟨ez, _⟩ := l3 j qj z h2 hz
        refine gTup_of (sqt ((s0a.trans sb) _ _ ez)) rfl ?_
        walk_at "rd"
        exact hy _ (Same.refl _)
      rw [en] at eb
      walk_at "rd"
      refine ⟨_, sb _ _ ea, _, eb, by simp; exact small1000' (by omega), fun p3 Hc sc fc ec => ?_⟩
      refine ⟨p3, m :: ns, rfl, .of ec, by simp, fun mx hmx hle => ?_⟩
      refine (hIv _ _ _).mpr ⟨_, _, _, _, _, _, _, _, _, _, mx, rfl, s'.trans (sa.trans (sb.trans sc)), ?_, ?_⟩
      · have := hle m List.mem_cons_self; omega
      · rcases List.mem_cons.mp hmx with rfl | h
        · exact m2
        · exact (nb mx h).2.mono (by decide)
    · rintro σ' H' hinv
      obtain ⟨v2, v3, v4, v5, v6, v7, v8, v9, v10, v11, m, rfl, s', m1, m2⟩ := (hIv _ _ _).mp hinv
      walk_at "rd"
      refine seq_step ?_
      refine for_li ?_
      walk_at "rd"
      refine ix_t (sqt (s' _ _ es)) (by decide) rfl ?_
      refine ⟨_, rfl, forL_by (xs := dqs.map V.ref) Iv ((hIv _ _ _).mpr ⟨_, _, _, _, _, _, _, _, _, _, m, rfl, s', m1, m2⟩) (fun i σ H' _ h => (fun (⟨_, _, _, _, _, _, _, _, _, _, _, _, k, _⟩ : ∃ _ _ _ _ _ _ _ _ _ _, ∃ _ : Int, _ ∧ Same _ _ ∧ _) => .of (k _ _ d1)) ((hIv _ _ _).mp h)) ?_ ?_⟩
      · rintro i x σ' H' hi hinv
        obtain ⟨v2, v3, v4, v5, v6, v7, v8, v9, v10, v11, m, rfl, s', m1, m2⟩ := (hIv _ _ _).mp hinv
        rw [List.getElem?_map] at hi
        obtain ⟨qi, h1, rfl⟩ := Option.map_eq_some_iff.mp hi
        have hil := (List.getElem?_eq_some_iff.mp h1).1
        obtain ⟨d, hd⟩ : ∃ d, S.doors[i]? = some d := ⟨_, List.getElem?_eq_getElem (by omega)⟩
        obtain ⟨g, nn, e, hg, _⟩ := d3 i qi d h1 hd
        have sto := ok.d d (List.mem_of_getElem? hd)
        have nok := sto.2.2.2.2.1
        have gl2 := sto.2.2.2.1
        generalize d.gd = LS at *
        refine gTup_of (sqt (s' _ _ e)) rfl ?_
        walk_at "rd"
        intro p1 Ha sa fa ea
        refine lcg_src ?_
        walk_at "rd"
        obtain ⟨lq, l1, l2, l3⟩ := hg
        have s0a := s'.trans sa
        refine ⟨⟨_, .of (s0a _ _ l1)⟩, ?_⟩
        obtain ⟨ns, en, nl, nb⟩ := nums_list (K := K) nok
        refine lcF (F := fun l : Lq => l.2.2) (zs := LS) (s0a _ _ l1) (by simp [l2]) (by simp; omega) (fun j x z Hb Yes hx hz sb hy => ?_) (fun p2 Hb sb fb eb => ?_)
        · rw [List.getElem?_map] at hx
          obtain ⟨qj, h2, rfl⟩ := Option.map_eq_some_iff.mp hx
          obtain ⟨ez, _⟩ := l3 j qj z h2 hz
          refine gTup_of (sqt ((s0a.trans sb) _ _ ez)) rfl ?_
          walk_at "rd"
          exact hy _ (Same.refl _)
        rw [en] at eb
        walk_at "rd"
        refine ⟨_, sb _ _ ea, _, eb, by simp; exact small1000' (by omega), fun p3 Hc sc fc ec => ?_⟩
        refine ⟨p3, m :: ns, rfl, .of ec, by simp, fun mx hmx hle => ?_⟩
        refine (hIv _ _ _).mpr ⟨_, _, _, _, _, _, _, _, _, _, mx, rfl, s'.trans (sa.trans (sb.trans sc)), ?_, ?_⟩
        · have := hle m List.mem_cons_self; omega
        · rcases List.mem_cons.mp hmx with rfl | h
          · exact m2
          · exact (nb mx h).2.mono (by decide)
      · rintro σ' H' hinv
        obtain ⟨v2, v3, v4, v5, v6, v7, v8, v9, v10, v11, m, rfl, s', m1, m2⟩ := (hIv _ _ _).mp hinv
        walk_at "rd"
        exact q m H' s' m1 m2
theorem makeN_of {C : Addr} {sp : Sp} {dvs : List V} {E : XK} {t : TA} {σ : L2.St} {H : Hp} {Q : VK} (h : t σ H fun vs H1 => ∀ x dx H2, Same H1 H2 → H1 x = none → H2 x = some (.ins C dx []) → sp (.ref x :: (vs ++ dvs)) H2 (fun v H3 => v = .non ∧ Q (.ref x) H3) E) : tMakeN C sp dvs E t σ H Q := h
/-! ### an expression that goes either of two ways -/
def tOrE (a b : TE) : TE := fun σ H Q => a σ H Q ∨ b σ H Q
theorem pe_alt {X : Cx} {e : Expr} {a b : TE} (ha : PE X e a) (hb : PE X e b) : PE X e (tOrE a b) := ⟨fun pins s σ H Q I h => h.elim (fun h => ha.run pins s σ H Q I h) (fun h => hb.run pins s σ H Q I h)⟩
/-! ### claims on the heap; methods called within a try -/
section
variable {X : Cx} {CX : CXT} {k : Nat} {f C : Addr} {fd : FuncData} {ps : List Str} {sp : Sp} {E : L2.St → XK} {m : Str} {pos apos : PySem.Pos} {o e : Expr} {es : List Expr} {ta : TE} {t : TA} {ds : List Value} {dvs : List V}
def tMethSD (C : Addr) (m : Str) (sp : Sp) (dvs : List V) (E : L2.St → XK) (to : TE) (t : TA) : TE := fun σ H Q => to σ H fun x H1 => ∃ a dx fs, x = .ref a ∧ H1 a = some (.ins C dx fs) ∧ fs.lookup m = none ∧ t σ H1 fun vs H2 => sp (.ref a :: (vs ++ dvs)) H2 Q (E σ)
theorem pe_methS {pl : Sem Bool} (he : PE X o ta) (c : Cls X.K C) (hm : Meth X.K C m f) (F : FnOk X.prog X.w X.K X.mg X.base CX k f fd ps sp) (hr : Room k X.A) (hb : Binds X.K fd ps ds) (hd : Vals dvs ds) (hx : ∀ σ, PassesAt CX X σ (E σ)) (ha : PA X (e :: es) t)
    (hst : starEach (e :: es) X.env = (false, eval e X.env) :: starEach es X.env := by rfl) (hpl : (backTo pos (starEach es X.env)).any (·.1) = false := by rfl)
    (ht : eval (.Call (.Attribute o m apos) (e :: es) [] pos) X.env = (do
      let ov ← eval o X.env
      standAt apos.atName
      let (f, first) ← holding [ov] (getMethod ov m pl)
      callWith pos f first (backTo pos (starEach (e :: es) X.env)) (backToKw pos (keywordEach [] X.env))) := by rfl) :
    PE X (.Call (.Attribute o m apos) (e :: es) [] pos) (tMethSD C m sp dvs E ta t) := by
  refine ⟨fun pins s σ H Q I h => ?_⟩
  refine PySem.W.methodCall_KW (pl := pl) (thn (he.run pins s σ H _ I h) fun u s1 ⟨x, H1, I1, rx, a, dx, fs, ex, ea, l, q⟩ => ?_) ht
  subst ex
  obtain rfl : u = Value.ref a := rx
  refine getmeth_ok I1 ea c hm l ?_
  refine PySem.W.callWith_K (first := [.ref a]) (h₀ := X.base) I.ok.mod.kin hm.kp (thn (ha.run pos pins s1 σ H1 _ I1 q) fun us s2 ⟨vs, H2, I2, r, q2⟩ => ⟨I2.kIn, ?_⟩) hst hpl
  exact run_fnSD (us := .ref a :: us) (vs := .ref a :: vs) F hr hb hd (hx σ) I2 (.cons rfl r) q2
end
/-- the look that a long watch is below a number -/
def untilL (v : V) : Lq := ("/", "<", v)
def neverF (r : Str) (g : Addr) : List (Str × V) := putF "guard" (.ref g) (putF "room" (.str r) [])
def soonerF (r : Str) (g : Addr) (v : V) : List (Str × V) := putF "number" v (neverF r g)
def withinF (r : Str) (v : V) : List (Str × V) := putF "number" v (putF "room" (.str r) [])
section
variable {r : Str} {g : Addr} {v : V} {m : Str}
theorem never_room : (neverF r g).lookup ("room" : Str) = some (V.str r) := by unfold neverF; walk_at "lk"
theorem never_guard : (neverF r g).lookup ("guard" : Str) = some (V.ref g) := by unfold neverF; walk_at "lk"
theorem never_no (h1 : ¬ m = "room") (h2 : ¬ m = "guard") : (neverF r g).lookup m = none := by
  unfold neverF; rw [lookup_putF, if_neg h2, lookup_putF, if_neg h1]; rfl
theorem sooner_room : (soonerF r g v).lookup ("room" : Str) = some (V.str r) := by unfold soonerF neverF; walk_at "lk"
theorem sooner_guard : (soonerF r g v).lookup ("guard" : Str) = some (V.ref g) := by unfold soonerF neverF; walk_at "lk"
theorem sooner_number : (soonerF r g v).lookup ("number" : Str) = some v := by unfold soonerF neverF; walk_at "lk"
theorem sooner_no (h1 : ¬ m = "room") (h2 : ¬ m = "guard") (h3 : ¬ m = "number") : (soonerF r g v).lookup m = none := by
  unfold soonerF; rw [lookup_putF, if_neg h3]; exact never_no h1 h2
theorem within_room : (withinF r v).lookup ("room" : Str) = some (V.str r) := by unfold withinF; walk_at "lk"
theorem within_number : (withinF r v).lookup ("number" : Str) = some v := by unfold withinF; walk_at "lk"
theorem within_no (h1 : ¬ m = "room") (h3 : ¬ m = "number") : (withinF r v).lookup m = none := by
  unfold withinF; rw [lookup_putF, if_neg h3, lookup_putF, if_neg h1]; rfl
end
def NeverAt (C : Addr) (H : Hp) (p : Addr) (r : Str) (G : List Lq) : Prop := ∃ dx g, H p = some (.ins C dx (neverF r g)) ∧ LsAt H g G
def SoonerAt (C : Addr) (H : Hp) (p : Addr) (r : Str) (G : List Lq) (v : V) : Prop := ∃ dx g, H p = some (.ins C dx (soonerF r g v)) ∧ LsAt H g G
def WithinAt (C : Addr) (H : Hp) (p : Addr) (r : Str) (v : V) : Prop := ∃ dx, H p = some (.ins C dx (withinF r v))
theorem NeverAt.keep {C : Addr} {H H' : Hp} {p : Addr} {r : Str} {G : List Lq} (s : Same H H') (h : NeverAt C H p r G) : NeverAt C H' p r G := by
  obtain ⟨dx, g, a, b⟩ := h
  exact ⟨dx, g, s _ _ a, b.keep s⟩
theorem SoonerAt.keep {C : Addr} {H H' : Hp} {p : Addr} {r : Str} {G : List Lq} {v : V} (s : Same H H') (h : SoonerAt C H p r G v) : SoonerAt C H' p r G v := by
  obtain ⟨dx, g, a, b⟩ := h
  exact ⟨dx, g, s _ _ a, b.keep s⟩
theorem WithinAt.keep {C : Addr} {H H' : Hp} {p : Addr} {r : Str} {v : V} (s : Same H H') (h : WithinAt C H p r v) : WithinAt C H' p r v := by
  obtain ⟨dx, a⟩ := h
  exact ⟨dx, s _ _ a⟩
/-- a goal whose list and whose guards' lists are new -/
def GoalN (H0 H : Hp) (q : Addr) (gs : List Rq) : Prop := H0 q = none ∧ ∃ ts gl : List Addr, H q = some (.lst (ts.map V.ref)) ∧ ts.length = gs.length ∧ gl.length = gs.length ∧ ∀ (i : Nat) (t g : Addr) (r : Rq), ts[i]? = some t → gl[i]? = some g → gs[i]? = some r → H t = some (.tup [.str r.1, .ref g]) ∧ LsAt H g r.2 ∧ H0 g = none
theorem GoalN.rs {H0 H : Hp} {q : Addr} {gs : List Rq} (h : GoalN H0 H q gs) : RsAt H q gs := by
  obtain ⟨_, ts, gl, a, b, c, d⟩ := h
  refine ⟨ts, a, b, fun i t r h1 h2 => ?_⟩
  obtain ⟨g, hg⟩ : ∃ g, gl[i]? = some g := ⟨_, List.getElem?_eq_getElem (by rw [c]; exact (List.getElem?_eq_some_iff.mp h2).1)⟩
  obtain ⟨x, y, _⟩ := d i t g r h1 hg h2
  exact ⟨g, x, y⟩
theorem GoalN.one {H0 H : Hp} {q t g : Addr} {r : Str} {G : List Lq} (h0 : H0 q = none) (h1 : H q = some (.lst [.ref t])) (h2 : H t = some (.tup [.str r, .ref g])) (h3 : LsAt H g G) (h4 : H0 g = none) : GoalN H0 H q [(r, G)] :=
  ⟨h0, [t], [g], h1, rfl, rfl, fun i t' g' r' a b c => by
    match i, a, b, c with
    | 0, a, b, c => cases a; cases b; cases c; exact ⟨h2, h3, h4⟩⟩
theorem ls_copy {H H' : Hp} {l : Addr} {G : List Lq} {qs : List Addr} (h : ∀ (i : Nat) (q : Addr) (x : Lq), qs[i]? = some q → G[i]? = some x → LqAt H q x) (hl : qs.length = G.length) (s : Same H H') (e : H' l = some (.lst (qs.map V.ref))) : LsAt H' l G := ⟨qs, e, hl, fun i q x h1 h2 => (h i q x h1 h2).keep s⟩
def spNeverInit (C : Addr) : Sp := fun vs H Q _ => ∃ (p dx g : Addr) (r : Str) (G : List Lq), vs = [.ref p, .str r, .ref g] ∧ H p = some (.ins C dx []) ∧ LsAt H g G ∧ ∀ g' H', (∀ b o, H b = some o → b ≠ p → H' b = some o) → H g' = none → H' p = some (.ins C dx (neverF r g')) → LsAt H' g' G → Q .non H'
theorem ok_Never_init (T : Top K mg) : FnOk P w K mg base CX0 1 T.f_Never_init T.d_Never_init ["self", "room", "guard"] (spNeverInit T.C_Never) := by
  refine T.F_Never_init.ok sc_Never_init (fun vs H Q E h => ?_) (fun cdv A outer s H vs Q E hr h => ?_)
  · obtain ⟨p, dx, g, r, G, rfl, _⟩ := h; rfl
  · obtain ⟨p, dx, g, r, G, rfl, hp, ⟨qs, g1, g2, g3⟩, q⟩ := h
    refine ⟨_, (pss_cons (ps_fld (pv 0) (pv 1) rfl)
      (pss_one (ps_fld (pv 0) (pe_callTy (call_listA (K := K) rfl) (by rfl) T.m_list (by decide +kernel) (pa_cons (pv 2) pa_nil)) rfl))), ?_⟩
    have pg : g ≠ p := ne_of g1 hp (by intro z; cases z)
    refine seq_step ?_
    refine ⟨_, rfl, _, rfl, p, _, dx, _, rfl, hp, T.cl_Never, T.n_Never_room, (by show 0 < 1000; decide), ?_⟩
    refine ⟨_, rfl, g, _, rfl, .inl (.of (by rw [upd_ne pg]; exact g1)), fun g' H2 s2 f2 e2 => ?_⟩
    have p2 : g' ≠ p := fun z => by rw [z, upd_same] at f2; cases f2
    refine ⟨_, rfl, p, _, dx, _, rfl, s2 _ _ upd_same, T.cl_Never, T.n_Never_guard, (by show 1 < 1000; decide), ?_⟩
    rw [upd_ne p2] at f2
    have k02 : ∀ b o, H b = some o → b ≠ p → H2 b = some o := fun b o e z => s2 _ _ (by rw [upd_ne z]; exact e)
    refine q g' _ (fun b o e z => by rw [upd_ne z]; exact k02 b o e z) f2 upd_same ⟨qs, by rw [upd_ne p2]; exact e2, g2, fun i q x h1 h2 => ?_⟩
    obtain ⟨a, b⟩ := g3 i q x h1 h2
    have qp : q ≠ p := ne_of a hp (by intro z; cases z)
    exact ⟨by rw [upd_ne qp]; exact k02 _ _ a qp, b⟩
def spNamed (At : Hp → Addr → Str → List Lq → Prop) : Sp := fun vs H Q _ => ∃ (p : Addr) (r : Str) (G : List Lq), vs = [.ref p] ∧ At H p r G ∧ ∀ q H', Same H H' → GoalN H H' q [(r, G)] → Q (.ref q) H'
theorem ok_Never_named (T : Top K mg) : FnOk P w K mg base CX0 1 T.f_Never_named T.d_Never_named ["self"] (spNamed (NeverAt T.C_Never)) := by
  refine T.F_Never_named.ok sc_Never_named (fun vs H Q E h => ?_) (fun cdv A outer s H vs Q E hr h => ?_)
  · obtain ⟨p, r, G, rfl, _⟩ := h; rfl
  · obtain ⟨p, r, G, rfl, ⟨dx, g, e, qs, g1, g2, g3⟩, q⟩ := h
    refine ⟨_, (pss_one (ps_ret (pe_lstN (pa_cons (pe_tupN (pa_cons (pe_fldA (K := K) rfl (pv 0) rfl) (pa_cons (pe_callTy (call_listA (K := K) rfl) (by rfl) T.m_list (by decide +kernel) (pa_cons (pe_fldA (K := K) rfl (pv 0) rfl) pa_nil)) pa_nil))) pa_nil)))), ?_⟩
    refine ⟨_, rfl, p, _, dx, _, _, rfl, e, T.cl_Never, T.n_Never_room, never_room, _, rfl, p, _, dx, _, _, rfl, e, T.cl_Never, T.n_Never_guard, never_guard, ?_⟩
    refine ⟨g, _, rfl, .inl (.of g1), fun l H1 s1 f1 e1 => ⟨by show 2 ≤ sizeLine; exact small1000' (by decide), fun t H2 s2 f2 e2 => ⟨by show 1 ≤ sizeLine; exact small1000' (by decide), fun q' H3 s3 f3 e3 => ?_⟩⟩⟩
    have s13 := s1.trans (s2.trans s3)
    exact q q' H3 s13 (.one ((s1.trans s2).free f3) e3 (s3 _ _ e2) (ls_copy g3 g2 s13 ((s2.trans s3) _ _ e1)) f1)
theorem ok_Claim_made_of_Never (T : Top K mg) : FnOk P w K mg base CX0 1 T.f_Claim_made_of T.d_Claim_made_of ["self", "machine"] (fun vs H Q _ => ∃ a b, vs = [a, b] ∧ Q b H) := by
  refine T.F_Claim_made_of.ok sc_Claim_made_of (fun vs H Q E h => ?_) (fun cdv A outer s H vs Q E hr h => ?_)
  · obtain ⟨a, b, rfl, _⟩ := h; rfl
  · obtain ⟨a, b, rfl, q⟩ := h
    refine ⟨_, (pss_one (ps_ret (pv 1))), ?_⟩
    exact ⟨_, rfl, q⟩
def spAskedNever (K : PySem.W.Frag) (C CM CD CN : Addr) : Sp := fun vs H Q E => ∃ (p pm : Addr) (r : Str) (G : List Lq) (M : MachD), vs = [.ref p, .ref pm] ∧ NeverAt C H p r G ∧ MachAt CM CD H pm M ∧ G.length ≤ 60 ∧ (markOk M (r, G) = true → ∀ H', Same H H' → Q (.ref pm) H') ∧ (markOk M (r, G) = false → ∀ H', Same H H' → E (.ref CN) none H')
theorem ok_Claim_asked_of_Never (T : Top K mg) : FnOk P w K mg base (L2.CX P w) 10 T.f_Claim_asked_of T.d_Claim_asked_of ["self", "machine"] (spAskedNever K T.C_Never T.C_Machine T.C_Door T.C_NoMark) := by
  refine T.F_Claim_asked_of.okX sc_Claim_asked_of (fun vs H Q E h => ?_) (fun cdv A outer s H vs Q E hr h => ?_)
  · obtain ⟨p, pm, r, G, M, rfl, _⟩ := h; rfl
  · obtain ⟨p, pm, r, G, M, rfl, hc, hm, g60, q1, q2⟩ := h
    refine ⟨_, (pss_cons (ps_set (i := 2) sc_Claim_asked_of.nd rfl (.inl rfl) (pe_meth (pv 0) T.cl_Never T.mi_Never_made_of (ok_Claim_made_of_Never T) (hr.mono (by decide)) T.b_Claim_made_of .nil pass0 (pa_cons (pv 1) pa_nil)))
      (pss_cons (ps_expr (pe_call (ok_checked_goal T) (hr.mono (by decide)) rfl T.g_checked_goal T.F_checked_goal.kp T.b_checked_goal .nil (passes_call (takes_of rfl rfl rfl rfl) (fun _ _ _ _ z => z)) (pa_cons (pv 1) (pa_cons (pe_meth0 (pv 0) T.cl_Never T.m_Never_named (ok_Never_named T) (hr.mono (by decide)) T.b_Never_named .nil pass0) pa_nil))))
      (pss_one (ps_ret (pv 2))))), ?_⟩
    obtain ⟨dx, g, e, _⟩ := id hc
    refine seq_step ?_
    refine ⟨_, rfl, p, dx, _, rfl, e, never_no (by decide +kernel) (by decide +kernel), _, rfl, _, _, rfl, ?_⟩
    refine seq_step ?_
    refine ⟨_, rfl, _, rfl, p, dx, _, rfl, e, never_no (by decide +kernel) (by decide +kernel), p, r, G, rfl, hc, fun pg H1 s1 hg => ?_⟩
    have ev : [(r, G)].all (markOk M) = markOk M (r, G) := by show (markOk M (r, G) && true) = _; rw [Bool.and_true]
    refine .inl ⟨pm, pg, M, [(r, G)], rfl, hm.keep s1, hg.rs, fun x hx => by rw [List.mem_singleton.mp hx]; exact g60, by show 1 ≤ 900; decide, ?_⟩
    rw [ev]
    cases hk : markOk M (r, G) with
    | true => exact .inl ⟨rfl, fun H2 s2 => ⟨_, rfl, q1 hk H2 (s1.trans s2)⟩⟩
    | false => exact .inr ⟨rfl, fun H2 s2 => q2 hk H2 (s1.trans s2)⟩
theorem ok_Claim_goal_on_Never (T : Top K mg) : FnOk P w K mg base CX0 2 T.f_Claim_goal_on T.d_Claim_goal_on ["self", "machine"] (fun vs H Q E => ∃ (p : Addr) (b : V), vs = [.ref p, b] ∧ spNamed (NeverAt T.C_Never) [.ref p] H Q E) := by
  refine T.F_Claim_goal_on.ok sc_Claim_goal_on (fun vs H Q E h => ?_) (fun cdv A outer s H vs Q E hr h => ?_)
  · obtain ⟨p, b, rfl, _⟩ := h; rfl
  · obtain ⟨p, b, rfl, p', r, G, ep, hc, q⟩ := h
    cases ep
    refine ⟨_, (pss_one (ps_ret (pe_meth0 (pv 0) T.cl_Never T.m_Never_named (ok_Never_named T) (hr.mono (by decide)) T.b_Never_named .nil pass0))), ?_⟩
    obtain ⟨dx, g, e, _⟩ := id hc
    exact ⟨_, rfl, p, dx, _, rfl, e, never_no (by decide +kernel) (by decide +kernel), p, r, G, rfl, hc, q⟩
def spNoSoonerInit (C : Addr) : Sp := fun vs H Q _ => ∃ (p dx g : Addr) (r : Str) (G : List Lq) (v : V), vs = [.ref p, .str r, .ref g, v] ∧ H p = some (.ins C dx []) ∧ LsAt H g G ∧ ∀ g' H', (∀ b o, H b = some o → b ≠ p → H' b = some o) → H g' = none → H' p = some (.ins C dx (soonerF r g' v)) → LsAt H' g' G → Q .non H'
theorem ok_NoSooner_init (T : Top K mg) : FnOk P w K mg base CX0 1 T.f_NoSooner_init T.d_NoSooner_init ["self", "room", "guard", "number"] (spNoSoonerInit T.C_NoSooner) := by
  refine T.F_NoSooner_init.ok sc_NoSooner_init (fun vs H Q E h => ?_) (fun cdv A outer s H vs Q E hr h => ?_)
  · obtain ⟨p, dx, g, r, G, v, rfl, _⟩ := h; rfl
  · obtain ⟨p, dx, g, r, G, v, rfl, hp, ⟨qs, g1, g2, g3⟩, q⟩ := h
    refine ⟨_, (pss_cons (ps_fld (pv 0) (pv 1) rfl)
      (pss_cons (ps_fld (pv 0) (pe_callTy (call_listA (K := K) rfl) (by rfl) T.m_list (by decide +kernel) (pa_cons (pv 2) pa_nil)) rfl)
      (pss_one (ps_fld (pv 0) (pv 3) rfl)))), ?_⟩
    have pg : g ≠ p := ne_of g1 hp (by intro z; cases z)
    refine seq_step ?_
    refine ⟨_, rfl, _, rfl, p, _, dx, _, rfl, hp, T.cl_NoSooner, T.n_NoSooner_room, (by show 0 < 1000; decide), ?_⟩
    refine seq_step ?_
    refine ⟨_, rfl, g, _, rfl, .inl (.of (by rw [upd_ne pg]; exact g1)), fun g' H2 s2 f2 e2 => ?_⟩
    have p2 : g' ≠ p := fun z => by rw [z, upd_same] at f2; cases f2
    refine ⟨_, rfl, p, _, dx, _, rfl, s2 _ _ upd_same, T.cl_NoSooner, T.n_NoSooner_guard, (by show 1 < 1000; decide), ?_⟩
    refine ⟨_, rfl, _, rfl, p, _, dx, _, rfl, upd_same, T.cl_NoSooner, T.n_NoSooner_number, (by show 2 < 1000; decide), ?_⟩
    rw [upd_upd]
    rw [upd_ne p2] at f2
    have k02 : ∀ b o, H b = some o → b ≠ p → H2 b = some o := fun b o e z => s2 _ _ (by rw [upd_ne z]; exact e)
    refine q g' _ (fun b o e z => by rw [upd_ne z]; exact k02 b o e z) f2 upd_same ⟨qs, by rw [upd_ne p2]; exact e2, g2, fun i q x h1 h2 => ?_⟩
    obtain ⟨a, b⟩ := g3 i q x h1 h2
    have qp : q ≠ p := ne_of a hp (by intro z; cases z)
    exact ⟨by rw [upd_ne qp]; exact k02 _ _ a qp, b⟩
theorem ok_NoSooner_named (T : Top K mg) : FnOk P w K mg base CX0 1 T.f_NoSooner_named T.d_NoSooner_named ["self"] (spNamed (fun H p r G => ∃ v, SoonerAt T.C_NoSooner H p r G v)) := by
  refine T.F_NoSooner_named.ok sc_NoSooner_named (fun vs H Q E h => ?_) (fun cdv A outer s H vs Q E hr h => ?_)
  · obtain ⟨p, r, G, rfl, _⟩ := h; rfl
  · obtain ⟨p, r, G, rfl, ⟨v, dx, g, e, qs, g1, g2, g3⟩, q⟩ := h
    refine ⟨_, (pss_one (ps_ret (pe_lstN (pa_cons (pe_tupN (pa_cons (pe_fldA (K := K) rfl (pv 0) rfl) (pa_cons (pe_callTy (call_listA (K := K) rfl) (by rfl) T.m_list (by decide +kernel) (pa_cons (pe_fldA (K := K) rfl (pv 0) rfl) pa_nil)) pa_nil))) pa_nil)))), ?_⟩
    refine ⟨_, rfl, p, _, dx, _, _, rfl, e, T.cl_NoSooner, T.n_NoSooner_room, sooner_room, _, rfl, p, _, dx, _, _, rfl, e, T.cl_NoSooner, T.n_NoSooner_guard, sooner_guard, ?_⟩
    refine ⟨g, _, rfl, .inl (.of g1), fun l H1 s1 f1 e1 => ⟨by show 2 ≤ sizeLine; exact small1000' (by decide), fun t H2 s2 f2 e2 => ⟨by show 1 ≤ sizeLine; exact small1000' (by decide), fun q' H3 s3 f3 e3 => ?_⟩⟩⟩
    have s13 := s1.trans (s2.trans s3)
    exact q q' H3 s13 (.one ((s1.trans s2).free f3) e3 (s3 _ _ e2) (ls_copy g3 g2 s13 ((s2.trans s3) _ _ e1)) f1)
theorem ok_NoSooner_made_of (T : Top K mg) : FnOk P w K mg base (L2.CX P w) 9 T.f_NoSooner_made_of T.d_NoSooner_made_of ["self", "machine"] (fun vs H Q E => ∃ a b, vs = [a, b] ∧ spWithLong K T.C_Machine T.C_Door T.C_BadMachine [b] H Q E) := by
  refine T.F_NoSooner_made_of.okX sc_NoSooner_made_of (fun vs H Q E h => ?_) (fun cdv A outer s H vs Q E hr h => ?_)
  · obtain ⟨a, b, rfl, _⟩ := h; rfl
  · obtain ⟨a, b, rfl, q⟩ := h
    refine ⟨_, (pss_one (ps_ret (pe_call (ok_with_long T) (hr.mono (by decide)) rfl T.g_with_long T.F_with_long.kp T.b_with_long .nil (passes_call (takes_of rfl rfl rfl rfl) (fun _ _ _ _ z => z)) (pa_cons (pv 1) pa_nil)))), ?_⟩
    walk_at "rd"
    exact q
def spAskedSooner (K : PySem.W.Frag) (C CM CD CN CB : Addr) : Sp := fun vs H Q E => ∃ (p pm : Addr) (r : Str) (G : List Lq) (v : V) (M : MachD), vs = [.ref p, .ref pm] ∧ SoonerAt C H p r G v ∧ MachAt CM CD H pm M ∧ MachOk M ∧ G.length ≤ 60 ∧
  ((areW (longW M.watches) = false ∧ ∀ H', Same H H' → E (.ref CB) none H') ∨ (areW (longW M.watches) = true ∧ markOk M (r, G) = false ∧ ∀ H', Same H H' → E (.ref CN) none H') ∨
   (areW (longW M.watches) = true ∧ markOk M (r, G) = true ∧ ∀ q H', Same H H' → MachAt CM CD H' q (longM M) → Q (.ref q) H'))
theorem ok_Claim_asked_of_NoSooner (T : Top K mg) : FnOk P w K mg base (L2.CX P w) 10 T.f_Claim_asked_of T.d_Claim_asked_of ["self", "machine"] (spAskedSooner K T.C_NoSooner T.C_Machine T.C_Door T.C_NoMark T.C_BadMachine) := by
  refine T.F_Claim_asked_of.okX sc_Claim_asked_of (fun vs H Q E h => ?_) (fun cdv A outer s H vs Q E hr h => ?_)
  · obtain ⟨p, pm, r, G, v, M, rfl, _⟩ := h; rfl
  · obtain ⟨p, pm, r, G, v, M, rfl, hc, hm, ok, g60, h⟩ := h
    refine ⟨_, (pss_cons (ps_set (i := 2) sc_Claim_asked_of.nd rfl (.inl rfl) (pe_meth (pv 0) T.cl_NoSooner T.m_NoSooner_made_of (ok_NoSooner_made_of T) (hr.mono (by decide)) T.b_NoSooner_made_of .nil (passes_call (takes_of rfl rfl rfl rfl) (fun _ _ _ _ z => z)) (pa_cons (pv 1) pa_nil)))
      (pss_cons (ps_expr (pe_call (ok_checked_goal T) (hr.mono (by decide)) rfl T.g_checked_goal T.F_checked_goal.kp T.b_checked_goal .nil (passes_call (takes_of rfl rfl rfl rfl) (fun _ _ _ _ z => z)) (pa_cons (pv 1) (pa_cons (pe_meth0 (pv 0) T.cl_NoSooner T.m_NoSooner_named (ok_NoSooner_named T) (hr.mono (by decide)) T.b_NoSooner_named .nil pass0) pa_nil))))
      (pss_one (ps_ret (pv 2))))), ?_⟩
    obtain ⟨dx, g, e, _⟩ := id hc
    refine seq_step ?_
    refine ⟨_, rfl, p, dx, _, rfl, e, sooner_no (by decide +kernel) (by decide +kernel) (by decide +kernel), _, rfl, _, _, rfl, pm, M, rfl, hm, ok, fun ha q H1 s1 hq => ?_, fun ha H1 s1 => ?_⟩
    rotate_left
    · rcases h with ⟨_, q⟩ | ⟨h, _⟩ | ⟨h, _⟩
      · exact q H1 s1
      · rw [ha] at h; cases h
      · rw [ha] at h; cases h
    refine seq_step ?_
    refine ⟨_, rfl, _, rfl, p, dx, _, rfl, s1 _ _ e, sooner_no (by decide +kernel) (by decide +kernel) (by decide +kernel), p, r, G, rfl, ⟨v, hc.keep s1⟩, fun pg H2 s2 hg => ?_⟩
    have ev : [(r, G)].all (markOk M) = markOk M (r, G) := by show (markOk M (r, G) && true) = _; rw [Bool.and_true]
    refine .inl ⟨pm, pg, M, [(r, G)], rfl, hm.keep (s1.trans s2), hg.rs, fun x hx => by rw [List.mem_singleton.mp hx]; exact g60, by show 1 ≤ 900; decide, ?_⟩
    rw [ev]
    rcases h with ⟨h, _⟩ | ⟨_, h, q'⟩ | ⟨_, h, q'⟩
    · rw [ha] at h; cases h
    · exact .inr ⟨h, fun H3 s3 => q' H3 (s1.trans (s2.trans s3))⟩
    · exact .inl ⟨h, fun H3 s3 => ⟨_, rfl, q' q H3 (s1.trans (s2.trans s3)) (hq.keep (s2.trans s3))⟩⟩
def spGoalSooner (K : PySem.W.Frag) (C CM CD CN : Addr) : Sp := fun vs H Q E => ∃ (p pm : Addr) (r : Str) (G : List Lq) (v : V) (M : MachD), vs = [.ref p, .ref pm] ∧ SoonerAt C H p r G v ∧ (kindV v).isSome = true ∧ MachAt CM CD H pm M ∧ G.length ≤ 59 ∧
  ((guardOk WORDS M.watches (G ++ [untilL v]) = true ∧ ∀ q H', Same H H' → GoalN H H' q [(r, G ++ [untilL v])] → Q (.ref q) H') ∨ (guardOk WORDS M.watches (G ++ [untilL v]) = false ∧ ∀ H', Same H H' → E (.ref CN) none H'))
theorem ok_NoSooner_goal_on (T : Top K mg) : FnOk P w K mg base (L2.CX P w) 5 T.f_NoSooner_goal_on T.d_NoSooner_goal_on ["self", "machine"] (spGoalSooner K T.C_NoSooner T.C_Machine T.C_Door T.C_NoMark) := by
  refine T.F_NoSooner_goal_on.okX sc_NoSooner_goal_on (fun vs H Q E h => ?_) (fun cdv A outer s H vs Q E hr h => ?_)
  · obtain ⟨p, pm, r, G, v, M, rfl, _⟩ := h; rfl
  · obtain ⟨p, pm, r, G, v, M, rfl, ⟨dx, g, e, qs, g1, g2, g3⟩, hv, hm, g59, h⟩ := h
    refine ⟨_, (pss_cons (ps_set (i := 2) sc_NoSooner_goal_on.nd rfl (.inl rfl) (pe_op op_catN (pe_fldA (K := K) rfl (pv 0) rfl) (pe_lstN (pa_cons (pe_tupN (pa_cons (pe_glob (v := .str "/") rfl T.g_LONG ⟨_, rfl⟩) (pa_cons pe_str (pa_cons (pe_fldA (K := K) rfl (pv 0) rfl) pa_nil)))) pa_nil))))
      (pss_cons (ps_expr (pe_call (ok_placed T) (hr.mono (by decide)) rfl T.g_placed T.F_placed.kp T.b_placed .nil (passes_call (takes_of rfl rfl rfl rfl) (fun _ _ _ _ z => z)) (pa_cons (pv 1) (pa_cons (pv 2) pa_nil))))
      (pss_one (ps_ret (pe_lstN (pa_cons (pe_tupN (pa_cons (pe_fldA (K := K) rfl (pv 0) rfl) (pa_cons (pv 2) pa_nil))) pa_nil)))))), ?_⟩
    refine seq_step ?_
    refine ⟨_, rfl, p, _, dx, _, _, rfl, e, T.cl_NoSooner, T.n_NoSooner_guard, sooner_guard, ?_⟩
    refine ⟨_, rfl, p, _, dx, _, _, rfl, e, T.cl_NoSooner, T.n_NoSooner_number, sooner_number, small1000' (show 3 ≤ 1000 by decide), fun t H1 s1 f1 e1 => ⟨small1000' (show 1 ≤ 1000 by decide), fun l H2 s2 f2 e2 => ⟨g, l, _, _, rfl, rfl, (s1.trans s2) _ _ g1, e2, small1000' (by rw [List.length_map]; simp; omega), fun pg H3 s3 f3 e3 => ?_⟩⟩⟩
    have s13 := s1.trans (s2.trans s3)
    have hg3 : LsAt H3 pg (G ++ [untilL v]) := ⟨qs ++ [t], by rw [e3, List.map_append]; rfl, by simp [g2], fun i q x h1 h2 => by
      by_cases c : i < qs.length
      · rw [List.getElem?_append_left c] at h1
        rw [List.getElem?_append_left (by omega)] at h2
        exact (g3 i q x h1 h2).keep s13
      · have hl := (List.getElem?_eq_some_iff.mp h1).1
        rw [List.length_append, List.length_singleton] at hl
        rw [List.getElem?_append_right (by omega), show i - qs.length = 0 by omega] at h1
        rw [List.getElem?_append_right (by omega), show i - G.length = 0 by omega] at h2
        cases h1; cases h2
        exact ⟨(s2.trans s3) _ _ e1, hv⟩⟩
    have fpg : H pg = none := (s1.trans s2).free f3
    refine seq_step ?_
    walk_at "rd"
    refine seq_step ?_
    walk_at "rd"
    refine .inl ⟨pm, pg, M, G ++ [untilL v], rfl, hm.keep s13, hg3, by rw [List.length_append]; show G.length + 1 ≤ 60; omega, ?_⟩
    rcases h with ⟨hk, q⟩ | ⟨hk, q⟩
    · refine .inl ⟨hk, fun pp H4 s4 f4 _ => ?_⟩
      have s14 := s13.trans s4
      refine ⟨_, rfl, p, _, dx, _, _, rfl, s14 _ _ e, T.cl_NoSooner, T.n_NoSooner_room, sooner_room, fun t2 H5 s5 f5 e5 q' H6 s6 f6 e6 => ?_⟩
      exact q q' H6 (s14.trans (s5.trans s6)) (.one ((s14.trans s5).free f6) e6 (s6 _ _ e5) (hg3.keep (s4.trans (s5.trans s6))) fpg)
    · exact .inr ⟨hk, fun H4 s4 => q H4 (s13.trans s4)⟩
/-! ### claims of the third kind -/
def aboveL (v : V) : Lq := ("/", ">", v)
/-- each other room, with the long watch above the number -/
def restG (r : Str) (v : V) (M : MachD) : List Rq := (M.rooms.filter fun x => decide (x.1 ≠ r)).map fun x => (x.1, [aboveL v])
theorem rest_fil {r : Str} {ls : List Lq} (L : List Rq) : L.filterMap (fun x : Rq => if x.1 ≠ r then some (x.1, ls) else none) = (L.filter fun x => decide (x.1 ≠ r)).map fun x => (x.1, ls) := by
  induction L with
  | nil => rfl
  | cons a l ih => by_cases c : a.1 = r <;> simp_all
def NRq (H0 H : Hp) (t : Addr) (x : Rq) : Prop := ∃ g, H t = some (.tup [.str x.1, .ref g]) ∧ LsAt H g x.2 ∧ H0 g = none
theorem NRq.keep {H0 : Hp} : ∀ (H H' : Hp) (t : Addr) (x : Rq), Same H H' → NRq H0 H t x → NRq H0 H' t x := fun _ _ _ _ s ⟨g, a, b, c⟩ => ⟨g, s _ _ a, b.keep s, c⟩
def RsN (H0 H : Hp) (q : Addr) (gs : List Rq) : Prop := H0 q = none ∧ SeqOf (NRq H0) H q gs
theorem RsN.rs {H0 H : Hp} {q : Addr} {gs : List Rq} (h : RsN H0 H q gs) : RsAt H q gs := by
  obtain ⟨_, ts, a, b, c⟩ := h
  exact ⟨ts, a, b, fun i t x h1 h2 => by
    obtain ⟨g, u, v, _⟩ := c i t x h1 h2
    exact ⟨g, u, v⟩⟩
def spWithinInit (C : Addr) : Sp := fun vs H Q _ => ∃ (p dx : Addr) (r : Str) (v : V), vs = [.ref p, .str r, v] ∧ H p = some (.ins C dx []) ∧ ∀ H', (∀ b o, H b = some o → b ≠ p → H' b = some o) → H' p = some (.ins C dx (withinF r v)) → Q .non H'
theorem ok_Within_init (T : Top K mg) : FnOk P w K mg base CX0 1 T.f_Within_init T.d_Within_init ["self", "room", "number"] (spWithinInit T.C_Within) := by
  refine T.F_Within_init.ok sc_Within_init (fun vs H Q E h => ?_) (fun cdv A outer s H vs Q E hr h => ?_)
  · obtain ⟨p, dx, r, v, rfl, _⟩ := h; rfl
  · obtain ⟨p, dx, r, v, rfl, hp, q⟩ := h
    refine ⟨_, (pss_cons (ps_fld (pv 0) (pv 1) rfl)
      (pss_one (ps_fld (pv 0) (pv 2) rfl))), ?_⟩
    refine seq_step ?_
    refine ⟨_, rfl, _, rfl, p, _, dx, _, rfl, hp, T.cl_Within, T.n_Within_room, (by show 0 < 1000; decide), ?_⟩
    refine ⟨_, rfl, _, rfl, p, _, dx, _, rfl, upd_same, T.cl_Within, T.n_Within_number, (by show 1 < 1000; decide), ?_⟩
    rw [upd_upd]
    exact q _ (fun b o e z => by rw [upd_ne z]; exact e) upd_same
theorem ok_Within_named (T : Top K mg) : FnOk P w K mg base CX0 1 T.f_Within_named T.d_Within_named ["self"] (fun vs H Q _ => ∃ (p : Addr) (r : Str) (v : V), vs = [.ref p] ∧ WithinAt T.C_Within H p r v ∧ ∀ q H', Same H H' → GoalN H H' q [(r, [])] → Q (.ref q) H') := by
  refine T.F_Within_named.ok sc_Within_named (fun vs H Q E h => ?_) (fun cdv A outer s H vs Q E hr h => ?_)
  · obtain ⟨p, r, v, rfl, _⟩ := h; rfl
  · obtain ⟨p, r, v, rfl, ⟨dx, e⟩, q⟩ := h
    refine ⟨_, (pss_one (ps_ret (pe_lstN (pa_cons (pe_tupN (pa_cons (pe_fldA (K := K) rfl (pv 0) rfl) (pa_cons (pe_lstN pa_nil) pa_nil))) pa_nil)))), ?_⟩
    refine ⟨_, rfl, p, _, dx, _, _, rfl, e, T.cl_Within, T.n_Within_room, within_room, ?_⟩
    refine ⟨by show 0 ≤ sizeLine; exact Nat.zero_le _, fun l H1 s1 f1 e1 => ⟨by show 2 ≤ sizeLine; exact small1000' (by decide), fun t H2 s2 f2 e2 => ⟨by show 1 ≤ sizeLine; exact small1000' (by decide), fun q' H3 s3 f3 e3 => ?_⟩⟩⟩
    have s13 := s1.trans (s2.trans s3)
    have l0 : LsAt H3 l [] := ⟨[], (s2.trans s3) _ _ e1, rfl, fun i q x h => by simp at h⟩
    exact q q' H3 s13 (.one ((s1.trans s2).free f3) e3 (s3 _ _ e2) l0 f1)
/-- what is told of the machine that it is asked of -/
def spMadeWithin (K : PySem.W.Frag) (C CM CD CN CB : Addr) : Sp := fun vs H Q E => ∃ (p pm : Addr) (r : Str) (v : V) (M : MachD), vs = [.ref p, .ref pm] ∧ WithinAt C H p r v ∧ MachAt CM CD H pm M ∧ MachOk M ∧ r.length ≤ 1000 ∧
  ((areW (longW M.watches) = false ∧ ∀ H', Same H H' → E (.ref CB) none H') ∨ (areW (longW M.watches) = true ∧ r ∉ M.rooms.map (·.1) ∧ ∀ H', Same H H' → E (.ref CN) none H') ∨
   (areW (longW M.watches) = true ∧ r ∈ M.rooms.map (·.1) ∧ ∀ q H', Same H H' → MachAt CM CD H' q (coM r (longM M)) → Q (.ref q) H'))
theorem ok_Within_made_of (T : Top K mg) : FnOk P w K mg base (L2.CX P w) 9 T.f_Within_made_of T.d_Within_made_of ["self", "machine"] (spMadeWithin K T.C_Within T.C_Machine T.C_Door T.C_NoMark T.C_BadMachine) := by
  refine T.F_Within_made_of.okX sc_Within_made_of (fun vs H Q E h => ?_) (fun cdv A outer s H vs Q E hr h => ?_)
  · obtain ⟨p, pm, r, v, M, rfl, _⟩ := h; rfl
  · obtain ⟨p, pm, r, v, M, rfl, ⟨dx, e⟩, hm, ok, r1000, h⟩ := h
    refine ⟨_, (pss_one (ps_ret (pe_call (ok_cut_off T) (hr.mono (by decide)) rfl T.g_cut_off T.F_cut_off.kp T.b_cut_off .nil (passes_call (takes_of rfl rfl rfl rfl) (fun _ _ _ _ z => z)) (pa_cons (pe_call (ok_with_long T) (hr.mono (by decide)) rfl T.g_with_long T.F_with_long.kp T.b_with_long .nil (passes_call (takes_of rfl rfl rfl rfl) (fun _ _ _ _ z => z)) (pa_cons (pv 1) pa_nil)) (pa_cons (pe_fldA (K := K) rfl (pv 0) rfl) pa_nil))))), ?_⟩
    walk_at "rd"
    refine ⟨pm, M, rfl, hm, ok, fun ha q1 H1 s1 hq => ?_, fun ha H1 s1 => ?_⟩
    rotate_left
    · rcases h with ⟨_, q⟩ | ⟨h, _⟩ | ⟨h, _⟩
      · exact q H1 s1
      · rw [ha] at h; cases h
      · rw [ha] at h; cases h
    refine ⟨_, rfl, p, _, dx, _, _, rfl, s1 _ _ e, T.cl_Within, T.n_Within_room, within_room, ?_⟩
    refine ⟨q1, longM M, r, rfl, hq, ok.long ha, r1000, fun hr q2 H2 s2 hq2 => ?_, fun hr H2 s2 => ?_⟩
    · rcases h with ⟨h, _⟩ | ⟨_, h, _⟩ | ⟨_, _, q⟩
      · rw [ha] at h; cases h
      · exact absurd hr h
      · exact q q2 H2 (s1.trans s2) hq2
    · rcases h with ⟨h, _⟩ | ⟨_, _, q⟩ | ⟨_, h, _⟩
      · rw [ha] at h; cases h
      · exact q H2 (s1.trans s2)
      · exact absurd h hr
theorem ok_Claim_asked_of_Within (T : Top K mg) : FnOk P w K mg base (L2.CX P w) 10 T.f_Claim_asked_of T.d_Claim_asked_of ["self", "machine"] (spMadeWithin K T.C_Within T.C_Machine T.C_Door T.C_NoMark T.C_BadMachine) := by
  refine T.F_Claim_asked_of.okX sc_Claim_asked_of (fun vs H Q E h => ?_) (fun cdv A outer s H vs Q E hr h => ?_)
  · obtain ⟨p, pm, r, v, M, rfl, _⟩ := h; rfl
  · obtain ⟨p, pm, r, v, M, rfl, hc, hm, ok, r1000, h⟩ := h
    refine ⟨_, (pss_cons (ps_set (i := 2) sc_Claim_asked_of.nd rfl (.inl rfl) (pe_meth (pv 0) T.cl_Within T.m_Within_made_of (ok_Within_made_of T) (hr.mono (by decide)) T.b_Within_made_of .nil (passes_call (takes_of rfl rfl rfl rfl) (fun _ _ _ _ z => z)) (pa_cons (pv 1) pa_nil)))
      (pss_cons (ps_expr (pe_call (ok_checked_goal T) (hr.mono (by decide)) rfl T.g_checked_goal T.F_checked_goal.kp T.b_checked_goal .nil (passes_call (takes_of rfl rfl rfl rfl) (fun _ _ _ _ z => z)) (pa_cons (pv 1) (pa_cons (pe_meth0 (pv 0) T.cl_Within T.m_Within_named (ok_Within_named T) (hr.mono (by decide)) T.b_Within_named .nil pass0) pa_nil))))
      (pss_one (ps_ret (pv 2))))), ?_⟩
    obtain ⟨dx, e⟩ := id hc
    refine seq_step ?_
    refine ⟨_, rfl, p, dx, _, rfl, e, within_no (by decide +kernel) (by decide +kernel), _, rfl, p, pm, r, v, M, rfl, hc, hm, ok, r1000, ?_⟩
    rcases h with ⟨ha, q⟩ | ⟨ha, hr', q⟩ | ⟨ha, hr', q⟩
    · exact .inl ⟨ha, q⟩
    · exact .inr (.inl ⟨ha, hr', q⟩)
    refine .inr (.inr ⟨ha, hr', fun q1 H1 s1 hq => ?_⟩)
    refine seq_step ?_
    refine ⟨_, rfl, _, rfl, p, dx, _, rfl, s1 _ _ e, within_no (by decide +kernel) (by decide +kernel), p, r, v, rfl, ⟨dx, s1 _ _ e⟩, fun pg H2 s2 hg => ?_⟩
    have mk : markOk M (r, []) = true := by unfold markOk; rw [decide_eq_true hr']; rfl
    have ev : [((r, []) : Rq)].all (markOk M) = true := by show (markOk M (r, []) && true) = true; rw [mk]; rfl
    refine .inl ⟨pm, pg, M, [(r, [])], rfl, hm.keep (s1.trans s2), hg.rs, fun x hx => by rw [List.mem_singleton.mp hx]; exact Nat.zero_le _, by show 1 ≤ 900; decide, ?_⟩
    rw [ev]
    exact .inl ⟨rfl, fun H3 s3 => ⟨_, rfl, q q1 H3 (s1.trans (s2.trans s3)) (hq.keep (s2.trans s3))⟩⟩
def spGoalWithin (K : PySem.W.Frag) (C CM CD CN : Addr) : Sp := fun vs H Q E => ∃ (p pm : Addr) (r : Str) (v : V) (M : MachD), vs = [.ref p, .ref pm] ∧ WithinAt C H p r v ∧ (kindV v).isSome = true ∧ MachAt CM CD H pm M ∧ MachOk M ∧
  ((guardOk WORDS M.watches [aboveL v] = true ∧ ∀ q H', Same H H' → RsN H H' q (restG r v M) → Q (.ref q) H') ∨ (guardOk WORDS M.watches [aboveL v] = false ∧ ∀ H', Same H H' → E (.ref CN) none H'))
theorem ok_Within_goal_on (T : Top K mg) : FnOk P w K mg base (L2.CX P w) 5 T.f_Within_goal_on T.d_Within_goal_on ["self", "machine"] (spGoalWithin K T.C_Within T.C_Machine T.C_Door T.C_NoMark) := by
  refine T.F_Within_goal_on.okX sc_Within_goal_on (fun vs H Q E h => ?_) (fun cdv A outer s H vs Q E hr h => ?_)
  · obtain ⟨p, pm, r, v, M, rfl, _⟩ := h; rfl
  · obtain ⟨p, pm, r, v, M, rfl, ⟨dx, e⟩, hv, hm, ok, h⟩ := h
    refine ⟨_, (pss_cons (ps_set (i := 2) sc_Within_goal_on.nd rfl (.inr rfl) (pe_lstN (pa_cons (pe_tupN (pa_cons (pe_glob (v := .str "/") rfl T.g_LONG ⟨_, rfl⟩) (pa_cons pe_str (pa_cons (pe_fldA (K := K) rfl (pv 0) rfl) pa_nil)))) pa_nil)))
      (pss_cons (ps_expr (pe_call (ok_placed T) (hr.mono (by decide)) rfl T.g_placed T.F_placed.kp T.b_placed .nil (passes_call (takes_of rfl rfl rfl rfl) (fun _ _ _ _ z => z)) (pa_cons (pv 1) (pa_cons (pv 2) pa_nil))))
      (pss_one (ps_ret (lc_vs (vs := [3]) (pe_lc (own := [("name", 3)]) (g := gName 3) rfl sc_Within_goal_on.nd (pi_listA (K := K) rfl (pe_meth0 (pv 1) T.cl_Machine T.m_Machine_rooms (ok_Machine_rooms T) (hr.mono (by decide)) T.b_Machine_rooms .nil pass0)) (blkOk_by (own := [("name", 3)]) (N := ["self", "machine", "guard", "name"]) (sc := defScope s_Within_goal_on) (by decide +kernel)) (fun _ _ _ _ _ => (pg_name (i := 3) sc_Within_goal_on.nd rfl (.inl rfl))) (fun _ _ _ _ _ => pts_one (pt_cmpR op_ne (pv 3) (pe_fldA (K := K) rfl (pv 0) rfl) (nomark _))) (fun _ _ _ _ _ => (pe_tupN (pa_cons (pv 3) (pa_cons (pe_callTy (call_listA (K := K) rfl) (by rfl) T.m_list (by decide +kernel) (pa_cons (pv 2) pa_nil)) pa_nil))))) rfl))))), ?_⟩
    refine seq_step ?_
    walk_at "rd"
    refine ⟨_, rfl, p, _, dx, _, _, rfl, e, T.cl_Within, T.n_Within_number, within_number, ?_⟩
    intro t1 H1 s1 f1 e1 gl H2 s2 f2 e2
    have s12 := s1.trans s2
    have hg : LsAt H2 gl [aboveL v] := ⟨[t1], e2, rfl, fun i q x h1 h2 => by
      match i, h1, h2 with
      | 0, h1, h2 => cases h1; cases h2; exact ⟨s2 _ _ e1, hv⟩⟩
    refine seq_step ?_
    walk_at "rd"
    refine .inl ⟨pm, gl, M, [aboveL v], rfl, hm.keep s12, hg, by show 1 ≤ 60; decide, ?_⟩
    rcases h with ⟨hk, q⟩ | ⟨hk, q⟩
    rotate_left
    · exact .inr ⟨hk, fun H4 s4 => q H4 (s12.trans s4)⟩
    refine .inl ⟨hk, fun pp H3 s3 f3 _ => ?_⟩
    obtain ⟨mdx, wn, rn, sl, dl, a, _⟩ := id hm
    have s13 := s12.trans s3
    refine lcg_src ?_
    refine ⟨_, rfl, pm, mdx, _, rfl, s13 _ _ a, mach_no (by decide +kernel) (by decide +kernel) (by decide +kernel) (by decide +kernel), ?_⟩
    refine ⟨pm, M, rfl, hm.keep s13, fun rq H4 s4 f4 e4 => ?_⟩
    have s14 := s13.trans s4
    refine ⟨_, rfl, ⟨_, .of e4⟩, ?_⟩
    have r64 := ok.r64
    refine lcG (RV := fun Hx y x => ∃ t, y = .ref t ∧ NRq H Hx t x) (fun _ _ y x s ⟨t, e, h⟩ => ⟨t, e, NRq.keep _ _ _ _ s h⟩) (F := fun x : Rq => if x.1 ≠ r then some (x.1, [aboveL v]) else none) (zs := M.rooms) e4 (by rw [List.length_map, List.length_map]) (by rw [List.length_map, List.length_map]; omega) (fun i x z H5 Yes No hx hz s5 hy hno => ?_) (fun D H5 s5 f5 h5 => ?_)
    · rw [List.getElem?_map, List.getElem?_map, hz] at hx
      cases hx
      have s15 := s14.trans s5
      walk_at "rd"
      refine ⟨_, rfl, p, _, dx, _, _, rfl, s15 _ _ e, T.cl_Within, T.n_Within_room, within_room, ?_⟩
      refine ⟨rfl, ?_⟩
      by_cases c : z.1 = r
      · rw [decide_eq_true (by rw [c]), Bool.not_true, if_neg Bool.false_ne_true]
        exact hno _ (Same.refl _) (by rw [if_neg (fun h => h c)])
      rw [decide_eq_false (fun h => c (by injection h)), Bool.not_false, if_pos rfl]
      have hg5 : LsAt H5 gl [aboveL v] := hg.keep (s3.trans (s4.trans s5))
      obtain ⟨gqs, g1, g2, g3⟩ := id hg5
      refine ⟨_, .inl (.of g1), fun l H6 s6 f6 e6 t2 H7 s7 f7 e7 => ?_⟩
      refine hy _ _ (s6.trans s7) ⟨_, if_pos c, fun D acc fD eD => ⟨t2, rfl, l, del_at (fun y => by rw [y, s6 _ _ eD] at f7; cases f7) e7, ?_, s15.free f6⟩⟩
      exact LsAt.del (ls_copy g3 g2 (s6.trans s7) (s7 _ _ e6)) (fun y => by rw [y, eD] at f6; cases f6) ((s6.trans s7) _ _ eD)
    · have hs : SeqD (NRq H) H5 D (restG r v M) := by
        have := seqVD_of h5
        have ee : M.rooms.filterMap (fun x : Rq => if x.1 ≠ r then some (x.1, [aboveL v]) else none) = restG r v M := by
          exact rest_fil M.rooms
        rw [ee] at this; exact this
      exact q D H5 (s14.trans s5) ⟨s14.free f5, hs.seq NRq.keep⟩
/-! claims of the law: plain -/
def belowL (n : Int) : Lq := ("/", "<", .int n)
structure ClD where
  k : Nat
  ri : Nat
  G : List Lq
  n : Int
def ClAt (H : Hp) (p : Addr) (c : ClD) : Prop := ∃ g, H p = some (.tup [.int c.k, .int c.ri, .ref g, .int c.n]) ∧ LsAt H g c.G
theorem ClAt.keep {H H' : Hp} {p : Addr} {c : ClD} (s : Same H H') (h : ClAt H p c) : ClAt H' p c := by
  obtain ⟨g, a, b⟩ := h
  exact ⟨g, s _ _ a, b.keep s⟩
structure ClOk (S : Spec) (c : ClD) : Prop where
  k : c.k ≤ 2
  ri : c.ri < S.rooms.length
  len : c.G.length ≤ 2
  gk : guardOk WORDS S.watches c.G = true
  gsz : SzL c.G
  n0 : 0 ≤ c.n
  nsz : Sz 250 c.n
def askC (S : Spec) (c : ClD) : MachD := if c.k = 0 then S.mach else if c.k = 1 then longM S.mach else coM (S.name c.ri) (longM S.mach)
def goalC (S : Spec) (c : ClD) : List Rq := if c.k = 0 then [(S.name c.ri, c.G)] else if c.k = 1 then [(S.name c.ri, c.G ++ [belowL c.n])] else restG (S.name c.ri) (.int c.n) S.mach
theorem above_ok {M : MachD} {n : Int} (n0 : 0 ≤ n) : guardOk WORDS (longM M).watches [aboveL (.int n)] = true := by
  have sl : ("/" : Str) ∈ (longM M).watches := List.mem_append_right _ (List.mem_singleton.mpr rfl)
  show (lookOk WORDS (longM M).watches (aboveL (.int n)) && true) = true
  rw [Bool.and_true]
  unfold lookOk aboveL
  rw [decide_eq_true sl, Bool.true_and, Bool.and_eq_true]
  exact ⟨by rfl, decide_eq_true n0⟩
theorem rest_ok {M : MachD} {r : Str} {n : Int} (n0 : 0 ≤ n) : (restG r (.int n) M).all (markOk (coM r (longM M))) = true := List.all_eq_true.mpr fun z hz => by
  obtain ⟨x, hx, rfl⟩ := List.mem_map.mp hz
  unfold markOk
  rw [Bool.and_eq_true]
  exact ⟨decide_eq_true (List.mem_map.mpr ⟨x, (List.mem_filter.mp hx).1, rfl⟩), above_ok (M := M) n0⟩
theorem below_ok {M : MachD} {G : List Lq} {n : Int} (gk : guardOk WORDS M.watches G = true) (n0 : 0 ≤ n) : guardOk WORDS (longM M).watches (G ++ [belowL n]) = true := List.all_eq_true.mpr fun l hl => by
  have sl : ("/" : Str) ∈ (longM M).watches := List.mem_append_right _ (List.mem_singleton.mpr rfl)
  rcases List.mem_append.mp hl with hl | hl
  · exact lookOk_mono (fun x hx => List.mem_append_left _ hx) (List.all_eq_true.mp gk l hl)
  · rw [List.mem_singleton.mp hl]
    unfold lookOk belowL
    rw [decide_eq_true sl, Bool.true_and, Bool.and_eq_true]
    exact ⟨by rfl, decide_eq_true n0⟩
def spClaim73 : Sp := fun vs H Q _ => ∃ (cell : Int) (ps : Addr) (S : Spec), vs = [.int cell, .ref ps] ∧ SpecAt H ps S ∧ SpecOk S ∧ ∀ (q : Addr) (H' : Hp) (c : ClD), Same H H' → ClAt H' q c → ClOk S c → Q (.ref q) H'
theorem ok_l_claim (T : Top K mg) : FnOk P w K mg base CX0 6 T.f_l_claim T.d_l_claim ["_law_cell", "_law_spec"] spClaim73 := by
  refine T.F_l_claim.ok sc_l_claim (fun vs H Q E h => ?_) (fun cdv A outer s H vs Q E hr h => ?_)
  · obtain ⟨cell, ps, S, rfl, _⟩ := h; rfl
  · obtain ⟨cell, ps, S, rfl, hs, ok, q⟩ := h
    refine ⟨_, (pss_cons (ps_asg (pv 1) (pg_tupA (K := K) (n := 3) rfl (by rfl) (pgs_cons (pg_name (i := 2) sc_l_claim.nd rfl (.inl rfl)) (pgs_cons (pg_name (i := 3) sc_l_claim.nd rfl (.inl rfl)) (pgs_cons (pg_name (i := 4) sc_l_claim.nd rfl (.inl rfl)) pgs_nil)))))
      (pss_cons (ps_set (i := 5) sc_l_claim.nd rfl (.inl rfl) (pe_call (ok_l_stream T) (hr.mono (by decide)) rfl T.g_l_stream T.F_l_stream.kp T.b_l_stream .nil pass0 (pa_cons (pv 0) (pa_cons pe_int pa_nil))))
      (pss_cons (ps_set (i := 6) sc_l_claim.nd rfl (.inl rfl) (pe_op op_modN (pe_ix (ix_listA (K := K) rfl) (pv 5) pe_int (fun _ _ => rfl)) (pe_callB call_len_seq (by rfl) T.m_len (by decide +kernel) (pa_cons (pv 3) pa_nil))))
      (pss_cons (ps_set (i := 7) sc_l_claim.nd rfl (.inl rfl) (pe_call (ok_l_guard T) (hr.mono (by decide)) rfl T.g_l_guard T.F_l_guard.kp T.b_l_guard .nil pass0 (pa_cons (pe_slice (sl_listA (K := K) rfl) (pv 5) (po_some pe_int) (po_some pe_int)) (pa_cons (pe_op op_add (pe_op op_fdivZ (pe_call (ok_l_scale T) (hr.mono (by decide)) rfl T.g_l_scale T.F_l_scale.kp T.b_l_scale .nil pass0 (pa_cons (pv 1) pa_nil)) pe_int) pe_int) (pa_cons (pv 2) pa_nil)))))
      (pss_cons (ps_set (i := 8) sc_l_claim.nd rfl (.inl rfl) (pe_ix (ix_listA (K := K) rfl) (pe_lstN (pa_cons (pe_op op_modN (pe_ix (ix_listA (K := K) rfl) (pv 5) pe_int (fun _ _ => rfl)) pe_int) (pa_cons (pe_call (ok_l_number T) (hr.mono (by decide)) rfl T.g_l_number T.F_l_number.kp T.b_l_number .nil pass0 (pa_cons (pe_ix (ix_listA (K := K) rfl) (pv 5) pe_int (fun _ _ => rfl)) (pa_cons (pe_op op_add (pe_op op_fdivZ (pe_call (ok_l_scale T) (hr.mono (by decide)) rfl T.g_l_scale T.F_l_scale.kp T.b_l_scale .nil pass0 (pa_cons (pv 1) pa_nil)) pe_int) pe_int) pa_nil))) pa_nil))) (pe_op op_modN (pe_ix (ix_listA (K := K) rfl) (pv 5) pe_int (fun _ _ => rfl)) pe_int) (fun _ _ => rfl)))
      (pss_one (ps_ret (pe_tupN (pa_cons (pe_op op_modN (pe_op op_fdivZ (pe_ix (ix_listA (K := K) rfl) (pv 5) pe_int (fun _ _ => rfl)) pe_int) pe_int) (pa_cons (pv 6) (pa_cons (pv 7) (pa_cons (pv 8) pa_nil)))))))))))), ?_⟩
    obtain ⟨pw, pr, pd, es, hw, hrs, hds⟩ := id hs
    obtain ⟨rqs, r1, r2, r3⟩ := id hrs
    have w2 := ok.w2
    have r4 := ok.r4
    have r1' := ok.r1
    refine seq_step ?_
    walk_at "rd"
    refine gTup_of (sqt es) rfl ?_
    walk_at "rd"
    refine seq_step ?_
    walk_at "rd"
    refine ⟨_, 8, rfl, by decide, fun px H3 xs s3 f3 e3 xl xok => ?_⟩
    obtain ⟨x0, x1, x2, x3, x4, x5, x6, x7, exs⟩ : ∃ x0 x1 x2 x3 x4 x5 x6 x7, xs = [x0, x1, x2, x3, x4, x5, x6, x7] := by
      match xs, xl with
      | [x0, x1, x2, x3, x4, x5, x6, x7], _ => exact ⟨x0, x1, x2, x3, x4, x5, x6, x7, rfl⟩
    subst exs
    refine seq_step ?_
    walk_at "rd"
    refine ix_l (.of e3) (by decide) rfl ?_
    walk_at "rd"
    refine ⟨_, .inl (.of (s3 _ _ r1)), ?_⟩
    rw [List.length_map, r2]
    refine ⟨by omega, ?_⟩
    have mr := fm_pos (c := x0) (m := (S.rooms.length : Int)) (by omega)
    obtain ⟨ri, hri⟩ : ∃ ri : Nat, x0.fmod (S.rooms.length : Int) = (ri : Int) := ⟨_, (Int.toNat_of_nonneg mr.1).symm⟩
    rw [hri] at mr ⊢
    refine seq_step ?_
    walk_at "rd"
    refine ⟨_, .of e3, fun p4 H4 s4 f4 e4 => ?_⟩
    have e4 : H4 p4 = some (.lst ([x1, x2, x3, x4, x5].map V.int)) := e4
    have s14 := s3.trans s4
    refine ⟨ps, S, rfl, hs.keep s14, ok, fun sc H5 s5 sc1 sc2 => ?_⟩
    have s15 := s14.trans s5
    refine ⟨sc, rfl, ?_⟩
    have scd : 0 ≤ sc.fdiv 4 ∧ sc.fdiv 4 ≤ sc := by
      rw [Int.fdiv_eq_ediv_of_nonneg _ (by omega)]; omega
    refine ⟨p4, pw, [x1, x2, x3, x4, x5], sc.fdiv 4 + 1, S.watches, 214, rfl, by decide, s5 _ _ e4, Nat.le_refl _, (show 5 ≤ 60 by decide), s15 _ _ hw, ok.w, by omega, by omega, Sz.add (Sz.nn (j := sc) scd.1 scd.2 sc2) (show Sz 213 1 by unfold Sz; decide) (by decide) (by decide), fun pg H7 G s7 f7 hg0 gl gk gn => ?_⟩
    have hg : LsAt H7 pg G := hg0.keep new_sub
    have gsz : SzL G := NumsB.szl gn (by decide)
    have s17 := s15.trans s7
    refine seq_step ?_
    walk_at "rd"
    have e37 := (s4.trans (s5.trans s7)) _ _ e3
    refine ix_l (.of e37) (by decide) rfl ?_
    refine ⟨_, rfl, ?_⟩
    refine ix_l (.of e37) (by decide) rfl ?_
    refine ⟨ps, S, rfl, hs.keep s17, ok, fun sc2' H8 s8 sc21 sc22 => ?_⟩
    refine ⟨_, rfl, ?_⟩
    have scd2 : 0 ≤ sc2'.fdiv 3 ∧ sc2'.fdiv 3 ≤ sc2' := by
      rw [Int.fdiv_eq_ediv_of_nonneg _ (by omega)]; omega
    refine ⟨_, _, 214, rfl, by decide, by omega, Sz.add (Sz.nn (j := sc2') scd2.1 scd2.2 sc22) (show Sz 213 1 by unfold Sz; decide) (by decide) (by decide), fun n H9 s9 n0 nsz => ?_⟩
    intro pl Ha sa fa ea
    have s8a := s8.trans (s9.trans sa)
    refine ix_l (.of (s8a _ _ e37)) (by decide) rfl ?_
    refine ⟨_, rfl, ?_⟩
    have m8 := fm_pos (c := x6) (m := 8) (by decide)
    obtain ⟨nv, hnv, nv0, nvs⟩ : ∃ nv : Int, ([V.int (x6.fmod 8), V.int n] : List V)[(x7.fmod 2).toNat]? = some (.int nv) ∧ 0 ≤ nv ∧ Sz 250 nv := by
      rcases fm2 x7 with e | e <;> rw [e]
      · exact ⟨_, rfl, m8.1, by unfold Sz; omega⟩
      · exact ⟨_, rfl, n0, nsz.mono (by decide)⟩
    refine ix_l (.of ea) (by rcases fm2 x7 with e | e <;> rw [e] <;> decide) hnv ?_
    refine ix_l (.of (s8a _ _ e37)) (by decide) rfl ?_
    refine ⟨_, rfl, ?_⟩
    have m3 := fm_pos (c := x7.fdiv 2) (m := 3) (by decide)
    obtain ⟨kv, hkv⟩ : ∃ kv : Nat, (x7.fdiv 2).fmod 3 = (kv : Int) := ⟨((x7.fdiv 2).fmod 3).toNat, by omega⟩
    rw [hkv]
    intro pc Hb sb fb eb
    exact q pc Hb ⟨kv, ri, G, nv⟩ (s17.trans (s8a.trans sb)) ⟨pg, eb, hg.keep (s8a.trans sb)⟩ ⟨by show kv ≤ 2; omega, by show ri < _; omega, gl, gk, gsz, nv0, nvs⟩
/-! claims that bear any number -/
def KAt (CN CS CW : Addr) (H : Hp) (q : Addr) (k : Nat) (r : Str) (G : List Lq) (v : V) : Prop := (k = 0 → NeverAt CN H q r G) ∧ (k = 1 → SoonerAt CS H q r G v) ∧ (k = 2 → WithinAt CW H q r v)
theorem KAt.keep {CN CS CW : Addr} {H H' : Hp} {q : Addr} {k : Nat} {r : Str} {G : List Lq} {v : V} (s : Same H H') (h : KAt CN CS CW H q k r G v) : KAt CN CS CW H' q k r G v := ⟨fun e => (h.1 e).keep s, fun e => (h.2.1 e).keep s, fun e => (h.2.2 e).keep s⟩
theorem not_U {U : Addr → Prop} {H : Hp} {b : Addr} (u : ListsU U H) (f : H b = none) : ¬ U b := fun h => by
  obtain ⟨xs, e⟩ := u b h
  rw [f] at e; cases e
theorem mk_neverU {C l : Addr} {H : Hp} {r : Str} {G : List Lq} {E : XK} {Q : Addr → Hp → Prop} (hg : LsAt H l G) (h : ∀ p H', Same H H' → (∀ U, ListsU U H → NeverAt C (remU U H') p r G) → Q p H') : ∀ (x dx : Addr) (H3 : Hp), Same H H3 → H x = none → H3 x = some (.ins C dx []) → spNeverInit C [.ref x, .str r, .ref l] H3 (fun w H4 => w = .non ∧ Q x H4) E :=
  fun p dx _ s3 f3 e3 => ⟨p, dx, l, r, G, rfl, e3, hg.keep s3, fun g' H4 k4 fg e4 h4 => ⟨rfl, by
    have s : Same H H4 := fun b o e => k4 b o (s3 _ _ e) (ne_of_none e f3)
    exact h p H4 s fun U u => ⟨dx, g', rem_at (not_U u f3) e4, h4.rem u (fun b xs e => s _ _ e) (not_U u (s3.free fg))⟩⟩⟩
theorem mk_soonerU {C l : Addr} {H : Hp} {r : Str} {G : List Lq} {v : V} {E : XK} {Q : Addr → Hp → Prop} (hg : LsAt H l G) (h : ∀ p H', Same H H' → (∀ U, ListsU U H → SoonerAt C (remU U H') p r G v) → Q p H') : ∀ (x dx : Addr) (H3 : Hp), Same H H3 → H x = none → H3 x = some (.ins C dx []) → spNoSoonerInit C [.ref x, .str r, .ref l, v] H3 (fun w H4 => w = .non ∧ Q x H4) E :=
  fun p dx _ s3 f3 e3 => ⟨p, dx, l, r, G, v, rfl, e3, hg.keep s3, fun g' H4 k4 fg e4 h4 => ⟨rfl, by
    have s : Same H H4 := fun b o e => k4 b o (s3 _ _ e) (ne_of_none e f3)
    exact h p H4 s fun U u => ⟨dx, g', rem_at (not_U u f3) e4, h4.rem u (fun b xs e => s _ _ e) (not_U u (s3.free fg))⟩⟩⟩
theorem mk_withinU {C : Addr} {H : Hp} {r : Str} {v : V} {E : XK} {Q : Addr → Hp → Prop} (h : ∀ p H', Same H H' → (∀ U, ListsU U H → WithinAt C (remU U H') p r v) → Q p H') : ∀ (x dx : Addr) (H3 : Hp), Same H H3 → H x = none → H3 x = some (.ins C dx []) → spWithinInit C [.ref x, .str r, v] H3 (fun w H4 => w = .non ∧ Q x H4) E :=
  fun p dx _ s3 f3 e3 => ⟨p, dx, r, v, rfl, e3, fun H4 k4 e4 => ⟨rfl, by
    have s : Same H H4 := fun b o e => k4 b o (s3 _ _ e) (ne_of_none e f3)
    exact h p H4 s fun U u => ⟨dx, rem_at (not_U u f3) e4⟩⟩⟩
def spClaimed72 (CN CS CW : Addr) : Sp := fun vs H Q _ => ∃ (pc ps g : Addr) (S : Spec) (k ri : Nat) (G : List Lq) (v : V), vs = [.ref pc, .ref ps] ∧ SpecAt H ps S ∧ H pc = some (.tup [.int k, .int ri, .ref g, v]) ∧ LsAt H g G ∧ k ≤ 2 ∧ ri < S.rooms.length ∧
  ∀ (q : Addr) (H' : Hp), Same H H' → (∀ U, ListsU U H → KAt CN CS CW (remU U H') q k (S.name ri) G v) → Q (.ref q) H'
theorem ok_l_claimed (T : Top K mg) : FnOk P w K mg base CX0 3 T.f_l_claimed T.d_l_claimed ["_law_claim_here", "_law_spec"] (spClaimed72 T.C_Never T.C_NoSooner T.C_Within) := by
  refine T.F_l_claimed.ok sc_l_claimed (fun vs H Q E h => ?_) (fun cdv A outer s H vs Q E hr h => ?_)
  · obtain ⟨pc, ps, g, S, k, ri, G, v, rfl, _⟩ := h; rfl
  · obtain ⟨pc, ps, g, S, kk, ri, G, v, rfl, hs, ec, hg, k, hri, q⟩ := h
    refine ⟨_, (pss_cons (ps_asg (pv 0) (pg_tupA (K := K) (n := 4) rfl (by rfl) (pgs_cons (pg_name (i := 2) sc_l_claimed.nd rfl (.inl rfl)) (pgs_cons (pg_name (i := 3) sc_l_claimed.nd rfl (.inl rfl)) (pgs_cons (pg_name (i := 4) sc_l_claimed.nd rfl (.inl rfl)) (pgs_cons (pg_name (i := 5) sc_l_claimed.nd rfl (.inl rfl)) pgs_nil))))))
      (pss_cons (ps_set (i := 6) sc_l_claimed.nd rfl (.inl rfl) (pe_ix (ix_tupA (K := K) rfl) (pe_ix (ix_listA (K := K) rfl) (pe_ix (ix_tupA (K := K) rfl) (pv 1) pe_int (fun _ _ => rfl)) (pv 3) (fun _ _ => rfl)) pe_int (fun _ _ => rfl)))
      (pss_cons (ps_if (pt_cmpR op_eq (pv 2) pe_int (nomark _)) (pss_one (ps_ret (pe_makeN T.mk_Never (ok_Never_init T) (hr.mono (by decide)) rfl T.g_Never T.b_Never_init .nil pass0 (pa_cons (pv 6) (pa_cons (pv 4) pa_nil))))) pss_nil)
      (pss_cons (ps_if (pt_cmpR op_eq (pv 2) pe_int (nomark _)) (pss_one (ps_ret (pe_makeN T.mk_NoSooner (ok_NoSooner_init T) (hr.mono (by decide)) rfl T.g_NoSooner T.b_NoSooner_init .nil pass0 (pa_cons (pv 6) (pa_cons (pv 4) (pa_cons (pv 5) pa_nil)))))) pss_nil)
      (pss_one (ps_ret (pe_makeN T.mk_Within (ok_Within_init T) (hr.mono (by decide)) rfl T.g_Within T.b_Within_init .nil pass0 (pa_cons (pv 6) (pa_cons (pv 5) pa_nil))))))))), ?_⟩
    obtain ⟨pw, pr, pd, es, hw, hrs, hds⟩ := id hs
    obtain ⟨rqs, r1, r2, r3⟩ := id hrs
    obtain ⟨qr, hqr⟩ : ∃ qr, rqs[ri]? = some qr := ⟨_, List.getElem?_eq_getElem (by rw [r2]; exact hri)⟩
    obtain ⟨r, hr2, en⟩ := name_at hri
    obtain ⟨gq, er, _⟩ := r3 ri qr r hqr hr2
    refine seq_step ?_
    walk_at "rd"
    refine gTup_of (sqt ec) rfl ?_
    walk_at "rd"
    refine seq_step ?_
    walk_at "rd"
    refine ix_t (sqt es) (by decide) rfl ?_
    refine ix_l (.of r1) (by omega) (by rw [Int.toNat_natCast, List.getElem?_map, hqr]; rfl) ?_
    refine ix_t (sqt er) (by decide) rfl ?_
    rw [← en]
    refine seq_step ?_
    walk_at "rd"
    by_cases k0 : kk = 0
    · refine if_t (decide_eq_true (by omega)) ?_
      refine makeN_of ?_
      walk_at "rd"
      refine mk_neverU hg fun p H2 s2 h2 => ?_
      exact q p H2 s2 fun U u => ⟨fun _ => h2 U u, (fun h => absurd h (by omega)), fun h => absurd h (by omega)⟩
    refine if_f (decide_eq_false (by omega)) ?_
    refine seq_step ?_
    walk_at "rd"
    by_cases k1 : kk = 1
    · refine if_t (decide_eq_true (by omega)) ?_
      refine makeN_of ?_
      walk_at "rd"
      refine mk_soonerU hg fun p H2 s2 h2 => ?_
      exact q p H2 s2 fun U u => ⟨(fun h => absurd h (by omega)), fun _ => h2 U u, fun h => absurd h (by omega)⟩
    refine if_f (decide_eq_false (by omega)) ?_
    refine makeN_of ?_
    walk_at "rd"
    refine mk_withinU fun p H2 s2 h2 => ?_
    exact q p H2 s2 fun U u => ⟨(fun h => absurd h (by omega)), (fun h => absurd h (by omega)), fun _ => h2 U u⟩
theorem name_inj {S : Spec} (ok : SpecOk S) {i j : Nat} (hi : i < S.rooms.length) (hj : j < S.rooms.length) (h : S.name i = S.name j) : i = j := by
  obtain ⟨r, h1, e1⟩ := name_at hi
  obtain ⟨r', h2, e2⟩ := name_at hj
  have nd := ok.r.2.2.1
  have a1 : (S.rooms.map (·.1))[i]? = some r.1 := by rw [List.getElem?_map, h1]; rfl
  have a2 : (S.rooms.map (·.1))[j]? = some r'.1 := by rw [List.getElem?_map, h2]; rfl
  refine (List.getElem?_inj (by rw [List.length_map]; exact hi) nd).mp ?_
  rw [a1, a2, ← e1, ← e2, h]
def dueD (S : Spec) (c : ClD) (d : LDoor) : DoorD := if c.k = 2 then cutD (S.name c.ri) (S.door d) else S.door d
theorem askC_eq {S : Spec} {c : ClD} (kk : c.k ≤ 2) : askC S c = ⟨if c.k = 0 then S.watches else longW S.watches, S.rooms, S.doors.map (dueD S c)⟩ := by
  unfold askC dueD
  by_cases k0 : c.k = 0
  · rw [if_pos k0, if_pos k0]
    have : ∀ d : LDoor, (if c.k = 2 then cutD (S.name c.ri) (S.door d) else S.door d) = S.door d := fun d => if_neg (by omega)
    simp only [this]
    rfl
  · rw [if_neg k0, if_neg k0]
    by_cases k1 : c.k = 1
    · rw [if_pos k1]
      have : ∀ d : LDoor, (if c.k = 2 then cutD (S.name c.ri) (S.door d) else S.door d) = S.door d := fun d => if_neg (by omega)
      simp only [this]
      rfl
    · rw [if_neg k1]
      by_cases k2 : c.k = 2
      · have : ∀ d : LDoor, (if c.k = 2 then cutD (S.name c.ri) (S.door d) else S.door d) = cutD (S.name c.ri) (S.door d) := fun d => if_pos k2
        simp only [this]
        unfold coM longM Spec.mach
        simp only [List.map_map]
        rfl
      · omega
theorem dueD_eq {S : Spec} {c : ClD} (ok : SpecOk S) (cok : ClOk S c) {d : LDoor} (hd : d ∈ S.doors) : dueD S c d = ⟨S.name d.b, S.name d.e, if c.k = 2 ∧ (c.ri = d.b ∨ c.ri = d.e) then "cut!" else d.sg, d.gd, d.ns⟩ := by
  obtain ⟨hb, he, _⟩ := ok.d d hd
  unfold dueD
  by_cases k2 : c.k = 2
  · rw [if_pos k2]
    unfold cutD
    by_cases h : c.ri = d.b ∨ c.ri = d.e
    · have h' : S.name c.ri = (S.door d).st ∨ S.name c.ri = (S.door d).en := by
        rcases h with h | h
        · exact .inl (by rw [h]; rfl)
        · exact .inr (by rw [h]; rfl)
      rw [if_pos h', if_pos ⟨k2, h⟩]
      rfl
    · have h' : ¬ (S.name c.ri = (S.door d).st ∨ S.name c.ri = (S.door d).en) := by
        rintro (z | z)
        · exact h (.inl (name_inj ok cok.ri hb z))
        · exact h (.inr (name_inj ok cok.ri he z))
      rw [if_neg h', if_neg (fun z => h z.2)]
      rfl
  · rw [if_neg k2, if_neg (fun z => k2 z.1)]
    rfl
def spDue72 : Sp := fun vs H Q _ => ∃ (ps pc : Addr) (S : Spec) (c : ClD), vs = [.ref ps, .ref pc] ∧ SpecAt H ps S ∧ SpecOk S ∧ ClAt H pc c ∧ ClOk S c ∧
  ∀ (q pt pg : Addr) (H' : Hp), Same H H' → H' q = some (.tup [.ref pt, .ref pg]) → TM H' pt (askC S c) → RsAt H' pg (goalC S c) → Q (.ref q) H'
theorem ok_l_due (T : Top K mg) : FnOk P w K mg base CX0 3 T.f_l_due T.d_l_due ["_law_spec", "_law_claim_here"] spDue72 := by
  refine T.F_l_due.ok sc_l_due (fun vs H Q E h => ?_) (fun cdv A outer s H vs Q E hr h => ?_)
  · obtain ⟨ps, pc, S, c, rfl, _⟩ := h; rfl
  · obtain ⟨ps, pc, S, c, rfl, hs, ok, hc, cok, q⟩ := h
    refine ⟨_, (pss_cons (ps_asg (pv 0) (pg_tupA (K := K) (n := 3) rfl (by rfl) (pgs_cons (pg_name (i := 2) sc_l_due.nd rfl (.inl rfl)) (pgs_cons (pg_name (i := 3) sc_l_due.nd rfl (.inr rfl)) (pgs_cons (pg_name (i := 4) sc_l_due.nd rfl (.inl rfl)) pgs_nil)))))
      (pss_cons (ps_asg (pv 1) (pg_tupA (K := K) (n := 4) rfl (by rfl) (pgs_cons (pg_name (i := 5) sc_l_due.nd rfl (.inl rfl)) (pgs_cons (pg_name (i := 6) sc_l_due.nd rfl (.inr rfl)) (pgs_cons (pg_name (i := 7) sc_l_due.nd rfl (.inl rfl)) (pgs_cons (pg_name (i := 8) sc_l_due.nd rfl (.inr rfl)) pgs_nil))))))
      (pss_cons (ps_set (i := 9) sc_l_due.nd rfl (.inl rfl) (pe_lstN pa_nil))
      (pss_cons (ps_for PassesOwn.never rfl (pi_listA (K := K) rfl (pv 4)) (pg_tupA (K := K) (n := 5) rfl (by rfl) (pgs_cons (pg_name (i := 10) sc_l_due.nd rfl (.inl rfl)) (pgs_cons (pg_name (i := 11) sc_l_due.nd rfl (.inl rfl)) (pgs_cons (pg_name (i := 12) sc_l_due.nd rfl (.inl rfl)) (pgs_cons (pg_name (i := 13) sc_l_due.nd rfl (.inl rfl)) (pgs_cons (pg_name (i := 14) sc_l_due.nd rfl (.inl rfl)) pgs_nil)))))) (pss_cons (ps_if (PW.pt (pw_and (pt_cmpR op_eq (pv 5) pe_int (nomark _)) (pw_and1 (pt_cmpR (op_in_seqA (K := K) rfl) (pv 6) (pe_tupN (pa_cons (pv 10) (pa_cons (pv 11) pa_nil))) (by rfl))))) (pss_one (ps_set (i := 14) sc_l_due.nd rfl (.inl rfl) pe_str)) pss_nil)
      (pss_one (ps_expr (pe_bm PySem.F.plainAttrs_list PySem.F.slot_list_append PySem.F.type_list_append mt_append (pv 9) (pa_cons (pe_tupN (pa_cons (pe_ix (ix_tupA (K := K) rfl) (pe_ix (ix_listA (K := K) rfl) (pv 3) (pv 10) (fun _ _ => rfl)) pe_int (fun _ _ => rfl)) (pa_cons (pe_ix (ix_tupA (K := K) rfl) (pe_ix (ix_listA (K := K) rfl) (pv 3) (pv 11) (fun _ _ => rfl)) pe_int (fun _ _ => rfl)) (pa_cons (pv 12) (pa_cons (pv 13) (pa_cons (pv 14) pa_nil)))))) pa_nil))))))
      (pss_cons (ps_set (i := 15) sc_l_due.nd rfl (.inl rfl) (pe_lstN (pa_cons (pe_tupN (pa_cons (pe_ix (ix_tupA (K := K) rfl) (pe_ix (ix_listA (K := K) rfl) (pv 3) (pv 6) (fun _ _ => rfl)) pe_int (fun _ _ => rfl)) (pa_cons (pv 7) pa_nil))) pa_nil)))
      (pss_cons (ps_if (pt_cmpR op_eq (pv 5) pe_int (nomark _)) (pss_one (ps_set (i := 15) sc_l_due.nd rfl (.inl rfl) (pe_lstN (pa_cons (pe_tupN (pa_cons (pe_ix (ix_tupA (K := K) rfl) (pe_ix (ix_listA (K := K) rfl) (pv 3) (pv 6) (fun _ _ => rfl)) pe_int (fun _ _ => rfl)) (pa_cons (pe_op op_catN (pv 7) (pe_lstN (pa_cons (pe_tupN (pa_cons pe_str (pa_cons pe_str (pa_cons (pv 8) pa_nil)))) pa_nil))) pa_nil))) pa_nil)))) pss_nil)
      (pss_cons (ps_if (pt_cmpR op_eq (pv 5) pe_int (nomark _)) (pss_one (lc_vsS (vs := [16, 17]) (ps_setLc (i := 15) (own := [("_law_name", 16), ("_law_stay_here", 17)]) rfl sc_l_due.nd rfl rfl (sw_true rfl rfl rfl (by decide +kernel)) (pi_listA (K := K) rfl (pv 3)) (blkOk_by (own := [("_law_name", 16), ("_law_stay_here", 17)]) (N := ["_law_spec", "_law_claim_here", "_law_watches", "_law_rooms", "_law_doors", "_law_kind", "_law_room", "_law_guard_here", "_law_number_here", "_law_some", "_law_begin", "_law_end", "_law_looks", "_law_noughts", "_law_sign", "_law_goal", "_law_name", "_law_stay_here"]) (sc := defScope s_l_due) (by decide +kernel)) (fun _ _ _ _ _ => (pg_tupA (K := K) (n := 2) rfl (by rfl) (pgs_cons (pg_name (i := 16) sc_l_due.nd rfl (.inl rfl)) (pgs_cons (pg_name (i := 17) sc_l_due.nd rfl (.inl rfl)) pgs_nil)))) (fun _ _ _ _ _ => pts_one (pt_cmpR op_ne (pv 16) (pe_ix (ix_tupA (K := K) rfl) (pe_ix (ix_listA (K := K) rfl) (pv 3) (pv 6) (fun _ _ => rfl)) pe_int (fun _ _ => rfl)) (nomark _))) (fun _ _ _ _ _ => (pe_tupN (pa_cons (pv 16) (pa_cons (pe_lstN (pa_cons (pe_tupN (pa_cons pe_str (pa_cons pe_str (pa_cons (pv 8) pa_nil)))) pa_nil)) pa_nil))))) rfl)) pss_nil)
      (pss_cons (ps_if (pt_cmpR op_gt (pv 5) pe_int (nomark _)) (pss_one (ps_set (i := 2) sc_l_due.nd rfl (.inl rfl) (pe_op op_catN (pv 2) (pe_lstN (pa_cons pe_str pa_nil))))) pss_nil)
      (pss_one (ps_ret (pe_tupN (pa_cons (pe_tupN (pa_cons (pv 2) (pa_cons (pv 3) (pa_cons (pv 9) pa_nil)))) (pa_cons (pv 15) pa_nil))))))))))))), ?_⟩
    obtain ⟨pw, pr, pd, es, hw, hrs, hds⟩ := id hs
    obtain ⟨rqs, r1, r2, r3⟩ := id hrs
    obtain ⟨dqs, d1, d2, d3⟩ := id hds
    obtain ⟨g, ec, hg⟩ := id hc
    have d6 := ok.d6
    have r4 := ok.r4
    have w2 := ok.w2
    refine seq_step ?_
    walk_at "rd"
    refine gTup_of (sqt es) rfl ?_
    walk_at "rd"
    refine seq_step ?_
    walk_at "rd"
    refine gTup_of (sqt ec) rfl ?_
    walk_at "rd"
    refine seq_step ?_
    walk_at "rd"
    intro pl H1 s1 f1 e1
    refine seq_step ?_
    refine for_li ?_
    walk_at "rd"
    obtain ⟨Iv, hIv⟩ : ∃ Iv : Nat → L2.St → Hp → Prop, ∀ i σ' H', Iv i σ' H' ↔ ((∃ v10 v11 v12 v13 v14, σ' = [some (.ref ps), some (.ref pc), some (.ref pw), some (.ref pr), some (.ref pd), some (.int c.k), some (.int c.ri), some (.ref g), some (.int c.n), some (.ref pl), v10, v11, v12, v13, v14, none, none, none]) ∧ Same H H' ∧ SeqD TDAt H' pl ((S.doors.take i).map (dueD S c))) := ⟨_, fun _ _ _ => Iff.rfl⟩
    refine forL_by (xs := dqs.map V.ref) Iv ((hIv _ _ _).mpr ⟨⟨_, _, _, _, _, rfl⟩, s1, SeqD.nil e1⟩) (fun i σ H' _ h => .of (((hIv _ _ _).mp h).2.1 _ _ d1)) ?_ ?_
    · rintro i x σ' H2 hi hinv
      obtain ⟨⟨v10, v11, v12, v13, v14, rfl⟩, s2, sd⟩ := (hIv _ _ _).mp hinv
      rw [List.getElem?_map] at hi
      obtain ⟨qi, h1, rfl⟩ := Option.map_eq_some_iff.mp hi
      have il : i < S.doors.length := by rw [← d2]; exact (List.getElem?_eq_some_iff.mp h1).1
      obtain ⟨d, hd⟩ : ∃ d, S.doors[i]? = some d := ⟨_, List.getElem?_eq_getElem il⟩
      obtain ⟨dg, dn, t1, t2, t3⟩ := LDoorAt.keep s2 (d3 i qi d h1 hd)
      have dm := List.mem_of_getElem? hd
      obtain ⟨hb, he, _⟩ := ok.d d dm
      have ed := dueD_eq ok cok dm
      refine gTup_of (sqt t1) rfl ?_
      walk_at "rd"
      refine join_if (fun σ' H' => σ' = [some (.ref ps), some (.ref pc), some (.ref pw), some (.ref pr), some (.ref pd), some (.int c.k), some (.int c.ri), some (.ref g), some (.int c.n), some (.ref pl), some (.int d.b), some (.int d.e), some (.ref dg), some (.ref dn), some (.str (dueD S c d).sg), none, none, none] ∧ Same H2 H') (fun σ' H' h => ?_) (fun j => ?_)
      rotate_left
      · refine seq_step ?_
        walk_at "rd"
        by_cases k2 : c.k = 2
        · refine if_t (decide_eq_true (by omega)) ?_
          intro p3 H3 s3 f3 e3
          refine ⟨p3, _, rfl, .inr (sqt e3), rfl, rfl, ?_⟩
          have ein : inV (.int (c.ri : Nat)) [V.int (d.b : Nat), V.int (d.e : Nat)] = decide (c.ri = d.b ∨ c.ri = d.e) := by
            unfold inV
            rw [Bool.eq_iff_iff, List.any_eq_true, decide_eq_true_iff]
            simp only [List.mem_cons, List.not_mem_nil, or_false, eqV, exists_eq_or_imp, exists_eq_left]
            simp
            omega
          rw [ein]
          refine ⟨_, rfl, ?_⟩
          by_cases c1 : c.ri = d.b ∨ c.ri = d.e
          · refine if_t (by rw [decide_eq_true c1]; rfl) ?_
            have j2 := j [some (.ref ps), some (.ref pc), some (.ref pw), some (.ref pr), some (.ref pd), some (.int c.k), some (.int c.ri), some (.ref g), some (.int c.n), some (.ref pl), some (.int d.b), some (.int d.e), some (.ref dg), some (.ref dn), some (.str "cut!"), none, none, none] H3 ⟨by rw [ed, if_pos ⟨k2, c1⟩], s3⟩
            revert j2
            walk_at "rd"
            try exact fun h => h
          · refine if_f (by rw [decide_eq_false c1]; rfl) ?_
            have j2 := j [some (.ref ps), some (.ref pc), some (.ref pw), some (.ref pr), some (.ref pd), some (.int c.k), some (.int c.ri), some (.ref g), some (.int c.n), some (.ref pl), some (.int d.b), some (.int d.e), some (.ref dg), some (.ref dn), some (.str d.sg), none, none, none] H3 ⟨by rw [ed, if_neg (fun z => c1 z.2)], s3⟩
            revert j2
            walk_at "rd"
            try exact fun h => h
        · refine if_f (decide_eq_false (by omega)) ?_
          have j2 := j [some (.ref ps), some (.ref pc), some (.ref pw), some (.ref pr), some (.ref pd), some (.int c.k), some (.int c.ri), some (.ref g), some (.int c.n), some (.ref pl), some (.int d.b), some (.int d.e), some (.ref dg), some (.ref dn), some (.str d.sg), none, none, none] H2 ⟨by rw [ed, if_neg (fun z => k2 z.1)], Same.refl _⟩
          revert j2
          walk_at "rd"
          try exact fun h => h
      obtain ⟨rfl, s3⟩ := h
      have s23 := s2.trans s3
      obtain ⟨bqs, w1, _⟩ := id (sd.keep TDAt.keep s3)
      walk_at "rd"
      refine ⟨_, rfl, .inl ⟨rfl, _, .of w1⟩, ?_⟩
      walk_at "rd"
      have room : ∀ {ri : Nat} {Q1 : VK}, ri < S.rooms.length → Q1 (.str (S.name ri)) H' → rIxL K (.ref pr) (.int (ri : Nat)) H' (fun y H1 => rIxT K y (.int 0) H1 Q1) := fun {ri Q1} hri hq => by
        obtain ⟨r, hr2, en⟩ := name_at hri
        have hqr := List.getElem?_eq_getElem (l := rqs) (i := ri) (by rw [r2]; exact hri)
        obtain ⟨gq, er, _⟩ := r3 ri _ r hqr hr2
        rw [en] at hq
        exact ix_l (.of (s23 _ _ r1)) (by omega) (by rw [Int.toNat_natCast, List.getElem?_map, hqr]; rfl) (ix_t (sqt (s23 _ _ er)) (by decide) rfl hq)
      refine room hb ?_
      walk_at "rd"
      refine room he ?_
      walk_at "rd"
      intro t H4 s4 f4 e4
      have tdl : t ≠ pl := fun z => by rw [z, w1] at f4; cases f4
      have sdel : Same H (delH pl H4) := fun b o e => del_at (fun z => by rw [z, f1] at e; cases e) ((s23.trans s4) _ _ e)
      obtain ⟨dg', dn', u1, u2, u3⟩ := d3 i qi d h1 hd
      obtain ⟨rfl, rfl⟩ : dg' = dg ∧ dn' = dn := by
        have := s2 _ _ u1
        rw [t1] at this
        simp at this
        exact ⟨this.1.symm, this.2.symm⟩
      obtain ⟨items, it1, it2, it3⟩ := (sd.keep TDAt.keep (s3.trans s4)).app TDAt.keep (q := t) (x := dueD S c d) ⟨dg', dn', del_at tdl (by rw [ed]; rw [ed] at e4; exact e4), by rw [ed]; exact u2.keep sdel, by rw [ed]; exact sdel _ _ u3⟩
      rw [List.length_map, List.length_take] at it2
      refine app_at it1 (by omega) ?_
      refine (hIv _ _ _).mpr ⟨⟨_, _, _, _, _, rfl⟩, same_updN f1 (s23.trans s4), ?_⟩
      rw [List.take_add_one, hd, List.map_append]
      exact it3
    · rintro σ' H2 hinv
      obtain ⟨⟨v10, v11, v12, v13, v14, rfl⟩, s2, sd⟩ := (hIv _ _ _).mp hinv
      rw [List.length_map, List.take_of_length_le (by omega)] at sd
      walk_at "rd"
      have hsd := sd.seq TDAt.keep
      have room : ∀ {Hx : Hp} {Q1 : VK}, Same H Hx → Q1 (.str (S.name c.ri)) Hx → rIxL K (.ref pr) (.int (c.ri : Nat)) Hx (fun y H1 => rIxT K y (.int 0) H1 Q1) := fun {Hx Q1} sx hq => by
        obtain ⟨r, hr2, en⟩ := name_at cok.ri
        have hqr := List.getElem?_eq_getElem (l := rqs) (i := c.ri) (by rw [r2]; exact cok.ri)
        obtain ⟨gq, er, _⟩ := r3 c.ri _ r hqr hr2
        rw [en] at hq
        exact ix_l (.of (sx _ _ r1)) (by omega) (by rw [Int.toNat_natCast, List.getElem?_map, hqr]; rfl) (ix_t (sqt (sx _ _ er)) (by decide) rfl hq)
      have kk := cok.k
      have gl := cok.len
      obtain ⟨gqs, g1, g2, g3⟩ := id hg
      refine seq_step ?_
      walk_at "rd"
      refine room s2 ?_
      intro t3 H3 s3 f3 e3 pg3 H4 s4 f4 e4
      have s24 := s2.trans (s3.trans s4)
      have hr0 : RsAt H4 pg3 [(S.name c.ri, c.G)] := ⟨[t3], e4, rfl, fun i q x h1 h2 => by
        match i, h1, h2 with
        | 0, h1, h2 => cases h1; cases h2; exact ⟨g, s4 _ _ e3, hg.keep s24⟩⟩
      refine join_if (fun σ' H' => ∃ pg4, σ' = [some (.ref ps), some (.ref pc), some (.ref pw), some (.ref pr), some (.ref pd), some (.int c.k), some (.int c.ri), some (.ref g), some (.int c.n), some (.ref pl), v10, v11, v12, v13, v14, some (.ref pg4), none, none] ∧ Same H4 H' ∧ RsAt H' pg4 (if c.k = 1 then [(S.name c.ri, c.G ++ [belowL c.n])] else [(S.name c.ri, c.G)])) (fun σ' H5 h => ?_) (fun j => ?_)
      rotate_left
      · refine seq_step ?_
        walk_at "rd"
        by_cases k1 : c.k = 1
        · refine if_t (decide_eq_true (by omega)) ?_
          refine room s24 ?_
          intro t5 H5 s5 f5 e5 l6 H6 s6 f6 e6
          refine ⟨_, (s24.trans (s5.trans s6)) _ _ g1, _, e6, small1000' (by rw [List.length_map]; simp; omega), fun l7 H7 s7 f7 e7 => ?_⟩
          intro t8 H8 s8 f8 e8 p9 H9 s9 f9 e9
          have s49 := s5.trans (s6.trans (s7.trans (s8.trans s9)))
          have hls : LsAt H9 l7 (c.G ++ [belowL c.n]) := ⟨gqs ++ [t5], by rw [(s8.trans s9) _ _ e7, List.map_append]; rfl, by rw [List.length_append, List.length_append, g2]; rfl, fun i q x h1 h2 => by
            by_cases cc : i < gqs.length
            · rw [List.getElem?_append_left cc] at h1
              rw [List.getElem?_append_left (by omega)] at h2
              exact (g3 i q x h1 h2).keep (s24.trans s49)
            · have hl := (List.getElem?_eq_some_iff.mp h1).1
              rw [List.length_append, List.length_singleton] at hl
              rw [List.getElem?_append_right (by omega), show i - gqs.length = 0 by omega] at h1
              rw [List.getElem?_append_right (by omega), show i - c.G.length = 0 by omega] at h2
              cases h1; cases h2
              exact ⟨(s6.trans (s7.trans (s8.trans s9))) _ _ e5, rfl⟩⟩
          have j2 := j _ H9 ⟨p9, rfl, s49, by rw [if_pos k1]; exact ⟨[t8], e9, rfl, fun i q x h1 h2 => by
            match i, h1, h2 with
            | 0, h1, h2 => cases h1; cases h2; exact ⟨l7, s9 _ _ e8, hls⟩⟩⟩
          revert j2
          walk_at "rd"
          try exact fun h => h
        · refine if_f (decide_eq_false (by omega)) ?_
          have j2 := j _ H4 ⟨pg3, rfl, Same.refl _, by rw [if_neg k1]; exact hr0⟩
          revert j2
          walk_at "rd"
          try exact fun h => h
      obtain ⟨pg4, rfl, s5, hr4⟩ := h
      have s25 := s24.trans s5
      refine join_if (fun σ' H' => ∃ pg5 v16 v17, σ' = [some (.ref ps), some (.ref pc), some (.ref pw), some (.ref pr), some (.ref pd), some (.int c.k), some (.int c.ri), some (.ref g), some (.int c.n), some (.ref pl), v10, v11, v12, v13, v14, some (.ref pg5), v16, v17] ∧ Same H5 H' ∧ RsAt H' pg5 (goalC S c)) (fun σ' H6 h => ?_) (fun j => ?_)
      rotate_left
      · refine seq_step ?_
        walk_at "rd"
        by_cases k2 : c.k = 2
        · refine if_t (decide_eq_true (by omega)) ?_
          refine lcg_src ?_
          walk_at "rd"
          refine ⟨⟨_, .of (s25 _ _ r1)⟩, ?_⟩
          refine lcG (RV := fun Hx y x => ∃ t, y = .ref t ∧ RqAt Hx t x) (fun _ _ y x s ⟨t, e, h⟩ => ⟨t, e, RqAt.keep s h⟩) (F := fun x : Rq => if x.1 ≠ S.name c.ri then some (x.1, [aboveL (.int c.n)]) else none) (zs := S.rooms) (s25 _ _ r1) (by rw [List.length_map, r2]) (by rw [List.length_map]; omega) (fun i x z H6 Yes No hx hz s6 hy hno => ?_) (fun D H6 s6 f6 h6 => ?_)
          · rw [List.getElem?_map] at hx
            obtain ⟨qi, h1, rfl⟩ := Option.map_eq_some_iff.mp hx
            have s26 := s25.trans s6
            obtain ⟨gz, ez, _⟩ := r3 i qi z h1 hz
            refine gTup_of (sqt (s26 _ _ ez)) rfl ?_
            walk_at "rd"
            refine room s26 ?_
            refine ⟨rfl, ?_⟩
            by_cases cn : z.1 = S.name c.ri
            · rw [decide_eq_true (by rw [cn]), Bool.not_true, if_neg Bool.false_ne_true]
              exact hno _ (Same.refl _) (by rw [if_neg (fun h => h cn)])
            rw [decide_eq_false (fun h => cn (by injection h)), Bool.not_false, if_pos rfl]
            intro t7 H7 s7 f7 e7 l8 H8 s8 f8 e8 t9 H9 s9 f9 e9
            refine hy _ _ (s7.trans (s8.trans s9)) ⟨_, if_pos cn, fun D acc fD eD => ⟨t9, rfl, l8, del_at (fun y => by rw [y, (s7.trans s8) _ _ eD] at f9; cases f9) e9, ?_⟩⟩
            refine LsAt.del ⟨[t7], s9 _ _ e8, rfl, fun i q x h1 h2 => ?_⟩ (fun y => by rw [y, s7 _ _ eD] at f8; cases f8) ((s7.trans (s8.trans s9)) _ _ eD)
            match i, h1, h2 with
            | 0, h1, h2 => cases h1; cases h2; exact ⟨(s8.trans s9) _ _ e7, rfl⟩
          · have hs2 := seqVD_of h6
            have ee : S.rooms.filterMap (fun x : Rq => if x.1 ≠ S.name c.ri then some (x.1, [aboveL (.int c.n)]) else none) = goalC S c := by
              unfold goalC
              rw [if_neg (by omega), if_neg (by omega)]
              exact rest_fil S.rooms
            rw [ee] at hs2
            have j2 := j _ H6 ⟨D, none, none, rfl, s6, SeqD.seq RqAt.keep' hs2⟩
            revert j2
            walk_at "rd"
            try exact fun h => h
        · refine if_f (decide_eq_false (by omega)) ?_
          have j2 := j _ H5 ⟨pg4, none, none, rfl, Same.refl _, by
            unfold goalC
            by_cases k1 : c.k = 1
            · rw [if_neg (by omega), if_pos k1]
              rw [if_pos k1] at hr4
              exact hr4
            · rw [if_pos (by omega)]
              rw [if_neg k1] at hr4
              exact hr4⟩
          revert j2
          walk_at "rd"
          try exact fun h => h
      obtain ⟨pg5, v16, v17, rfl, s6, hr5⟩ := h
      have s26 := s25.trans s6
      refine join_if (fun σ' H' => ∃ pw2, σ' = [some (.ref ps), some (.ref pc), some (.ref pw2), some (.ref pr), some (.ref pd), some (.int c.k), some (.int c.ri), some (.ref g), some (.int c.n), some (.ref pl), v10, v11, v12, v13, v14, some (.ref pg5), v16, v17] ∧ Same H6 H' ∧ H' pw2 = some (.lst ((askC S c).watches.map V.str))) (fun σ' H7 h => ?_) (fun j => ?_)
      rotate_left
      · refine seq_step ?_
        walk_at "rd"
        by_cases k0 : c.k = 0
        · refine if_f (decide_eq_false (by omega)) ?_
          have j2 := j _ H6 ⟨pw, rfl, Same.refl _, by rw [askC_eq cok.k, if_pos k0]; exact s26 _ _ hw⟩
          revert j2
          walk_at "rd"
          try exact fun h => h
        · refine if_t (decide_eq_true (by omega)) ?_
          intro l7 H7 s7 f7 e7
          refine ⟨_, (s26.trans s7) _ _ hw, _, e7, small1000' (by rw [List.length_map]; simp; omega), fun l8 H8 s8 f8 e8 => ?_⟩
          have j2 := j _ H8 ⟨l8, rfl, s7.trans s8, by rw [e8, askC_eq cok.k, if_neg k0]; unfold longW; rw [List.map_append]; rfl⟩
          revert j2
          walk_at "rd"
          try exact fun h => h
      obtain ⟨pw2, rfl, s7, hw2⟩ := h
      walk_at "rd"
      intro t8 H8 s8 f8 e8 t9 H9 s9 f9 e9
      have s89 := s8.trans s9
      have s29 := s26.trans (s7.trans s89)
      have sd2 : Same H2 H9 := s3.trans (s4.trans (s5.trans (s6.trans (s7.trans s89))))
      refine q t9 t8 pg5 H9 s29 e9 ⟨pw2, pr, pl, s9 _ _ e8, s89 _ _ hw2, ?_, ?_⟩ (hr5.keep (s7.trans s89))
      · rw [askC_eq cok.k]
        exact hrs.keep s29
      · rw [askC_eq cok.k]
        exact SeqOf.keep (fun q x => TDAt.keep _ _ q x sd2) sd2 hsd
-- CUT
theorem ok_lets_by (T : Top K mg) : FnOk P w K mg base CX0 1 T.f_lets_by T.d_lets_by ["machine", "goal", "paper"] (fun _ _ _ _ => False) := T.F_lets_by.ok sc_lets_by (fun vs H Q E h => h.elim) (fun cdv A outer s H vs Q E hr h => h.elim)
/-- what is wrong with a claim on a machine -/
def BadC (M : MachD) (k : Nat) (r : Str) (G : List Lq) (v : V) : Prop := (k = 0 → markOk M (r, G) = false) ∧ (k = 1 → markOk M (r, G) = false ∨ guardOk WORDS (longW M.watches) (G ++ [untilL v]) = false) ∧ (k = 2 → r ∉ M.rooms.map (·.1) ∨ guardOk WORDS (longW M.watches) [aboveL v] = false)
def spLetsC72 (CM CD CN CS CW CB CR : Addr) : Sp := fun vs H Q E => ∃ (pc pm : Addr) (x : V) (M : MachD) (k : Nat) (r : Str) (G : List Lq) (v : V), vs = [.ref pc, .ref pm, x] ∧ KAt CN CS CW H pc k r G v ∧ k ≤ 2 ∧ MachAt CM CD H pm M ∧ MachOk M ∧ G.length ≤ 59 ∧ r.length ≤ 1000 ∧ (kindV v).isSome = true ∧
  ((1 ≤ k ∧ areW (longW M.watches) = false ∧ ∀ H', Same H H' → E (.ref CB) none H') ∨ ((k = 0 ∨ areW (longW M.watches) = true) ∧ BadC M k r G v ∧ ∀ H', Same H H' → E (.ref CR) none H'))
theorem ok_lets_claim (T : Top K mg) : FnOk P w K mg base (L2.CX P w) 12 T.f_lets_claim T.d_lets_claim ["claim", "machine", "paper"] (spLetsC72 T.C_Machine T.C_Door T.C_Never T.C_NoSooner T.C_Within T.C_BadMachine T.C_NoMark) := by
  refine T.F_lets_claim.okX sc_lets_claim (fun vs H Q E h => ?_) (fun cdv A0 outer s H vs Q E hr h => ?_)
  · obtain ⟨pc, pm, x, M, k, r, G, v, rfl, _⟩ := h; rfl
  · obtain ⟨pc, pm, x, M, k, r, G, v, rfl, ⟨c0, c1, c2⟩, kk, hm, mok, g59, r1000, hv, h⟩ := h
    rcases (show k = 0 ∨ k = 1 ∨ k = 2 by omega) with k0 | k0 | k0
    · have hc := c0 k0
      refine ⟨_, (pss_cons (ps_set (i := 3) sc_lets_claim.nd rfl (.inl rfl) (pe_meth (pv 0) T.cl_Never T.mi_Never_asked_of (ok_Claim_asked_of_Never T) (hr.mono (by decide)) T.b_Claim_asked_of .nil (passes_call (takes_of rfl rfl rfl rfl) (fun _ _ _ _ z => z)) (pa_cons (pv 1) pa_nil)))
      (pss_one (ps_ret (pe_call (ok_lets_by T) (hr.mono (by decide)) rfl T.g_lets_by T.F_lets_by.kp T.b_lets_by .nil pass0 (pa_cons (pv 3) (pa_cons (pe_meth (pv 0) T.cl_Never T.mi_Never_goal_on (ok_Claim_goal_on_Never T) (hr.mono (by decide)) T.b_Claim_goal_on .nil pass0 (pa_cons (pv 3) pa_nil)) (pa_cons (pv 2) pa_nil))))))), ?_⟩
      obtain ⟨dx, g, e, _⟩ := id hc
      rcases h with ⟨h1, _⟩ | ⟨_, ⟨b0, _, _⟩, q⟩
      · omega
      refine seq_step ?_
      refine ⟨_, rfl, pc, dx, _, rfl, e, never_no (by decide +kernel) (by decide +kernel), _, rfl, pc, pm, _, _, M, rfl, hc, hm, by omega, (fun hk => by rw [b0 k0] at hk; cases hk), fun _ H1 s1 => q H1 s1⟩
    · have hc := c1 k0
      refine ⟨_, (pss_cons (ps_set (i := 3) sc_lets_claim.nd rfl (.inl rfl) (pe_meth (pv 0) T.cl_NoSooner T.mi_NoSooner_asked_of (ok_Claim_asked_of_NoSooner T) (hr.mono (by decide)) T.b_Claim_asked_of .nil (passes_call (takes_of rfl rfl rfl rfl) (fun _ _ _ _ z => z)) (pa_cons (pv 1) pa_nil)))
      (pss_one (ps_ret (pe_call (ok_lets_by T) (hr.mono (by decide)) rfl T.g_lets_by T.F_lets_by.kp T.b_lets_by .nil pass0 (pa_cons (pv 3) (pa_cons (pe_meth (pv 0) T.cl_NoSooner T.m_NoSooner_goal_on (ok_NoSooner_goal_on T) (hr.mono (by decide)) T.b_NoSooner_goal_on .nil (passes_call (takes_of rfl rfl rfl rfl) (fun _ _ _ _ z => z)) (pa_cons (pv 3) pa_nil)) (pa_cons (pv 2) pa_nil))))))), ?_⟩
      obtain ⟨dx, g, e, _⟩ := id hc
      refine seq_step ?_
      rcases h with ⟨_, ha, q⟩ | ⟨ha, ⟨_, b1, _⟩, q⟩
      · exact ⟨_, rfl, pc, dx, _, rfl, e, sooner_no (by decide +kernel) (by decide +kernel) (by decide +kernel), _, rfl, pc, pm, _, _, v, M, rfl, hc, hm, mok, by omega, .inl ⟨ha, q⟩⟩
      have ha : areW (longW M.watches) = true := ha.elim (fun z => by omega) id
      cases mk : markOk M (r, G) with
      | false => exact ⟨_, rfl, pc, dx, _, rfl, e, sooner_no (by decide +kernel) (by decide +kernel) (by decide +kernel), _, rfl, pc, pm, _, _, v, M, rfl, hc, hm, mok, by omega, .inr (.inl ⟨ha, mk, q⟩)⟩
      | true =>
        refine ⟨_, rfl, pc, dx, _, rfl, e, sooner_no (by decide +kernel) (by decide +kernel) (by decide +kernel), _, rfl, pc, pm, _, _, v, M, rfl, hc, hm, mok, by omega, .inr (.inr ⟨ha, mk, fun pa H1 s1 hma => ?_⟩)⟩
        have bg := (b1 k0).elim (fun z => by rw [mk] at z; cases z) id
        exact ⟨_, rfl, _, rfl, pc, dx, _, rfl, s1 _ _ e, sooner_no (by decide +kernel) (by decide +kernel) (by decide +kernel), _, rfl, pc, pa, _, _, v, longM M, rfl, hc.keep s1, hv, hma, by omega, .inr ⟨bg, fun H2 s2 => q H2 (s1.trans s2)⟩⟩
    · have hc := c2 k0
      refine ⟨_, (pss_cons (ps_set (i := 3) sc_lets_claim.nd rfl (.inl rfl) (pe_meth (pv 0) T.cl_Within T.mi_Within_asked_of (ok_Claim_asked_of_Within T) (hr.mono (by decide)) T.b_Claim_asked_of .nil (passes_call (takes_of rfl rfl rfl rfl) (fun _ _ _ _ z => z)) (pa_cons (pv 1) pa_nil)))
      (pss_one (ps_ret (pe_call (ok_lets_by T) (hr.mono (by decide)) rfl T.g_lets_by T.F_lets_by.kp T.b_lets_by .nil pass0 (pa_cons (pv 3) (pa_cons (pe_meth (pv 0) T.cl_Within T.m_Within_goal_on (ok_Within_goal_on T) (hr.mono (by decide)) T.b_Within_goal_on .nil (passes_call (takes_of rfl rfl rfl rfl) (fun _ _ _ _ z => z)) (pa_cons (pv 3) pa_nil)) (pa_cons (pv 2) pa_nil))))))), ?_⟩
      obtain ⟨dx, e⟩ := id hc
      refine seq_step ?_
      rcases h with ⟨_, ha, q⟩ | ⟨ha, ⟨_, _, b2⟩, q⟩
      · exact ⟨_, rfl, pc, dx, _, rfl, e, within_no (by decide +kernel) (by decide +kernel), _, rfl, pc, pm, _, v, M, rfl, hc, hm, mok, r1000, .inl ⟨ha, q⟩⟩
      have ha : areW (longW M.watches) = true := ha.elim (fun z => by omega) id
      by_cases rm : r ∈ M.rooms.map (·.1)
      · refine ⟨_, rfl, pc, dx, _, rfl, e, within_no (by decide +kernel) (by decide +kernel), _, rfl, pc, pm, _, v, M, rfl, hc, hm, mok, r1000, .inr (.inr ⟨ha, rm, fun pa H1 s1 hma => ?_⟩)⟩
        have bg := (b2 k0).elim (fun z => absurd rm z) id
        exact ⟨_, rfl, _, rfl, pc, dx, _, rfl, s1 _ _ e, within_no (by decide +kernel) (by decide +kernel), _, rfl, pc, pa, _, v, coM r (longM M), rfl, hc.keep s1, hv, hma, (mok.long ha).cut r, .inr ⟨bg, fun H2 s2 => q H2 (s1.trans s2)⟩⟩
      · exact ⟨_, rfl, pc, dx, _, rfl, e, within_no (by decide +kernel) (by decide +kernel), _, rfl, pc, pm, _, v, M, rfl, hc, hm, mok, r1000, .inr (.inl ⟨ha, rm, q⟩)⟩
def spRefused72 (CM CD CN CS CW : Addr) : Sp := fun vs H Q _ => ∃ (pc pm : Addr) (M : MachD) (k : Nat) (r : Str) (G : List Lq) (v : V), vs = [.ref pc, .ref pm] ∧ KAt CN CS CW H pc k r G v ∧ k ≤ 2 ∧ MachAt CM CD H pm M ∧ MachOk M ∧ G.length ≤ 59 ∧ r.length ≤ 1000 ∧ (kindV v).isSome = true ∧
  ((1 ≤ k ∧ areW (longW M.watches) = false ∧ ∀ H', Same H H' → Q (.str "machine") H') ∨ ((k = 0 ∨ areW (longW M.watches) = true) ∧ BadC M k r G v ∧ ∀ H', Same H H' → Q (.str "mark") H'))
theorem ok_l_refused (T : Top K mg) : FnOk P w K mg base CX0 13 T.f_l_refused T.d_l_refused ["_law_claim_here", "_law_machine_here"] (spRefused72 T.C_Machine T.C_Door T.C_Never T.C_NoSooner T.C_Within) := by
  refine T.F_l_refused.ok sc_l_refused (fun vs H Q E h => ?_) (fun cdv A outer s H vs Q E hr h => ?_)
  · obtain ⟨pc, pm, M, k, r, G, v, rfl, _⟩ := h; rfl
  · obtain ⟨pc, pm, M, k, r, G, v, rfl, hc, kk, hm, mok, g59, r1000, hv, h⟩ := h
    refine ⟨_, (pss_cons (ps_set (i := 2) sc_l_refused.nd rfl (.inl rfl) pe_str)
      (pss_cons (ps_try_many rfl rfl takes0 (fun W pn xe tk _ => (pss_one (ps_expr (pe_callS (ok_lets_claim T) (hr.mono (by decide)) rfl T.g_lets_claim T.F_lets_claim.kp T.b_lets_claim (fun σ => passAt tk σ) (pa_cons (pv 0) (pa_cons (pv 1) (pa_cons (pe_lstN pa_nil) pa_nil))))))) (.cons ⟨rfl, by decide, .inl T.g_BadMachine⟩ (fun a oe cls d pn hz hf => (pss_one (ps_set (i := 2) sc_l_refused.nd rfl (.inl rfl) pe_str))) (.cons ⟨rfl, by decide, .inl T.g_NoMark⟩ (fun a oe cls d pn hz hf => (pss_one (ps_set (i := 2) sc_l_refused.nd rfl (.inl rfl) pe_str))) .nil)))
      (pss_one (ps_ret (pv 2))))), ?_⟩
    refine seq_step ?_
    walk_at "rd"
    refine seq_step ?_
    walk_at "rd"
    intro pp H1 s1 f1 e1
    refine ⟨pc, pm, .ref pp, M, k, r, G, v, rfl, hc.keep s1, kk, hm.keep s1, mok, g59, r1000, hv, ?_⟩
    rcases h with ⟨h1, ha, q⟩ | ⟨ha, hb, q⟩
    · refine .inl ⟨h1, ha, fun H2 s2 => ?_⟩
      refine ⟨true, exm_two T.b_BadMachine T.e4_BadMachine T.t_BadMachine T.s_BadMachine_BadMachine, fun _ a ha => ?_, fun z => nomatch z⟩
      walk_at "rd"
      exact q H2 (s1.trans s2)
    · refine .inr ⟨ha, hb, fun H2 s2 => ?_⟩
      refine ⟨false, exm_two T.b_BadMachine T.e4_BadMachine T.t_BadMachine T.s_NoMark_BadMachine, (fun z => nomatch z), fun _ => ?_⟩
      refine ⟨true, exm_two T.b_NoMark T.e4_NoMark T.t_NoMark T.s_NoMark_NoMark, fun _ a ha => ?_, fun z => nomatch z⟩
      walk_at "rd"
      exact q H2 (s1.trans s2)
theorem mk_never {C l : Addr} {H : Hp} {r : Str} {G : List Lq} {E : XK} {Q : Addr → Hp → Prop} (hg : LsAt H l G) (h : ∀ p H', Same H H' → NeverAt C H' p r G → Q p H') : ∀ (x dx : Addr) (H3 : Hp), Same H H3 → H x = none → H3 x = some (.ins C dx []) → spNeverInit C [.ref x, .str r, .ref l] H3 (fun w H4 => w = .non ∧ Q x H4) E :=
  fun p dx _ s3 f3 e3 => ⟨p, dx, l, r, G, rfl, e3, hg.keep s3, fun g' H4 k4 _ e4 h4 => ⟨rfl, h p H4 (fun b o e => k4 b o (s3 _ _ e) (ne_of_none e f3)) ⟨dx, g', e4, h4⟩⟩⟩
theorem mk_sooner {C l : Addr} {H : Hp} {r : Str} {G : List Lq} {v : V} {E : XK} {Q : Addr → Hp → Prop} (hg : LsAt H l G) (h : ∀ p H', Same H H' → SoonerAt C H' p r G v → Q p H') : ∀ (x dx : Addr) (H3 : Hp), Same H H3 → H x = none → H3 x = some (.ins C dx []) → spNoSoonerInit C [.ref x, .str r, .ref l, v] H3 (fun w H4 => w = .non ∧ Q x H4) E :=
  fun p dx _ s3 f3 e3 => ⟨p, dx, l, r, G, v, rfl, e3, hg.keep s3, fun g' H4 k4 _ e4 h4 => ⟨rfl, h p H4 (fun b o e => k4 b o (s3 _ _ e) (ne_of_none e f3)) ⟨dx, g', e4, h4⟩⟩⟩
theorem mk_within {C : Addr} {H : Hp} {r : Str} {v : V} {E : XK} {Q : Addr → Hp → Prop} (h : ∀ p H', Same H H' → WithinAt C H' p r v → Q p H') : ∀ (x dx : Addr) (H3 : Hp), Same H H3 → H x = none → H3 x = some (.ins C dx []) → spWithinInit C [.ref x, .str r, v] H3 (fun w H4 => w = .non ∧ Q x H4) E :=
  fun p dx _ s3 f3 e3 => ⟨p, dx, r, v, rfl, e3, fun H4 k4 e4 => ⟨rfl, h p H4 (fun b o e => k4 b o (s3 _ _ e) (ne_of_none e f3)) ⟨dx, e4⟩⟩⟩
/-- what the lists of Z may become: all else stays -/
def InvA (Z : Addr → Prop) (B : Hp) (k : Nat) (H : Hp) : Prop := Same (remU Z B) H ∧ ∀ b, Z b → ∃ xs, H b = some (.lst xs) ∧ xs.length ≤ k
theorem InvA.keep {Z : Addr → Prop} {B H H' : Hp} {k : Nat} (h : InvA Z B k H) (s : Same H H') : InvA Z B k H' := ⟨h.1.trans s, fun b v => by
  obtain ⟨xs, e, l⟩ := h.2 b v
  exact ⟨xs, s _ _ e, l⟩⟩
theorem InvA.le {Z : Addr → Prop} {B H : Hp} {k k' : Nat} (h : InvA Z B k H) (l : k ≤ k') : InvA Z B k' H := ⟨h.1, fun b v => by
  obtain ⟨xs, e, l'⟩ := h.2 b v
  exact ⟨xs, e, by omega⟩⟩
theorem InvA.upd {Z : Addr → Prop} {B H : Hp} {k : Nat} {b : Addr} {xs : List V} (h : InvA Z B k H) (v : Z b) (l : xs.length ≤ k) : InvA Z B k (upd H b (.lst xs)) := by
  refine ⟨fun c o e => ?_, fun c vc => ?_⟩
  · have n : c ≠ b := fun y => (rem_of e).1 (y ▸ v)
    show (if c = b then _ else H c) = some o
    rw [if_neg n]; exact h.1 _ _ e
  · by_cases n : c = b
    · subst n; exact ⟨xs, if_pos rfl, l⟩
    · obtain ⟨ys, e, l'⟩ := h.2 c vc
      exact ⟨ys, (if_neg n).trans e, l'⟩
theorem InvA.app {Z : Addr → Prop} {B H : Hp} {k : Nat} {b : Addr} {v : V} {Q : VK} (h : InvA Z B k H) (vb : Z b) (l : k ≤ 999) (q : ∀ H', InvA Z B (k + 1) H' → Q .non H') : rAppend (.ref b) [v] H Q := by
  obtain ⟨xs, e, l'⟩ := h.2 b vb
  exact app_at e (by omega) (q _ ((h.le (Nat.le_succ k)).upd vb (by simp; omega)))
theorem name_len {S : Spec} (ok : SpecOk S) {i : Nat} (h : i < S.rooms.length) : (S.name i).length ≤ 1000 := by
  have h := ok.r.2.1 _ (name_mem h)
  unfold okName okT at h
  rw [Bool.and_eq_true, Bool.and_eq_true] at h
  have := of_decide_eq_true h.1.2
  omega
theorem bad_w72 {S : Spec} {w wd : Str} {v : V} (h : w ∉ S.watches) : lookOk WORDS S.watches (w, wd, v) = false := by
  unfold lookOk
  rw [decide_eq_false h]; rfl
theorem guard_last {W : List Str} {G : List Lq} {l : Lq} (h : lookOk WORDS W l = false) : guardOk WORDS W (G ++ [l]) = false := by
  cases e : guardOk WORDS W (G ++ [l]) with
  | false => rfl
  | true =>
    have := List.all_eq_true.mp e l (List.mem_append_right _ (List.mem_singleton.mpr rfl))
    rw [h] at this; cases this
theorem mark_no {M : MachD} {r : Str} {G : List Lq} (h : guardOk WORDS M.watches G = false) : markOk M (r, G) = false := by
  show (decide _ && guardOk WORDS M.watches G) = false
  rw [h, Bool.and_false]
theorem mark_noroom {M : MachD} {r : Str} {G : List Lq} (h : r ∉ M.rooms.map (·.1)) : markOk M (r, G) = false := by
  show (decide _ && guardOk WORDS M.watches G) = false
  rw [show decide ((r, G).1 ∈ M.rooms.map (·.1)) = false from decide_eq_false h, Bool.false_and]
def badN72 : List V := [.int (-1), .bl true, .non, .str "3"]
theorem badN_no : ∀ v ∈ badN72, numOk v = false ∧ (kindV v).isSome = true := by
  intro v hv
  simp only [badN72, List.mem_cons, List.not_mem_nil, or_false] at hv
  rcases hv with rfl | rfl | rfl | rfl <;> exact ⟨by decide, rfl⟩
theorem until_no {W : List Str} {G : List Lq} {v : V} (h : numOk v = false) : guardOk WORDS W (G ++ [untilL v]) = false := guard_last (by
  unfold lookOk untilL
  rw [h, Bool.and_false])
theorem above_no {W : List Str} {v : V} (h : numOk v = false) : guardOk WORDS W [aboveL v] = false := guard_last (G := []) (by
  unfold lookOk aboveL
  rw [h, Bool.and_false])
def spSpoilt72 (CN CS CW : Addr) : Sp := fun vs H Q _ => ∃ (ps pc : Addr) (cell : Int) (S : Spec) (c : ClD), vs = [.ref ps, .ref pc, .int cell] ∧ SpecAt H ps S ∧ SpecOk S ∧ ClAt H pc c ∧ ClOk S c ∧
  ∀ (q : Addr) (H' : Hp) (r : Str) (G : List Lq) (v : V), Same H H' → KAt CN CS CW H' q c.k r G v → BadC S.mach c.k r G v → G.length ≤ 3 → r.length ≤ 100 → (kindV v).isSome = true → Q (.ref q) H'
theorem ok_l_spoilt (T : Top K mg) : FnOk P w K mg base CX0 3 T.f_l_spoilt T.d_l_spoilt ["_law_spec", "_law_claim_here", "_law_cell"] (spSpoilt72 T.C_Never T.C_NoSooner T.C_Within) := by
  refine T.F_l_spoilt.ok sc_l_spoilt (fun vs H Q E h => ?_) (fun cdv A outer s H vs Q E hr h => ?_)
  · obtain ⟨ps, pc, cell, S, c, rfl, _⟩ := h; rfl
  · obtain ⟨ps, pc, cell, S, c, rfl, hs, ok, hc, cok, q⟩ := h
    refine ⟨_, (pss_cons (ps_asg (pv 1) (pg_tupA (K := K) (n := 4) rfl (by rfl) (pgs_cons (pg_name (i := 3) sc_l_spoilt.nd rfl (.inl rfl)) (pgs_cons (pg_name (i := 4) sc_l_spoilt.nd rfl (.inl rfl)) (pgs_cons (pg_name (i := 5) sc_l_spoilt.nd rfl (.inl rfl)) (pgs_cons (pg_name (i := 6) sc_l_spoilt.nd rfl (.inl rfl)) pgs_nil))))))
      (pss_cons (ps_set (i := 7) sc_l_spoilt.nd rfl (.inl rfl) (pe_ix (ix_tupA (K := K) rfl) (pe_ix (ix_listA (K := K) rfl) (pe_ix (ix_tupA (K := K) rfl) (pv 0) pe_int (fun _ _ => rfl)) (pv 4) (fun _ _ => rfl)) pe_int (fun _ _ => rfl)))
      (pss_cons (ps_if (PW.pt (pw_or (pt_cmpR op_eq (pe_op op_modN (pv 2) pe_int) pe_int (nomark _)) (pw_or1 (PW.pt (pw_and (pt_cmpR op_eq (pv 3) pe_int (nomark _)) (pw_and1 (pt_cmpR op_eq (pe_op op_modN (pv 2) pe_int) pe_int (nomark _)))))))) (pss_one (ps_set (i := 7) sc_l_spoilt.nd rfl (.inl rfl) (pe_op op_add_str (pv 7) pe_str))) (pss_one (ps_if (pt_cmpR op_eq (pe_op op_modN (pv 2) pe_int) pe_int (nomark _)) (pss_one (ps_set (i := 5) sc_l_spoilt.nd rfl (.inl rfl) (pe_op op_catN (pv 5) (pe_lstN (pa_cons (pe_ix (ix_listA (K := K) rfl) (pe_lstN (pa_cons (pe_tupN (pa_cons pe_str (pa_cons pe_str (pa_cons pe_int pa_nil)))) (pa_cons (pe_tupN (pa_cons pe_str (pa_cons pe_str (pa_cons pe_int pa_nil)))) (pa_cons (pe_tupN (pa_cons pe_str (pa_cons pe_str (pa_cons pe_int pa_nil)))) pa_nil)))) (pe_op op_modN (pe_op op_fdivZ (pv 2) pe_int) pe_int) (fun _ _ => rfl)) pa_nil))))) (pss_cons (ps_set (i := 6) sc_l_spoilt.nd rfl (.inl rfl) (pe_ix (ix_listA (K := K) rfl) (pe_lstN (pa_cons (pe_un un_neg pe_int) (pa_cons pe_bl (pa_cons pe_non (pa_cons pe_str pa_nil))))) (pe_op op_modN (pe_op op_fdivZ (pv 2) pe_int) pe_int) (fun _ _ => rfl)))
      (pss_one (ps_if (pt_cmpR op_eq (pv 3) pe_int (nomark _)) (pss_one (ps_set (i := 5) sc_l_spoilt.nd rfl (.inl rfl) (pe_op op_catN (pv 5) (pe_lstN (pa_cons (pe_tupN (pa_cons pe_str (pa_cons pe_str (pa_cons pe_int pa_nil)))) pa_nil))))) pss_nil))))))
      (pss_cons (ps_if (pt_cmpR op_eq (pv 3) pe_int (nomark _)) (pss_one (ps_ret (pe_makeN T.mk_Never (ok_Never_init T) (hr.mono (by decide)) rfl T.g_Never T.b_Never_init .nil pass0 (pa_cons (pv 7) (pa_cons (pv 5) pa_nil))))) pss_nil)
      (pss_cons (ps_if (pt_cmpR op_eq (pv 3) pe_int (nomark _)) (pss_one (ps_ret (pe_makeN T.mk_NoSooner (ok_NoSooner_init T) (hr.mono (by decide)) rfl T.g_NoSooner T.b_NoSooner_init .nil pass0 (pa_cons (pv 7) (pa_cons (pv 5) (pa_cons (pv 6) pa_nil)))))) pss_nil)
      (pss_one (ps_ret (pe_makeN T.mk_Within (ok_Within_init T) (hr.mono (by decide)) rfl T.g_Within T.b_Within_init .nil pass0 (pa_cons (pv 7) (pa_cons (pv 6) pa_nil)))))))))), ?_⟩
    obtain ⟨pw, pr, pd, es, hw, hrs, hds⟩ := id hs
    obtain ⟨rqs, r1, r2, r3⟩ := id hrs
    obtain ⟨g, ec, hg⟩ := id hc
    obtain ⟨qr, hqr⟩ : ∃ qr, rqs[c.ri]? = some qr := ⟨_, List.getElem?_eq_getElem (by rw [r2]; exact cok.ri)⟩
    obtain ⟨r, hr2, en⟩ := name_at cok.ri
    obtain ⟨gq, er, _⟩ := r3 c.ri qr r hqr hr2
    have hmem : r.1 ∈ S.rooms.map (·.1) := List.mem_map_of_mem (List.mem_of_getElem? hr2)
    have nml := okName_len (ok.r.2.1 r.1 hmem)
    have kk := cok.k
    have gl := cok.len
    obtain ⟨nn, hnn⟩ := ok.r.2.2.2
    have bq : (r.1 ++ ("q" : Str)) ∉ S.rooms.map (·.1) := fun z => by
      have a1 := hnn _ z
      have a2 := hnn _ hmem
      have a3 : (r.1 ++ ("q" : Str)).length = r.1.length + 1 := by
        show (r.1.cps ++ ("q" : Str).cps).size = r.1.cps.size + 1
        rw [Array.size_append]; rfl
      omega
    have ql : (r.1 ++ ("q" : Str)).length ≤ 100 := by
      have a3 : (r.1 ++ ("q" : Str)).length = r.1.length + 1 := by
        show (r.1.cps ++ ("q" : Str).cps).size = r.1.cps.size + 1
        rw [Array.size_append]; rfl
      omega
    have wn : ∀ w : Str, okName w = false → w ∉ S.watches := fun w h z => by
      have := ok.w.2.1 w z
      rw [h] at this; cases this
    refine seq_step ?_
    walk_at "rd"
    refine gTup_of (sqt ec) rfl ?_
    walk_at "rd"
    refine seq_step ?_
    walk_at "rd"
    refine ix_t (sqt es) (by decide) rfl ?_
    refine ix_l (.of r1) (by omega) (by rw [Int.toNat_natCast, List.getElem?_map, hqr]; rfl) ?_
    refine ix_t (sqt er) (by decide) rfl ?_
    walk_at "rd"
    refine join_if (fun σ' H' => ∃ (r' : Str) (g' : Addr) (G : List Lq) (v : V), σ' = [some (.ref ps), some (.ref pc), some (.int cell), some (.int c.k), some (.int c.ri), some (.ref g'), some v, some (.str r')] ∧ Same H H' ∧ LsAt H' g' G ∧ BadC S.mach c.k r' G v ∧ G.length ≤ 3 ∧ r'.length ≤ 100 ∧ (kindV v).isSome = true) (fun σ' H' h => ?_) (fun j => ?_)
    · obtain ⟨r', g', G, v, rfl, s1, hg1, bad, gl3, rl, kv⟩ := h
      refine seq_step ?_
      walk_at "rd"
      by_cases k0 : c.k = 0
      · refine if_t (decide_eq_true (by omega)) ?_
        refine makeN_of ?_
        walk_at "rd"
        refine mk_never hg1 fun p H2 s2 h2 => ?_
        exact q p H2 r' G v (s1.trans s2) ⟨fun _ => h2, (fun h => absurd h (by omega)), fun h => absurd h (by omega)⟩ bad gl3 rl kv
      refine if_f (decide_eq_false (by omega)) ?_
      refine seq_step ?_
      walk_at "rd"
      by_cases k1 : c.k = 1
      · refine if_t (decide_eq_true (by omega)) ?_
        refine makeN_of ?_
        walk_at "rd"
        refine mk_sooner hg1 fun p H2 s2 h2 => ?_
        exact q p H2 r' G v (s1.trans s2) ⟨(fun h => absurd h (by omega)), fun _ => h2, fun h => absurd h (by omega)⟩ bad gl3 rl kv
      refine if_f (decide_eq_false (by omega)) ?_
      refine makeN_of ?_
      walk_at "rd"
      refine mk_within fun p H2 s2 h2 => ?_
      exact q p H2 r' G v (s1.trans s2) ⟨(fun h => absurd h (by omega)), (fun h => absurd h (by omega)), fun _ => h2⟩ bad gl3 rl kv
    · refine seq_step ?_
      walk_at "rd"
      have m3 := fm_pos (c := cell) (m := 3) (by decide)
      have hend : ∀ (H' : Hp) (r' : Str) (g' : Addr) (G : List Lq) (v : V), Same H H' → LsAt H' g' G → BadC S.mach c.k r' G v → G.length ≤ 3 → r'.length ≤ 100 → (kindV v).isSome = true → _ := fun H' r' g' G v s1 hg1 bad gl3 rl kv => j [some (.ref ps), some (.ref pc), some (.int cell), some (.int c.k), some (.int c.ri), some (.ref g'), some v, some (.str r')] H' ⟨r', g', G, v, rfl, s1, hg1, bad, gl3, rl, kv⟩
      have bw : ∀ (w wd : Str) (v : V), okName w = false → guardOk WORDS S.watches (c.G ++ [(w, wd, v)]) = false := fun w wd v h => guard_last (bad_w72 (wn w h))
      have ladd : ∀ {Hx Hy : Hp} {p1 p2 q1 : Addr} {l : Lq}, Same H Hx → Hx q1 = some (.tup [.str l.1, .str l.2.1, l.2.2]) → (kindV l.2.2).isSome = true → Hx p1 = some (.lst [.ref q1]) → Same Hx Hy → ∀ gqs : List Addr, H g = some (.lst (gqs.map V.ref)) → Hy p2 = some (.lst (gqs.map V.ref ++ [.ref q1])) → LsAt Hy p2 (c.G ++ [l]) := by
        intro Hx Hy p1 p2 q1 l sx e1 kv _ sy gqs eg e2
        obtain ⟨gqs', g1, g2, g3⟩ := id hg
        have : gqs' = gqs := by
          rw [eg] at g1
          exact ((List.map_inj_right (fun a b h => by cases h; rfl)).mp (HO.lst.inj (Option.some.inj g1))).symm
        subst this
        refine ⟨gqs' ++ [q1], by rw [List.map_append]; exact e2, by rw [List.length_append, List.length_append, g2]; rfl, fun i q x h1 h2 => ?_⟩
        by_cases cc : i < gqs'.length
        · rw [List.getElem?_append_left cc] at h1
          rw [List.getElem?_append_left (by omega)] at h2
          exact (g3 i q x h1 h2).keep (sx.trans sy)
        · have hl := (List.getElem?_eq_some_iff.mp h1).1
          rw [List.length_append, List.length_singleton] at hl
          rw [List.getElem?_append_right (by omega), show i - gqs'.length = 0 by omega] at h1
          rw [List.getElem?_append_right (by omega), show i - c.G.length = 0 by omega] at h2
          cases h1; cases h2
          exact ⟨sy _ _ e1, kv⟩
      obtain ⟨gqs, g1, g2, g3⟩ := id hg
      have room : ∀ {Q1 : Prop}, (∀ z : Str, z = r.1 ++ ("q" : Str) → Q1) → Q1 := fun h => h _ rfl
      have small : r.1.length + (Str.ofString "q").length ≤ sizeLine := small1000' (by rw [show (Str.ofString "q").length = 1 by decide +kernel]; omega)
      have badq : BadC S.mach c.k (r.1 ++ ("q" : Str)) c.G (.int c.n) := ⟨fun _ => mark_noroom bq, fun _ => .inl (mark_noroom bq), fun _ => .inl bq⟩
      have hnum : ∀ {Q0 : Ends}, (∀ (H' : Hp) (g' : Addr) (G : List Lq) (v : V), Same H H' → LsAt H' g' G → BadC S.mach c.k r.1 G v → G.length ≤ 3 → (kindV v).isSome = true → Q0.nx [some (.ref ps), some (.ref pc), some (.int cell), some (.int c.k), some (.int c.ri), some (.ref g'), some v, some (.str r.1)] H') → (tSeq
    (tAsg
      (tOp (rIxL K)
        (tLstN
          (tCons (tUn (rU fun i => V.int (-i)) (tC (V.int 1)))
            (tCons (tC (V.bl true)) (tCons (tC V.non) (tCons (tC (V.str (Str.ofString "3"))) tNil)))))
        (tOp (rI (fun x j => ¬j = 0) fun i j => V.int (i.fmod j))
          (tOp (rI (fun x j => DivOk j) fun i j => V.int (i.fdiv j)) (tVar 2) (tC (V.int 3))) (tC (V.int 4))))
      (gName 6))
    (tIfS (tTest (tOp rEq (tVar 3) (tC (V.int 0))))
      (tAsg
        (tOp rCatN (tVar 5)
          (tLstN
            (tCons
              (tTupN
                (tCons (tC (V.str (Str.ofString "")))
                  (tCons (tC (V.str (Str.ofString ">"))) (tCons (tC (V.int 0)) tNil))))
              tNil)))
        (gName 5))
      tNext)) Q0 [some (V.ref ps), some (V.ref pc), some (V.int cell), some (V.int ↑c.k), some (V.int ↑c.ri), some (V.ref g),
      some (V.int c.n), some (V.str r.fst)] H := by
        intro Q0 hq
        refine seq_step ?_
        walk_at "rd"
        intro p1 H1 s1 f1 e1
        have mm := fm_pos (c := cell.fdiv 3) (m := 4) (by decide)
        obtain ⟨v, hv⟩ : ∃ v, badN72[((cell.fdiv 3).fmod 4).toNat]? = some v := ⟨_, List.getElem?_eq_getElem (by show ((cell.fdiv 3).fmod 4).toNat < 4; omega)⟩
        obtain ⟨vn, vk⟩ := badN_no v (List.mem_of_getElem? hv)
        refine ix_l (.of e1) mm.1 hv ?_
        by_cases k0 : c.k = 0
        · refine if_t (decide_eq_true (by omega)) ?_
          intro t H3 s3 f3 e3 p5 H5 s5 f5 e5
          refine ⟨_, (s1.trans (s3.trans s5)) _ _ g1, _, e5, small1000' (by rw [List.length_map]; simp; omega), fun p6 H6 s6 f6 e6 => ?_⟩
          have hl := ladd (l := ("", ">", .int 0)) (s1.trans (s3.trans s5)) (s5 _ _ e3) rfl e5 s6 gqs g1 e6
          exact hq H6 p6 _ v (s1.trans (s3.trans (s5.trans s6))) hl ⟨fun _ => mark_no (bw _ _ _ (by decide +kernel)), (fun z => absurd z (by omega)), fun z => absurd z (by omega)⟩ (by rw [List.length_append, List.length_singleton]; omega) vk
        · refine if_f (decide_eq_false (by omega)) ?_
          exact hq H1 g c.G v s1 (hg.keep s1) ⟨fun z => absurd z k0, (fun _ => .inr (until_no vn)), fun _ => .inr (above_no vn)⟩ (by omega) vk
      refine ite_d (fun c0 => ⟨_, rfl, _, rfl, small, hend H _ g c.G _ (Same.refl _) hg badq (by omega) ql rfl⟩) (fun c0 => ?_)
      refine ite_d (fun c2 => ?_) (fun c2 => ?_)
      · refine ite_d (fun c1 => ⟨_, rfl, _, rfl, small, hend H _ g c.G _ (Same.refl _) hg badq (by omega) ql rfl⟩) (fun c1 => ?_)
        refine if_f (decide_eq_false c1) ?_
        exact hnum fun H' g' G v s1 hg1 bad gl3 kv => hend H' r.1 g' G v s1 hg1 bad gl3 (by omega) kv
      · refine ite_d (fun c1 => ?_) (fun c1 => ?_)
        · intro p1 H1 s1 f1 e1 p2 H2 s2 f2 e2 p3 H3 s3 f3 e3 p4 H4 s4 f4 e4
          have s14 := (s1.trans s2).trans (s3.trans s4)
          have mm := fm_pos (c := cell.fdiv 3) (m := 3) (by decide)
          obtain ⟨q0, l0, hq0, e0, k0, w0⟩ : ∃ (q0 : Addr) (l0 : Lq), ([V.ref p1, V.ref p2, V.ref p3] : List V)[((cell.fdiv 3).fmod 3).toNat]? = some (.ref q0) ∧ H4 q0 = some (.tup [.str l0.1, .str l0.2.1, l0.2.2]) ∧ (kindV l0.2.2).isSome = true ∧ okName l0.1 = false := by
            have : (cell.fdiv 3).fmod 3 = 0 ∨ (cell.fdiv 3).fmod 3 = 1 ∨ (cell.fdiv 3).fmod 3 = 2 := by omega
            rcases this with h | h | h <;> rw [h]
            · exact ⟨p1, ("", "<", .int 1), rfl, (s2.trans (s3.trans s4)) _ _ e1, rfl, by decide +kernel⟩
            · exact ⟨p2, ("/", "<", .int 1), rfl, (s3.trans s4) _ _ e2, rfl, by decide +kernel⟩
            · exact ⟨p3, ("aaaaaaaaa", "=", .int 0), rfl, s4 _ _ e3, rfl, by decide +kernel⟩
          refine ix_l (.of e4) mm.1 hq0 ?_
          intro p5 H5 s5 f5 e5
          refine ⟨_, (s14.trans s5) _ _ g1, _, e5, small1000' (by rw [List.length_map]; simp; omega), fun p6 H6 s6 f6 e6 => ?_⟩
          have hl := ladd (s14.trans s5) (s5 _ _ e0) k0 e5 s6 gqs g1 e6
          have bg := bw l0.1 l0.2.1 l0.2.2 w0
          exact hend H6 _ p6 _ _ (s14.trans (s5.trans s6)) hl ⟨fun _ => mark_no bg, fun _ => .inl (mark_no bg), fun z => absurd z (by omega)⟩ (by rw [List.length_append, List.length_singleton]; omega) (by omega) rfl
        · exact hnum fun H' g' G v s1 hg1 bad gl3 kv => hend H' r.1 g' G v s1 hg1 bad gl3 (by omega) kv
def askM (k : Nat) (r : Str) (M : MachD) : MachD := if k = 0 then M else if k = 1 then longM M else coM r (longM M)
def goalM (k : Nat) (r : Str) (G : List Lq) (v : V) (M : MachD) : List Rq := if k = 0 then [(r, G)] else if k = 1 then [(r, G ++ [untilL v])] else restG r v M
/-- a goal whose list and whose guards' lists are new (they may be one and the same) -/
def GlN (H0 H : Hp) (q : Addr) (gs : List Rq) : Prop := H0 q = none ∧ SeqOf (NRq H0) H q gs
theorem GlN.of {H0 H : Hp} {q : Addr} {gs : List Rq} (h : GoalN H0 H q gs) : GlN H0 H q gs := by
  obtain ⟨h0, ts, gl, a, b, c, d⟩ := h
  refine ⟨h0, ts, a, b, fun i t r h1 h2 => ?_⟩
  obtain ⟨g, hg⟩ : ∃ g, gl[i]? = some g := ⟨_, List.getElem?_eq_getElem (by rw [c]; exact (List.getElem?_eq_some_iff.mp h2).1)⟩
  obtain ⟨x, y, z⟩ := d i t g r h1 hg h2
  exact ⟨g, x, y, z⟩
theorem asked72 (T : Top K mg) {σ : L2.St} {H : Hp} {Q : VK} {E : XK} {pc : Addr} {M : MachD} {k : Nat} {r : Str} {G : List Lq} {v : V} {i : Nat} {ta : TE} (e1 : σ[i]? = some (some (.ref pc))) (hc : KAt T.C_Never T.C_NoSooner T.C_Within H pc k r G v) (kk : k ≤ 2) (mok : MachOk M) (ha : k = 0 ∨ areW (longW M.watches) = true) (mk : k ≤ 1 → markOk M (r, G) = true) (rm : r ∈ M.rooms.map (·.1)) (rl : r.length ≤ 1000) (gl : G.length ≤ 59)
    (harg : ∀ Q' : VK, (∀ pm H', Same H H' → MachAt T.C_Machine T.C_Door H' pm M → Q' (.ref pm) H') → ta σ H Q')
    (q : ∀ pa H', Same H H' → MachAt T.C_Machine T.C_Door H' pa (askM k r M) → Q (.ref pa) H') :
    tOrE (tMeth T.C_Never (Str.ofString "asked_of") (spAskedNever K T.C_Never T.C_Machine T.C_Door T.C_NoMark) [] E (tVar i) (tCons ta tNil))
      (tOrE (tMeth T.C_NoSooner (Str.ofString "asked_of") (spAskedSooner K T.C_NoSooner T.C_Machine T.C_Door T.C_NoMark T.C_BadMachine) [] E (tVar i) (tCons ta tNil))
        (tMeth T.C_Within (Str.ofString "asked_of") (spMadeWithin K T.C_Within T.C_Machine T.C_Door T.C_NoMark T.C_BadMachine) [] E (tVar i) (tCons ta tNil))) σ H Q := by
  rcases (show k = 0 ∨ k = 1 ∨ k = 2 by omega) with k0 | k0 | k0
  · have h := hc.1 k0
    obtain ⟨dx, g, e, _⟩ := id h
    refine .inl ⟨_, e1, pc, dx, _, rfl, e, never_no (by decide +kernel) (by decide +kernel), harg _ fun pm H1 s1 hm => ⟨pc, pm, _, _, M, rfl, h.keep s1, hm, by omega, fun _ H2 s2 => ?_, fun hk => by rw [mk (by omega)] at hk; cases hk⟩⟩
    refine q pm H2 (s1.trans s2) ?_
    rw [show askM k r M = M from if_pos k0]
    exact hm.keep s2
  · have h := hc.2.1 k0
    have ha := ha.resolve_left (by omega)
    obtain ⟨dx, g, e, _⟩ := id h
    refine .inr (.inl ⟨_, e1, pc, dx, _, rfl, e, sooner_no (by decide +kernel) (by decide +kernel) (by decide +kernel), harg _ fun pm H1 s1 hm => ⟨pc, pm, _, _, v, M, rfl, h.keep s1, hm, mok, by omega, .inr (.inr ⟨ha, mk (by omega), fun pa H2 s2 hma0 => ?_⟩)⟩⟩)
    refine q pa H2 (s1.trans s2) ?_
    rw [show askM k r M = longM M by unfold askM; rw [if_neg (by omega), if_pos k0]]
    exact hma0
  · have h := hc.2.2 k0
    have ha := ha.resolve_left (by omega)
    obtain ⟨dx, e⟩ := id h
    refine .inr (.inr ⟨_, e1, pc, dx, _, rfl, e, within_no (by decide +kernel) (by decide +kernel), harg _ fun pm H1 s1 hm => ⟨pc, pm, _, v, M, rfl, h.keep s1, hm, mok, rl, .inr (.inr ⟨ha, rm, fun pa H2 s2 hma0 => ?_⟩)⟩⟩)
    refine q pa H2 (s1.trans s2) ?_
    rw [show askM k r M = coM r (longM M) by unfold askM; rw [if_neg (by omega), if_neg (by omega)]]
    exact hma0
theorem goal72 (T : Top K mg) {σ : L2.St} {H : Hp} {Q : VK} {E : XK} {pc pa : Addr} {M : MachD} {k : Nat} {r : Str} {G : List Lq} {v : V} {i j : Nat} (e1 : σ[i]? = some (some (.ref pc))) (e2 : σ[j]? = some (some (.ref pa))) (hc : KAt T.C_Never T.C_NoSooner T.C_Within H pc k r G v) (kk : k ≤ 2) (kv : (kindV v).isSome = true) (hm : MachAt T.C_Machine T.C_Door H pa (askM k r M)) (mok : MachOk (askM k r M)) (gl : G.length ≤ 59)
    (q : ((k = 1 → guardOk WORDS (longW M.watches) (G ++ [untilL v]) = true) ∧ (k = 2 → guardOk WORDS (longW M.watches) [aboveL v] = true) ∧ ∀ pg H', Same H H' → GlN H H' pg (goalM k r G v M) → Q (.ref pg) H') ∨
      (1 ≤ k ∧ (k = 1 → guardOk WORDS (longW M.watches) (G ++ [untilL v]) = false) ∧ (k = 2 → guardOk WORDS (longW M.watches) [aboveL v] = false) ∧ ∀ H', Same H H' → E (.ref T.C_NoMark) none H')) :
    tOrE (tMeth T.C_Never (Str.ofString "goal_on") (fun vs H Q E => ∃ (p : Addr) (b : V), vs = [.ref p, b] ∧ spNamed (NeverAt T.C_Never) [.ref p] H Q E) [] E (tVar i) (tCons (tVar j) tNil))
      (tOrE (tMeth T.C_NoSooner (Str.ofString "goal_on") (spGoalSooner K T.C_NoSooner T.C_Machine T.C_Door T.C_NoMark) [] E (tVar i) (tCons (tVar j) tNil))
        (tMeth T.C_Within (Str.ofString "goal_on") (spGoalWithin K T.C_Within T.C_Machine T.C_Door T.C_NoMark) [] E (tVar i) (tCons (tVar j) tNil))) σ H Q := by
  rcases (show k = 0 ∨ k = 1 ∨ k = 2 by omega) with k0 | k0 | k0
  · have h := hc.1 k0
    obtain ⟨dx, g, e, _⟩ := id h
    refine .inl ⟨_, e1, pc, dx, _, rfl, e, never_no (by decide +kernel) (by decide +kernel), _, e2, pc, _, rfl, pc, _, _, rfl, h, fun pg H2 s2 hg0 => ?_⟩
    rcases q with ⟨_, _, q⟩ | ⟨z, _⟩
    · refine q pg H2 s2 ?_
      rw [show goalM k r G v M = [(r, G)] from if_pos k0]
      exact .of hg0
    · omega
  · have h := hc.2.1 k0
    obtain ⟨dx, g, e, _⟩ := id h
    have eA : askM k r M = longM M := by unfold askM; rw [if_neg (by omega), if_pos k0]
    rw [eA] at hm
    refine .inr (.inl ⟨_, e1, pc, dx, _, rfl, e, sooner_no (by decide +kernel) (by decide +kernel) (by decide +kernel), _, e2, pc, pa, _, _, v, longM M, rfl, h, kv, hm, by omega, ?_⟩)
    rcases q with ⟨h1, _, q⟩ | ⟨_, h1, _, q⟩
    · refine .inl ⟨h1 k0, fun pg H2 s2 hg0 => q pg H2 s2 ?_⟩
      rw [show goalM k r G v M = [(r, G ++ [untilL v])] by unfold goalM; rw [if_neg (by omega), if_pos k0]]
      exact .of hg0
    · exact .inr ⟨h1 k0, q⟩
  · have h := hc.2.2 k0
    obtain ⟨dx, e⟩ := id h
    have eA : askM k r M = coM r (longM M) := by unfold askM; rw [if_neg (by omega), if_neg (by omega)]
    rw [eA] at hm mok
    refine .inr (.inr ⟨_, e1, pc, dx, _, rfl, e, within_no (by decide +kernel) (by decide +kernel), _, e2, pc, pa, _, v, coM r (longM M), rfl, h, kv, hm, mok, ?_⟩)
    rcases q with ⟨_, h1, q⟩ | ⟨_, _, h1, q⟩
    · refine .inl ⟨h1 k0, fun pg H2 s2 hg0 => q pg H2 s2 ?_⟩
      rw [show goalM k r G v M = restG r v M by unfold goalM; rw [if_neg (by omega), if_neg (by omega)]]
      exact hg0
    · exact .inr ⟨h1 k0, q⟩
theorem goal72d (T : Top K mg) {σ : L2.St} {H : Hp} {Q : VK} {E : L2.St → XK} {pc pa : Addr} {M : MachD} {k : Nat} {r : Str} {G : List Lq} {v : V} {i j : Nat} (e1 : σ[i]? = some (some (.ref pc))) (e2 : σ[j]? = some (some (.ref pa))) (hc : KAt T.C_Never T.C_NoSooner T.C_Within H pc k r G v) (kk : k ≤ 2) (kv : (kindV v).isSome = true) (hm : MachAt T.C_Machine T.C_Door H pa (askM k r M)) (mok : MachOk (askM k r M)) (gl : G.length ≤ 59)
    (q : ((k = 1 → guardOk WORDS (longW M.watches) (G ++ [untilL v]) = true) ∧ (k = 2 → guardOk WORDS (longW M.watches) [aboveL v] = true) ∧ ∀ pg H', Same H H' → GlN H H' pg (goalM k r G v M) → Q (.ref pg) H') ∨
      (1 ≤ k ∧ (k = 1 → guardOk WORDS (longW M.watches) (G ++ [untilL v]) = false) ∧ (k = 2 → guardOk WORDS (longW M.watches) [aboveL v] = false) ∧ ∀ H', Same H H' → E σ (.ref T.C_NoMark) none H')) :
    tOrE (tMeth T.C_Never (Str.ofString "goal_on") (fun vs H Q E => ∃ (p : Addr) (b : V), vs = [.ref p, b] ∧ spNamed (NeverAt T.C_Never) [.ref p] H Q E) [] E0 (tVar i) (tCons (tVar j) tNil))
      (tOrE (tMethSD T.C_NoSooner (Str.ofString "goal_on") (spGoalSooner K T.C_NoSooner T.C_Machine T.C_Door T.C_NoMark) [] E (tVar i) (tCons (tVar j) tNil))
        (tMethSD T.C_Within (Str.ofString "goal_on") (spGoalWithin K T.C_Within T.C_Machine T.C_Door T.C_NoMark) [] E (tVar i) (tCons (tVar j) tNil))) σ H Q := by
  rcases (show k = 0 ∨ k = 1 ∨ k = 2 by omega) with k0 | k0 | k0
  · have h := hc.1 k0
    obtain ⟨dx, g, e, _⟩ := id h
    refine .inl ⟨_, e1, pc, dx, _, rfl, e, never_no (by decide +kernel) (by decide +kernel), _, e2, pc, _, rfl, pc, _, _, rfl, h, fun pg H2 s2 hg0 => ?_⟩
    rcases q with ⟨_, _, q⟩ | ⟨z, _⟩
    · refine q pg H2 s2 ?_
      rw [show goalM k r G v M = [(r, G)] from if_pos k0]
      exact .of hg0
    · omega
  · have h := hc.2.1 k0
    obtain ⟨dx, g, e, _⟩ := id h
    have eA : askM k r M = longM M := by unfold askM; rw [if_neg (by omega), if_pos k0]
    rw [eA] at hm
    refine .inr (.inl ⟨_, e1, pc, dx, _, rfl, e, sooner_no (by decide +kernel) (by decide +kernel) (by decide +kernel), _, e2, pc, pa, _, _, v, longM M, rfl, h, kv, hm, by omega, ?_⟩)
    rcases q with ⟨h1, _, q⟩ | ⟨_, h1, _, q⟩
    · refine .inl ⟨h1 k0, fun pg H2 s2 hg0 => q pg H2 s2 ?_⟩
      rw [show goalM k r G v M = [(r, G ++ [untilL v])] by unfold goalM; rw [if_neg (by omega), if_pos k0]]
      exact .of hg0
    · exact .inr ⟨h1 k0, q⟩
  · have h := hc.2.2 k0
    obtain ⟨dx, e⟩ := id h
    have eA : askM k r M = coM r (longM M) := by unfold askM; rw [if_neg (by omega), if_neg (by omega)]
    rw [eA] at hm mok
    refine .inr (.inr ⟨_, e1, pc, dx, _, rfl, e, within_no (by decide +kernel) (by decide +kernel), _, e2, pc, pa, _, v, coM r (longM M), rfl, h, kv, hm, mok, ?_⟩)
    rcases q with ⟨_, h1, q⟩ | ⟨_, _, h1, q⟩
    · refine .inl ⟨h1 k0, fun pg H2 s2 hg0 => q pg H2 s2 ?_⟩
      rw [show goalM k r G v M = restG r v M by unfold goalM; rw [if_neg (by omega), if_neg (by omega)]]
      exact hg0
    · exact .inr ⟨h1 k0, q⟩
def spNumbered72 : Sp := fun vs H Q _ => ∃ (ps pc : Addr) (cell : Int) (S : Spec) (c : ClD), vs = [.ref ps, .ref pc, .int cell] ∧ SpecAt H ps S ∧ SpecOk S ∧ ClAt H pc c ∧ ClOk S c ∧ ∀ H', Same H H' → Q (.bl (decide (0 < c.k))) H'
theorem ok_l_numbered (T : Top K mg) : FnOk P w K mg base CX0 13 T.f_l_numbered T.d_l_numbered ["_law_spec", "_law_claim_here", "_law_cell"] spNumbered72 := by
  refine T.F_l_numbered.ok sc_l_numbered (fun vs H Q E h => ?_) (fun cdv A outer s H vs Q E hr h => ?_)
  · obtain ⟨ps, pc, cell, S, c, rfl, _⟩ := h; rfl
  · obtain ⟨ps, pc, cell, S, c, rfl, hs, ok, hc, cok, q⟩ := h
    refine ⟨_, (pss_cons (ps_asg (pv 1) (pg_tupA (K := K) (n := 4) rfl (by rfl) (pgs_cons (pg_name (i := 3) sc_l_numbered.nd rfl (.inl rfl)) (pgs_cons (pg_name (i := 4) sc_l_numbered.nd rfl (.inl rfl)) (pgs_cons (pg_name (i := 5) sc_l_numbered.nd rfl (.inl rfl)) (pgs_cons (pg_name (i := 6) sc_l_numbered.nd rfl (.inl rfl)) pgs_nil))))))
      (pss_cons (ps_set (i := 7) sc_l_numbered.nd rfl (.inl rfl) (pe_call (ok_l_claimed T) (hr.mono (by decide)) rfl T.g_l_claimed T.F_l_claimed.kp T.b_l_claimed .nil pass0 (pa_cons (pe_tupN (pa_cons (pv 3) (pa_cons (pv 4) (pa_cons (pe_callTy (call_listA (K := K) rfl) (by rfl) T.m_list (by decide +kernel) (pa_cons (pv 5) pa_nil)) (pa_cons (pe_ix (ix_listA (K := K) rfl) (pe_lstN (pa_cons (pe_un un_neg pe_int) (pa_cons pe_bl (pa_cons pe_non (pa_cons pe_str pa_nil))))) (pe_op op_modN (pv 2) pe_int) (fun _ _ => rfl)) pa_nil))))) (pa_cons (pv 0) pa_nil))))
      (pss_cons (ps_set (i := 8) sc_l_numbered.nd rfl (.inl rfl) (pe_alt (pe_meth (pv 7) T.cl_Never T.mi_Never_asked_of (ok_Claim_asked_of_Never T) (hr.mono (by decide)) T.b_Claim_asked_of .nil passL (pa_cons (pe_call (ok_l_made T) (hr.mono (by decide)) rfl T.g_l_made T.F_l_made.kp T.b_l_made .nil pass0 (pa_cons (pv 0) pa_nil)) pa_nil)) (pe_alt (pe_meth (pv 7) T.cl_NoSooner T.mi_NoSooner_asked_of (ok_Claim_asked_of_NoSooner T) (hr.mono (by decide)) T.b_Claim_asked_of .nil passL (pa_cons (pe_call (ok_l_made T) (hr.mono (by decide)) rfl T.g_l_made T.F_l_made.kp T.b_l_made .nil pass0 (pa_cons (pv 0) pa_nil)) pa_nil)) (pe_meth (pv 7) T.cl_Within T.mi_Within_asked_of (ok_Claim_asked_of_Within T) (hr.mono (by decide)) T.b_Claim_asked_of .nil passL (pa_cons (pe_call (ok_l_made T) (hr.mono (by decide)) rfl T.g_l_made T.F_l_made.kp T.b_l_made .nil pass0 (pa_cons (pv 0) pa_nil)) pa_nil)))))
      (pss_cons (ps_set (i := 9) sc_l_numbered.nd rfl (.inl rfl) pe_bl)
      (pss_cons (ps_try_only rfl rfl ⟨rfl, by decide, .inl T.g_NoMark⟩ takes0 (fun W pn xe tk _ => (pss_one (ps_expr (pe_alt (pe_meth (pv 7) T.cl_Never T.mi_Never_goal_on (ok_Claim_goal_on_Never T) (hr.mono (by decide)) T.b_Claim_goal_on .nil pass0 (pa_cons (pv 8) pa_nil)) (pe_alt (pe_methS (pv 7) T.cl_NoSooner T.m_NoSooner_goal_on (ok_NoSooner_goal_on T) (hr.mono (by decide)) T.b_NoSooner_goal_on .nil (fun σ => passAt tk σ) (pa_cons (pv 8) pa_nil)) (pe_methS (pv 7) T.cl_Within T.m_Within_goal_on (ok_Within_goal_on T) (hr.mono (by decide)) T.b_Within_goal_on .nil (fun σ => passAt tk σ) (pa_cons (pv 8) pa_nil))))))) (fun a oe cls d pn hz hf => (pss_one (ps_set (i := 9) sc_l_numbered.nd rfl (.inl rfl) pe_bl))))
      (pss_one (ps_ret (pv 9)))))))), ?_⟩
    obtain ⟨g, ec, hg⟩ := id hc
    obtain ⟨gqs, g1, g2, g3⟩ := id hg
    have kk := cok.k
    have gl := cok.len
    refine seq_step ?_
    walk_at "rd"
    refine gTup_of (sqt ec) rfl ?_
    walk_at "rd"
    refine seq_step ?_
    walk_at "rd"
    refine ⟨_, .inl (.of g1), fun l H1 s1 f1 e1 p H2 s2 f2 e2 => ?_⟩
    have m4 := fm_pos (c := cell) (m := 4) (by decide)
    obtain ⟨v, hv⟩ : ∃ v, badN72[(cell.fmod 4).toNat]? = some v := ⟨_, List.getElem?_eq_getElem (by show (cell.fmod 4).toNat < 4; omega)⟩
    obtain ⟨vn, vk⟩ := badN_no v (List.mem_of_getElem? hv)
    refine ix_l (.of e2) m4.1 hv ?_
    intro t H3 s3 f3 e3
    have s13 := s1.trans (s2.trans s3)
    have hl : LsAt H3 l c.G := ⟨gqs, (s2.trans s3) _ _ e1, g2, fun i q x h1 h2 => (g3 i q x h1 h2).keep s13⟩
    refine ⟨t, ps, l, S, c.k, c.ri, c.G, v, rfl, hs.keep s13, e3, hl, kk, cok.ri, fun q1 H4 s4 hq => ?_⟩
    have hk0 : KAt T.C_Never T.C_NoSooner T.C_Within H4 q1 c.k (S.name c.ri) c.G v := (hq (fun _ => False) (fun b h => h.elim)).keep fun b o e => (rem_of e).2
    have mok := ok.mach
    have ha : areW (longW S.mach.watches) = true := areW_long mok.areW (fun h => by
      have := ok.w.2.1 _ h
      rw [show okName ("/" : Str) = false by decide +kernel] at this
      cases this) (show S.watches.length ≤ 6 by have := ok.w2; omega)
    have rm : S.name c.ri ∈ S.mach.rooms.map (·.1) := name_mem cok.ri
    have mk : markOk S.mach (S.name c.ri, c.G) = true := by unfold markOk; rw [Bool.and_eq_true]; exact ⟨decide_eq_true rm, cok.gk⟩
    refine seq_step ?_
    walk_at "rd"
    refine asked72 T (by rfl) hk0 kk mok (.inr ha) (fun _ => mk) rm (name_len ok cok.ri) (by omega) (fun Q' h => ?_) fun pa H5 s5 hma => ?_
    · walk_at "rd"
      exact ⟨ps, S, rfl, hs.keep (s13.trans s4), ok.made, fun q2 H5 s5 hm => h q2 H5 s5 hm⟩
    walk_at "rd"
    refine seq_step ?_
    walk_at "rd"
    refine seq_step ?_
    walk_at "rd"
    have mokA : MachOk (askM c.k (S.name c.ri) S.mach) := by
      unfold askM
      by_cases k0 : c.k = 0
      · rw [if_pos k0]; exact mok
      · rw [if_neg k0]
        by_cases k1 : c.k = 1
        · rw [if_pos k1]; exact mok.long ha
        · rw [if_neg k1]; exact (mok.long ha).cut _
    have s15 := s13.trans (s4.trans s5)
    refine goal72d T (by rfl) (by rfl) (hk0.keep s5) kk vk hma mokA (by omega) ?_
    by_cases k0 : c.k = 0
    · refine .inl ⟨(fun z => by omega), (fun z => by omega), fun pg H6 s6 _ => ?_⟩
      walk_at "rd"
      have := q H6 (s15.trans s6)
      rw [decide_eq_false (show ¬ 0 < c.k by omega)] at this
      exact this
    · refine .inr ⟨by omega, (fun _ => until_no vn), (fun _ => above_no vn), fun H6 s6 => ?_⟩
      refine ⟨true, exm_two T.b_NoMark T.e4_NoMark T.t_NoMark T.s_NoMark_NoMark, fun _ a ha => ?_, fun z => nomatch z⟩
      walk_at "rd"
      have := q H6 (s15.trans s6)
      rw [decide_eq_true (show 0 < c.k by omega)] at this
      exact this
theorem is_oth72 {K : PySem.W.Frag} {H : Hp} {p C D dx : Addr} {fs : List (Str × V)} {b : Bool} {Q : VK} (h : H p = some (.ins C dx fs)) (c : Cls K C) (o : OwnCls K C) (k : PySem.W.kitOne K (.ref C) (.ref D) = some b) (q : Q (.bl b) H) : rIsi K [.ref p, .ref D] H Q :=
  ⟨.ref p, .ref D, _, _, b, rfl, .own D, .base (.ins h c o.hc o.hn o.ht o.hm), k, q⟩
def spLaw (K : PySem.W.Frag) : Sp := fun vs H Q _ => ∃ (a : Addr) (ns : List Int), vs = [.ref a] ∧ SqL K H a (ns.map V.int) ∧ ns.length ≤ 63 ∧ ∀ H', Q (.bl true) H'
theorem del_upd72 {b : Addr} {H : Hp} {o : HO} : Same (remU (fun z => z = b) H) (upd H b o) := fun c o' e => by
  obtain ⟨n, e⟩ := rem_of e
  rw [upd_ne (show c ≠ b from n)]; exact e
theorem mark_rq72 {M : MachD} (ok : MachOk M) {gs : List Rq} (h : gs.all (markOk M) = true) : ∀ g ∈ gs, RqOk g := fun g hg => by
  have := List.all_eq_true.mp h g hg
  unfold markOk at this
  rw [Bool.and_eq_true] at this
  obtain ⟨r, hr, e⟩ := List.mem_map.mp (of_decide_eq_true this.1)
  exact ⟨by rw [← e]; exact (ok.room hr).2.2.1, fun l hl => look_ok (by decide +kernel) ok.watch (List.all_eq_true.mp this.2 l hl)⟩
theorem goal_ok72 {S : Spec} {c : ClD} (cok : ClOk S c) (mok : MachOk S.mach) : (goalC S c).all (markOk (askC S c)) = true ∧ (∀ g ∈ goalC S c, g.2.length ≤ 60) ∧ (goalC S c).length ≤ 64 := by
  have l2 := cok.len
  have rm : S.name c.ri ∈ S.mach.rooms.map (·.1) := name_mem cok.ri
  unfold goalC askC
  split
  · refine ⟨?_, fun g hg => ?_, by show 1 ≤ 64; decide⟩
    · show (markOk S.mach (S.name c.ri, c.G) && true) = true
      rw [Bool.and_true]; unfold markOk; rw [Bool.and_eq_true]; exact ⟨decide_eq_true rm, cok.gk⟩
    · rw [List.mem_singleton.mp hg]; show c.G.length ≤ 60; omega
  · split
    · refine ⟨?_, fun g hg => ?_, by show 1 ≤ 64; decide⟩
      · show (markOk (longM S.mach) (S.name c.ri, c.G ++ [belowL c.n]) && true) = true
        rw [Bool.and_true]; unfold markOk; rw [Bool.and_eq_true]; exact ⟨decide_eq_true rm, below_ok (M := S.mach) cok.gk cok.n0⟩
      · rw [List.mem_singleton.mp hg]
        show (c.G ++ [belowL c.n]).length ≤ 60; rw [List.length_append]; show c.G.length + 1 ≤ 60; omega
    · refine ⟨rest_ok cok.n0, fun g hg => ?_, ?_⟩
      · obtain ⟨x, hx, rfl⟩ := List.mem_map.mp hg
        exact (by decide : 1 ≤ 60)
      · unfold restG
        rw [List.length_map]
        have h1 := List.length_filter_le (fun x : Rq => decide (x.1 ≠ S.name c.ri)) S.mach.rooms
        have h2 := mok.r64
        omega
theorem GlN.rs {H0 H : Hp} {q : Addr} {gs : List Rq} (h : GlN H0 H q gs) : RsAt H q gs := by
  obtain ⟨_, ts, a, b, c⟩ := h
  refine ⟨ts, a, b, fun i t r h1 h2 => ?_⟩
  obtain ⟨g, x, y, _⟩ := c i t r h1 h2
  exact ⟨g, x, y⟩
/-- the goal's list and its guards' lists may become what they like -/
theorem GlN.inv {H0 H H1 : Hp} {q : Addr} {gs : List Rq} (h : GlN H0 H q gs) (s : Same H H1) (l : ∀ g ∈ gs, g.2.length ≤ 60) (hl : gs.length ≤ 64) : ∃ ts : List Addr, H1 q = some (.lst (ts.map V.ref)) ∧ ts.length = gs.length ∧ ∃ Z : Addr → Prop, InvA Z H1 60 H1 ∧ (∀ b, Z b → H0 b = none) ∧ ¬ Z q ∧ ∀ (i : Nat) (t : Addr), ts[i]? = some t → ∃ (n : Str) (g : Addr), H1 t = some (.tup [.str n, .ref g]) ∧ Z g ∧ ¬ Z t := by
  obtain ⟨hq, ts, e, tl, c⟩ := h
  refine ⟨ts, s _ _ e, tl, fun b => ∃ (i : Nat) (t : Addr) (r : Rq), ts[i]? = some t ∧ gs[i]? = some r ∧ H t = some (.tup [.str r.1, .ref b]) ∧ LsAt H b r.2 ∧ H0 b = none, ⟨rem_sub, fun b hb => ?_⟩, fun b hb => ?_, fun hb => ?_, fun i t h1 => ?_⟩
  · obtain ⟨i, t, r, h1, h2, h3, ⟨gqs, a1, a2, _⟩, h5⟩ := hb
    exact ⟨_, s _ _ a1, by rw [List.length_map, a2]; exact l r (List.mem_of_getElem? h2)⟩
  · obtain ⟨i, t, r, h1, h2, h3, h4, h5⟩ := hb
    exact h5
  · obtain ⟨i, t, r, h1, h2, h3, ⟨gqs, a1, a2, a3⟩, h5⟩ := hb
    have eq : gqs = ts := by
      rw [a1] at e
      exact (List.map_inj_right (fun a b h => by cases h; rfl)).mp (HO.lst.inj (Option.some.inj e))
    subst eq
    obtain ⟨x, hx⟩ : ∃ x, r.2[i]? = some x := ⟨_, List.getElem?_eq_getElem (by rw [← a2]; exact (List.getElem?_eq_some_iff.mp h1).1)⟩
    have := (a3 i t x h1 hx).1
    rw [h3] at this
    have := congrArg List.length (HO.tup.inj (Option.some.inj this))
    exact absurd this (show ¬ (2 = 3) by decide)
  · have il : i < gs.length := by rw [← tl]; exact (List.getElem?_eq_some_iff.mp h1).1
    obtain ⟨r, hr⟩ : ∃ r, gs[i]? = some r := ⟨_, List.getElem?_eq_getElem il⟩
    obtain ⟨g, x, y, z⟩ := c i t r h1 hr
    refine ⟨r.1, g, s _ _ x, ⟨i, t, r, h1, hr, x, y, z⟩, fun hb => ?_⟩
    obtain ⟨i', t', r', _, _, _, ⟨gqs, a1, _⟩, _⟩ := hb
    rw [x] at a1
    exact HO.noConfusion (Option.some.inj a1)
theorem okT_o {x : Str} (h : okName x = true) : okT (x ++ ("o" : Str)) (letters ++ ("/" : Str)) 60 = true := by
  have h8 := okName_len h
  have hT := okName_okT h
  unfold okT at hT ⊢
  rw [Bool.and_eq_true, Bool.and_eq_true, List.all_eq_true] at hT ⊢
  have hl : (x ++ ("o" : Str)).length = x.length + 1 := by
    show (x.cps ++ ("o" : Str).cps).size = x.cps.size + 1
    rw [Array.size_append]; rfl
  refine ⟨⟨decide_eq_true (by omega), decide_eq_true (by omega)⟩, fun c hc => ?_⟩
  have hc : c ∈ (x.cps ++ ("o" : Str).cps).toList := hc
  rw [Array.toList_append] at hc
  rcases List.mem_append.mp hc with hc | hc
  · exact hT.2 c hc
  · have : ("o" : Str).cps.toList = [111] := by decide +kernel
    rw [this] at hc
    rw [List.mem_singleton.mp hc]
    decide +kernel
theorem more_made72 {S : Spec} (ok : SpecOk S) (hs : ("/" : Str) ∉ S.watches) : MadeOk ⟨S.watches ++ [("/" : Str)], S.rooms, S.doors⟩ :=
  ⟨ok.r4, ok.d6, fun d hd => ⟨(ok.d d hd).1, (ok.d d hd).2.1⟩, ok.mach.more (W := S.watches ++ [("/" : Str)]) (fun x hx => List.mem_append_left _ hx) (areW_iff.mpr ⟨by rw [List.length_append]; have := ok.w2; show S.watches.length + 1 ≤ 7; omega, fun x h => (List.mem_append.mp h).elim (fun h => ok.mach.watch x h) (fun h => by rw [List.mem_singleton.mp h]; decide +kernel), List.nodup_append.mpr ⟨(areW_iff.mp ok.mach.areW).2.2, List.nodup_cons.mpr ⟨by simp, List.nodup_nil⟩, fun a ha b hb e => hs (by rw [List.mem_singleton.mp hb] at e; rw [← e]; exact ha)⟩⟩)⟩
def othM (n : Str) : MachD := ⟨[], [(n, []), (n ++ ("o" : Str), [])], []⟩
theorem othM_ok {n : Str} (h : okName n = true) : MachOk (othM n) where
  w7 := Nat.zero_le _
  wok := rfl
  wnd := List.nodup_nil
  rok := by
    show (roomOk [] (n, []) && (roomOk [] (n ++ ("o" : Str), []) && true)) = true
    have h1 : roomOk [] (n, []) = true := by
      unfold roomOk; rw [Bool.and_eq_true]; exact ⟨okName_okT h, rfl⟩
    have h2 : roomOk [] (n ++ ("o" : Str), []) = true := by
      unfold roomOk; rw [Bool.and_eq_true]; exact ⟨okT_o h, rfl⟩
    rw [h1, h2]; rfl
  rnd := by
    show [n, n ++ ("o" : Str)].Nodup
    rw [List.nodup_cons]
    refine ⟨fun z => ?_, List.nodup_cons.mpr ⟨by simp, List.nodup_nil⟩⟩
    have z := List.mem_singleton.mp z
    have hl : (n ++ ("o" : Str)).length = n.length + 1 := by
      show (n.cps ++ ("o" : Str).cps).size = n.cps.size + 1
      rw [Array.size_append]; rfl
    rw [← z] at hl
    omega
  rne := by intro z; cases z
  r64 := by show 2 ≤ 64; decide
  dok := rfl
  d200 := Nat.zero_le _
  rsz := fun r hr => by
    have hr : r ∈ [(n, ([] : List Lq)), (n ++ ("o" : Str), [])] := hr
    rcases List.mem_cons.mp hr with e | hr
    · rw [e]; exact Nat.zero_le _
    · rw [List.mem_singleton.mp hr]; exact Nat.zero_le _
  dsz := fun d hd => by cases hd
theorem ok_law (T : Top K mg) : FnOk P w K mg base CX0 14 T.f_law T.d_law ["_law_script"] (spLaw K) := by
  refine T.F_law.ok sc_law (fun vs H Q E h => ?_) (fun cdv A outer s H vs Q E hr h => ?_)
  · obtain ⟨a, ns, rfl, _⟩ := h; rfl
  · obtain ⟨a, cs, rfl, hS, h63, q⟩ := h
    refine ⟨_, (pss_cons (ps_set (i := 1) sc_law.nd rfl (.inl rfl) (pe_call (ok_l_machine T) (hr.mono (by decide)) rfl T.g_l_machine T.F_l_machine.kp T.b_l_machine .nil pass0 (pa_cons (pv 0) pa_nil)))
      (pss_cons (ps_set (i := 2) sc_law.nd rfl (.inl rfl) (pe_call (ok_l_claim T) (hr.mono (by decide)) rfl T.g_l_claim T.F_l_claim.kp T.b_l_claim .nil pass0 (pa_cons (pe_call (ok_l_cell_at T) (hr.mono (by decide)) rfl T.g_l_cell_at T.F_l_cell_at.kp T.b_l_cell_at .nil pass0 (pa_cons (pv 0) (pa_cons pe_int pa_nil))) (pa_cons (pv 1) pa_nil))))
      (pss_cons (ps_asg (pv 2) (pg_tupA (K := K) (n := 4) rfl (by rfl) (pgs_cons (pg_name (i := 3) sc_law.nd rfl (.inl rfl)) (pgs_cons (pg_name (i := 4) sc_law.nd rfl (.inl rfl)) (pgs_cons (pg_name (i := 5) sc_law.nd rfl (.inl rfl)) (pgs_cons (pg_name (i := 6) sc_law.nd rfl (.inl rfl)) pgs_nil))))))
      (pss_cons (ps_set (i := 7) sc_law.nd rfl (.inl rfl) (pe_callTy (call_listA (K := K) rfl) (by rfl) T.m_list (by decide +kernel) (pa_cons (pv 5) pa_nil)))
      (pss_cons (ps_set (i := 8) sc_law.nd rfl (.inl rfl) (pe_call (ok_l_claimed T) (hr.mono (by decide)) rfl T.g_l_claimed T.F_l_claimed.kp T.b_l_claimed .nil pass0 (pa_cons (pe_tupN (pa_cons (pv 3) (pa_cons (pv 4) (pa_cons (pv 7) (pa_cons (pv 6) pa_nil))))) (pa_cons (pv 1) pa_nil))))
      (pss_cons (ps_if (pt_not (pt_val (pe_callB (call_isiA (K := K) rfl) (by rfl) T.m_isinstance (by decide +kernel) (pa_cons (pv 8) (pa_cons (pe_glob (v := .ref T.C_Claim) rfl T.g_Claim rfl) pa_nil))))) (pss_one (ps_ret pe_bl)) pss_nil)
      (pss_cons (ps_expr (pe_bm PySem.F.plainAttrs_list PySem.F.slot_list_append PySem.F.type_list_append mt_append (pv 7) (pa_cons (pe_tupN (pa_cons pe_str (pa_cons pe_str (pa_cons pe_int pa_nil)))) pa_nil)))
      (pss_cons (ps_set (i := 9) sc_law.nd rfl (.inl rfl) (pe_ix (ix_tupA (K := K) rfl) (pe_ix (ix_listA (K := K) rfl) (pe_ix (ix_tupA (K := K) rfl) (pv 1) pe_int (fun _ _ => rfl)) (pe_ix (ix_tupA (K := K) rfl) (pv 2) pe_int (fun _ _ => rfl)) (fun _ _ => rfl)) pe_int (fun _ _ => rfl)))
      (pss_cons (ps_set (i := 10) sc_law.nd rfl (.inl rfl) (pe_makeN T.mk_Machine (ok_Machine_init T) (hr.mono (by decide)) rfl T.g_Machine T.b_Machine_init .nil passL (pa_cons (pe_lstN pa_nil) (pa_cons (pe_lstN (pa_cons (pe_tupN (pa_cons (pv 9) (pa_cons (pe_lstN pa_nil) pa_nil))) (pa_cons (pe_tupN (pa_cons (pe_op op_add_str (pv 9) pe_str) (pa_cons (pe_lstN pa_nil) pa_nil))) pa_nil))) (pa_cons (pe_lstN pa_nil) pa_nil)))))
      (pss_cons (ps_for PassesOwn.never rfl (pi_range1 (by rfl) T.m_range (pa_cons pe_int pa_nil)) (pg_name (i := 11) sc_law.nd rfl (.inl rfl)) (pss_cons (ps_set (i := 12) sc_law.nd rfl (.inl rfl) (pe_alt (pe_meth (pv 8) T.cl_Never T.mi_Never_asked_of (ok_Claim_asked_of_Never T) (hr.mono (by decide)) T.b_Claim_asked_of .nil passL (pa_cons (pe_call (ok_l_made T) (hr.mono (by decide)) rfl T.g_l_made T.F_l_made.kp T.b_l_made .nil pass0 (pa_cons (pv 1) pa_nil)) pa_nil)) (pe_alt (pe_meth (pv 8) T.cl_NoSooner T.mi_NoSooner_asked_of (ok_Claim_asked_of_NoSooner T) (hr.mono (by decide)) T.b_Claim_asked_of .nil passL (pa_cons (pe_call (ok_l_made T) (hr.mono (by decide)) rfl T.g_l_made T.F_l_made.kp T.b_l_made .nil pass0 (pa_cons (pv 1) pa_nil)) pa_nil)) (pe_meth (pv 8) T.cl_Within T.mi_Within_asked_of (ok_Claim_asked_of_Within T) (hr.mono (by decide)) T.b_Claim_asked_of .nil passL (pa_cons (pe_call (ok_l_made T) (hr.mono (by decide)) rfl T.g_l_made T.F_l_made.kp T.b_l_made .nil pass0 (pa_cons (pv 1) pa_nil)) pa_nil)))))
      (pss_cons (ps_set (i := 13) sc_law.nd rfl (.inl rfl) (pe_call (ok_l_due T) (hr.mono (by decide)) rfl T.g_l_due T.F_l_due.kp T.b_l_due .nil pass0 (pa_cons (pv 1) (pa_cons (pv 2) pa_nil))))
      (pss_cons (ps_set (i := 14) sc_law.nd rfl (.inl rfl) (pe_alt (pe_meth (pv 8) T.cl_Never T.mi_Never_goal_on (ok_Claim_goal_on_Never T) (hr.mono (by decide)) T.b_Claim_goal_on .nil pass0 (pa_cons (pv 12) pa_nil)) (pe_alt (pe_meth (pv 8) T.cl_NoSooner T.m_NoSooner_goal_on (ok_NoSooner_goal_on T) (hr.mono (by decide)) T.b_NoSooner_goal_on .nil passL (pa_cons (pv 12) pa_nil)) (pe_meth (pv 8) T.cl_Within T.m_Within_goal_on (ok_Within_goal_on T) (hr.mono (by decide)) T.b_Within_goal_on .nil passL (pa_cons (pv 12) pa_nil)))))
      (pss_cons (ps_if (PW.pt (pw_or (pt_cmpR (op_neD hr.units) (pe_call (ok_l_told T) (hr.mono (by decide)) rfl T.g_l_told T.F_l_told.kp T.b_l_told .nil pass0 (pa_cons (pv 12) pa_nil)) (pe_ix (ix_tupA (K := K) rfl) (pv 13) pe_int (fun _ _ => rfl)) (nomark _)) (pw_or1 (pt_cmpR (op_neD hr.units) (pv 14) (pe_ix (ix_tupA (K := K) rfl) (pv 13) pe_int (fun _ _ => rfl)) (nomark _))))) (pss_one (ps_ret pe_bl)) pss_nil)
      (pss_cons (ps_for PassesOwn.never rfl (pi_listA (K := K) rfl (pv 14)) (pg_name (i := 15) sc_law.nd rfl (.inl rfl)) (pss_one (ps_expr (pe_bm PySem.F.plainAttrs_list PySem.F.slot_list_append PySem.F.type_list_append mt_append (pe_ix (ix_tupA (K := K) rfl) (pv 15) pe_int (fun _ _ => rfl)) (pa_cons (pe_tupN (pa_cons pe_str (pa_cons pe_str (pa_cons pe_int pa_nil)))) pa_nil)))))
      (pss_cons (ps_expr (pe_bm0 PySem.F.plainAttrs_list PySem.F.slot_list_clear PySem.F.type_list_clear mt_clear (pv 14)))
      (pss_one (ps_if (PW.pt (pw_and (pt_cmpR (op_eqD hr.units) (pe_ix (ix_tupA (K := K) rfl) (pv 2) pe_int (fun _ _ => rfl)) (pe_lstN pa_nil) (nomark _)) (pw_and1 (pt_cmpR (op_neD hr.units) (pe_meth0 (pe_alt (pe_meth (pv 8) T.cl_Never T.mi_Never_asked_of (ok_Claim_asked_of_Never T) (hr.mono (by decide)) T.b_Claim_asked_of .nil passL (pa_cons (pv 10) pa_nil)) (pe_alt (pe_meth (pv 8) T.cl_NoSooner T.mi_NoSooner_asked_of (ok_Claim_asked_of_NoSooner T) (hr.mono (by decide)) T.b_Claim_asked_of .nil passL (pa_cons (pv 10) pa_nil)) (pe_meth (pv 8) T.cl_Within T.mi_Within_asked_of (ok_Claim_asked_of_Within T) (hr.mono (by decide)) T.b_Claim_asked_of .nil passL (pa_cons (pv 10) pa_nil)))) T.cl_Machine T.m_Machine_rooms (ok_Machine_rooms T) (hr.mono (by decide)) T.b_Machine_rooms .nil pass0) (pe_lstN (pa_cons (pv 9) (pa_cons (pe_op op_add_str (pv 9) pe_str) pa_nil))) (nomark _))))) (pss_one (ps_ret pe_bl)) pss_nil)))))))))
      (pss_cons (ps_if (pt_cmpR op_ne (pe_call (ok_l_numbered T) (hr.mono (by decide)) rfl T.g_l_numbered T.F_l_numbered.kp T.b_l_numbered .nil pass0 (pa_cons (pv 1) (pa_cons (pv 2) (pa_cons (pe_call (ok_l_cell_at T) (hr.mono (by decide)) rfl T.g_l_cell_at T.F_l_cell_at.kp T.b_l_cell_at .nil pass0 (pa_cons (pv 0) (pa_cons pe_int pa_nil))) pa_nil)))) (pe_cmpR op_gt (pe_ix (ix_tupA (K := K) rfl) (pv 2) pe_int (fun _ _ => rfl)) pe_int (nomark _)) (nomark _)) (pss_one (ps_ret pe_bl)) pss_nil)
      (pss_cons (ps_set (i := 16) sc_law.nd rfl (.inl rfl) (pe_call (ok_l_spoilt T) (hr.mono (by decide)) rfl T.g_l_spoilt T.F_l_spoilt.kp T.b_l_spoilt .nil pass0 (pa_cons (pv 1) (pa_cons (pv 2) (pa_cons (pe_call (ok_l_cell_at T) (hr.mono (by decide)) rfl T.g_l_cell_at T.F_l_cell_at.kp T.b_l_cell_at .nil pass0 (pa_cons (pv 0) (pa_cons pe_int pa_nil))) pa_nil)))))
      (pss_cons (ps_if (pt_cmpR op_ne (pe_call (ok_l_refused T) (hr.mono (by decide)) rfl T.g_l_refused T.F_l_refused.kp T.b_l_refused .nil pass0 (pa_cons (pv 16) (pa_cons (pe_call (ok_l_made T) (hr.mono (by decide)) rfl T.g_l_made T.F_l_made.kp T.b_l_made .nil pass0 (pa_cons (pv 1) pa_nil)) pa_nil))) pe_str (nomark _)) (pss_one (ps_ret pe_bl)) pss_nil)
      (pss_cons (ps_set (i := 17) sc_law.nd rfl (.inl rfl) (pe_tupN (pa_cons (pe_op op_catN (pe_ix (ix_tupA (K := K) rfl) (pv 1) pe_int (fun _ _ => rfl)) (pe_lstN (pa_cons pe_str pa_nil))) (pa_cons (pe_ix (ix_tupA (K := K) rfl) (pv 1) pe_int (fun _ _ => rfl)) (pa_cons (pe_ix (ix_tupA (K := K) rfl) (pv 1) pe_int (fun _ _ => rfl)) pa_nil)))))
      (pss_one (ps_ret (pe_or (pe_cmpR op_eq (pe_ix (ix_tupA (K := K) rfl) (pv 2) pe_int (fun _ _ => rfl)) pe_int (nomark _)) (pe_one (pe_cmpR op_eq (pe_call (ok_l_refused T) (hr.mono (by decide)) rfl T.g_l_refused T.F_l_refused.kp T.b_l_refused .nil pass0 (pa_cons (pv 16) (pa_cons (pe_call (ok_l_made T) (hr.mono (by decide)) rfl T.g_l_made T.F_l_made.kp T.b_l_made .nil pass0 (pa_cons (pv 17) pa_nil)) pa_nil))) pe_str (nomark _)))))))))))))))))))), ?_⟩
    refine seq_step ?_
    walk_at "rd"
    refine ⟨a, cs, rfl, hS, h63, fun ps H1 S s1 hs ok => ?_⟩
    have mok := ok.mach
    have ha : areW (longW S.mach.watches) = true := areW_long mok.areW (fun h => by
      have := ok.w.2.1 _ h
      rw [show okName ("/" : Str) = false by decide +kernel] at this
      cases this) (show S.watches.length ≤ 6 by have := ok.w2; omega)
    refine seq_step ?_
    walk_at "rd"
    refine ⟨a, cs, 12, rfl, s1.seq hS, by decide, ?_⟩
    refine ⟨_, ps, S, rfl, hs, ok, fun pc H2 c s2 hc cok => ?_⟩
    have kk := cok.k
    have gl := cok.len
    obtain ⟨g, ec, hg⟩ := id hc
    obtain ⟨gqs, g1, g2, g3⟩ := id hg
    have s02 := s1.trans s2
    refine seq_step ?_
    walk_at "rd"
    refine gTup_of (sqt ec) rfl ?_
    walk_at "rd"
    refine seq_step ?_
    walk_at "rd"
    refine ⟨_, .inl (.of g1), fun l H3 s3 f3 e3 => ?_⟩
    walk_at "rd"
    refine seq_step ?_
    walk_at "rd"
    intro t H4 s4 f4 e4
    have hl : LsAt H4 l c.G := ⟨gqs, s4 _ _ e3, g2, fun i q x h1 h2 => (g3 i q x h1 h2).keep (s3.trans s4)⟩
    refine ⟨t, ps, l, S, c.k, c.ri, c.G, .int c.n, rfl, hs.keep (s2.trans (s3.trans s4)), e4, hl, kk, cok.ri, fun pq H5 s5 hq => ?_⟩
    have hisi : ∀ {Q : VK}, Q (.bl true) H5 → rIsi K [.ref pq, .ref T.C_Claim] H5 Q := fun {Q} h => by
      have h0 : KAt T.C_Never T.C_NoSooner T.C_Within H5 pq c.k (S.name c.ri) c.G (.int c.n) := (hq (fun _ => False) (fun b h => h.elim)).keep rem_sub
      rcases (show c.k = 0 ∨ c.k = 1 ∨ c.k = 2 by omega) with k0 | k0 | k0
      · obtain ⟨dx, g, e, _⟩ := h0.1 k0
        exact is_oth72 e T.cl_Never T.ty_Never T.kk_N_C h
      · obtain ⟨dx, g, e, _⟩ := h0.2.1 k0
        exact is_oth72 e T.cl_NoSooner T.ty_NoSooner T.kk_S_C h
      · obtain ⟨dx, e⟩ := h0.2.2 k0
        exact is_oth72 e T.cl_Within T.ty_Within T.kk_W_C h
    have hq := fun H' (s : Same H5 H') => (hq (fun z => z = l) (fun b h => by
      obtain rfl : b = l := h
      exact ⟨_, s4 _ _ e3⟩)).keep (rem_same (U := fun z => z = l) s)
    walk_at "rd"
    refine seq_step ?_
    walk_at "rd"
    refine hisi ?_
    walk_at "rd"
    refine seq_step ?_
    walk_at "rd"
    refine ⟨_, rfl, .inl ⟨rfl, _, .of ((s4.trans s5) _ _ e3)⟩, ?_⟩
    walk_at "rd"
    intro t6 H6 s6 f6 e6
    refine app_at ((s4.trans (s5.trans s6)) _ _ e3) (by rw [List.length_map, g2]; omega) ?_
    obtain ⟨H7, hH7⟩ : ∃ H7, upd H6 l (.lst (gqs.map V.ref ++ [.ref t6])) = H7 := ⟨_, rfl⟩
    rw [hH7]
    have s27 : Same H2 H7 := by rw [← hH7]; exact same_updN f3 (s3.trans (s4.trans (s5.trans s6)))
    have hk7 : KAt T.C_Never T.C_NoSooner T.C_Within H7 pq c.k (S.name c.ri) c.G (.int c.n) := (hq H6 s6).keep (hH7 ▸ del_upd72)
    have hs2 := hs.keep s2
    obtain ⟨pw, pr, pd, es, hw, hrs, hds⟩ := id hs2
    obtain ⟨rqs, r1, r2, r3⟩ := id hrs
    obtain ⟨qr, hqr⟩ : ∃ qr, rqs[c.ri]? = some qr := ⟨_, List.getElem?_eq_getElem (by rw [r2]; exact cok.ri)⟩
    obtain ⟨r, hr2, en⟩ := name_at cok.ri
    obtain ⟨gq, er, _⟩ := r3 c.ri qr r hqr hr2
    have hmem : r.1 ∈ S.rooms.map (·.1) := List.mem_map_of_mem (List.mem_of_getElem? hr2)
    have nok : okName (S.name c.ri) = true := by rw [en]; exact ok.r.2.1 r.1 hmem
    have n8 := okName_len nok
    walk_at "rd"
    refine seq_step ?_
    walk_at "rd"
    refine ix_t (sqt (s27 _ _ es)) (by decide) rfl ?_
    refine ix_t (sqt (s27 _ _ ec)) (by decide) rfl ?_
    refine ix_l (.of (s27 _ _ r1)) (by omega) (by rw [Int.toNat_natCast, List.getElem?_map, hqr]; rfl) ?_
    refine ix_t (sqt (s27 _ _ er)) (by decide) rfl ?_
    rw [← en]
    refine seq_step ?_
    refine makeN_of ?_
    walk_at "rd"
    intro p1 Ha sa fa ea p2 Hb sb fb eb p3 Hc sc fc ec2
    refine ⟨_, rfl, _, rfl, small1000' (by rw [show (Str.ofString "o").length = 1 by decide +kernel]; omega), ?_⟩
    walk_at "rd"
    intro p4 Hd sd fd ed p5 He se fe ee p6 Hf sf ff ef p7 Hg sg fg eg
    intro px dx Hx sx fx ex
    have sag : Same Ha Hg := sb.trans (sc.trans (sd.trans (se.trans (sf.trans sg))))
    have hrs6 : RsAt Hx p6 (othM (S.name c.ri)).rooms := ⟨[p3, p5], (sg.trans sx) _ _ ef, rfl, fun i q x h1 h2 => by
      match i, h1, h2 with
      | 0, h1, h2 =>
        cases h1; cases h2
        exact ⟨p2, (sd.trans (se.trans (sf.trans (sg.trans sx)))) _ _ ec2, [], (sc.trans (sd.trans (se.trans (sf.trans (sg.trans sx))))) _ _ eb, rfl, fun i q x h => by cases h⟩
      | 1, h1, h2 =>
        cases h1; cases h2
        exact ⟨p4, (sf.trans (sg.trans sx)) _ _ ee, [], (se.trans (sf.trans (sg.trans sx))) _ _ ed, rfl, fun i q x h => by cases h⟩⟩
    refine .inl ⟨px, dx, p1, p6, p7, othM (S.name c.ri), rfl, ex, (sag.trans sx) _ _ ea, hrs6, ⟨[], sx _ _ eg, rfl, fun i q x h => by cases h⟩, othM_ok nok, fun Hm off hoth _ => ⟨rfl, ?_⟩⟩
    have s7m : Same H7 Hm := fun b o e => off.2 b o ((sa.trans (sag.trans sx)) _ _ e) fun y => by
      have := (sa.trans sag) _ _ e
      rw [y, fx] at this; cases this
    have s2m := s27.trans s7m
    have hkm := hk7.keep s7m
    have mok2 := othM_ok nok
    refine seq_step ?_
    refine for_rg ?_
    walk_at "rd"
    refine ?_
    obtain ⟨Iv, hIv⟩ : ∃ Iv : Nat → L2.St → Hp → Prop, ∀ i σ' H', Iv i σ' H' ↔ ((∃ v11 v12 v13 v14 v15, σ' = [some (.ref a), some (.ref ps), some (.ref pc), some (.int c.k), some (.int c.ri), some (.ref g), some (.int c.n), some (.ref l), some (.ref pq), some (.str (S.name c.ri)), some (.ref px), v11, v12, v13, v14, v15, none, none]) ∧ Same Hm H') := ⟨_, fun _ _ _ => Iff.rfl⟩
    refine forR_by Iv ((hIv _ _ _).mpr ⟨⟨_, _, _, _, _, rfl⟩, Same.refl _⟩) ?_ ?_
    · rintro i σ' H8 hi hinv
      obtain ⟨⟨v11, v12, v13, v14, v15, rfl⟩, s8⟩ := (hIv _ _ _).mp hinv
      have s28 := s2m.trans s8
      have hk8 := hkm.keep s8
      have rm : S.name c.ri ∈ S.mach.rooms.map (·.1) := name_mem cok.ri
      have mk : markOk S.mach (S.name c.ri, c.G) = true := by unfold markOk; rw [Bool.and_eq_true]; exact ⟨decide_eq_true rm, cok.gk⟩
      have mokA : MachOk (askM c.k (S.name c.ri) S.mach) := by
        unfold askM
        by_cases k0 : c.k = 0
        · rw [if_pos k0]; exact mok
        · rw [if_neg k0]
          by_cases k1 : c.k = 1
          · rw [if_pos k1]; exact mok.long ha
          · rw [if_neg k1]; exact (mok.long ha).cut _
      obtain ⟨gall, g60, gl64⟩ := goal_ok72 cok mok
      walk_at "rd"
      refine seq_step ?_
      walk_at "rd"
      refine asked72 T (by rfl) hk8 kk mok (.inr ha) (fun _ => mk) rm (name_len ok cok.ri) (by omega) (fun Q' h => ?_) fun pa H9 s9 hma => ?_
      · walk_at "rd"
        exact ⟨ps, S, rfl, hs2.keep s28, ok.made, fun q2 H5 s5 hm => h q2 H5 s5 hm⟩
      walk_at "rd"
      refine seq_step ?_
      walk_at "rd"
      refine ⟨ps, pc, S, c, rfl, hs2.keep (s28.trans s9), ok, hc.keep (s28.trans s9), cok, fun qd pt pg Ha sa ea tm0 rs0 => ?_⟩
      walk_at "rd"
      refine seq_step ?_
      walk_at "rd"
      refine goal72 T (by rfl) (by rfl) (hk8.keep (s9.trans sa)) kk rfl (hma.keep sa) mokA (by omega) (.inl ⟨fun _ => below_ok (M := S.mach) cok.gk cok.n0, fun _ => above_ok (M := S.mach) cok.n0, fun pgo Hb sb hgl => ?_⟩)
      have hgl : GlN Ha Hb pgo (goalC S c) := hgl
      walk_at "rd"
      refine seq_step ?_
      walk_at "rd"
      refine ⟨pa, askC S c, rfl, hma.keep (sa.trans sb), mokA, fun qt Hc scc htm => ?_⟩
      have sac : Same Ha Hc := sb.trans scc
      refine ix_t (sqt (sac _ _ ea)) (by decide) rfl ?_
      have rq := mark_rq72 (M := askC S c) mokA gall
      refine ⟨_, _, dp_tm htm, dp_tm (tm0.keep sac), shaped_mdat mokA, shaped_mdat mokA, ?_⟩
      rw [SeqAt.eqv_refl _ (lay_mdat (M := askC S c) mokA).1]
      walk_at "rd"
      refine ix_t (sqt (sac _ _ ea)) (by decide) rfl ?_
      refine ⟨_, _, dp_rs (hgl.rs.keep scc), dp_rs (rs0.keep sac), shaped_rs rq, shaped_rs rq, ?_⟩
      rw [SeqAt.eqv_refl _ (lay_rdats rq).1]
      walk_at "rd"
      obtain ⟨ts, eq, tl, Z, hZ, zn, zq, zt⟩ := hgl.inv scc g60 gl64
      refine seq_step ?_
      refine for_li ?_
      walk_at "rd"
      obtain ⟨Jv, hJv⟩ : ∃ Jv : Nat → L2.St → Hp → Prop, ∀ m σ' H', Jv m σ' H' ↔ ((∃ v15, σ' = [some (.ref a), some (.ref ps), some (.ref pc), some (.int c.k), some (.int c.ri), some (.ref g), some (.int c.n), some (.ref l), some (.ref pq), some (.str (S.name c.ri)), some (.ref px), some (.int i), some (.ref pa), some (.ref qd), some (.ref pgo), v15, none, none]) ∧ InvA Z Hc (60 + m) H') := ⟨_, fun _ _ _ => Iff.rfl⟩
      refine forL_by (xs := ts.map V.ref) Jv ((hJv _ _ _).mpr ⟨⟨_, rfl⟩, hZ⟩) (fun j σ H' _ h => .of (((hJv _ _ _).mp h).2.1 _ _ (rem_at zq eq))) ?_ ?_
      · rintro j x σ' Hd hj hinv
        obtain ⟨⟨w15, rfl⟩, iv⟩ := (hJv _ _ _).mp hinv
        rw [List.getElem?_map] at hj
        obtain ⟨t, ht, rfl⟩ := Option.map_eq_some_iff.mp hj
        have jl := (List.getElem?_eq_some_iff.mp ht).1
        obtain ⟨nm, gg, et, zg, ztt⟩ := zt j t ht
        walk_at "rd"
        have jl64 : j < 64 := by rw [tl] at jl; omega
        obtain ⟨xs, ex, lx⟩ := iv.2 gg zg
        refine ⟨_, rfl, ?_⟩
        walk_at "rd"
        refine ix_t (sqt (iv.1 _ _ (rem_at ztt et))) (by decide) rfl ?_
        refine ⟨.inl ⟨rfl, _, .of ex⟩, ?_⟩
        walk_at "rd"
        intro t' He se fe ee
        exact (iv.keep se).app zg (by omega) fun Hf iv2 => (hJv _ _ _).mpr ⟨⟨_, rfl⟩, iv2⟩
      · rintro σ' Hd hinv
        obtain ⟨⟨w15, rfl⟩, iv⟩ := (hJv _ _ _).mp hinv
        have sad : Same Ha Hd := fun b o e => iv.1 _ _ (rem_at (fun z => by rw [zn b z] at e; cases e) (sac _ _ e))
        have eqd := iv.1 _ _ (rem_at zq eq)
        walk_at "rd"
        refine seq_step ?_
        walk_at "rd"
        refine ⟨_, rfl, .inl ⟨rfl, _, .of eqd⟩, ?_⟩
        refine ⟨pgo, _, rfl, rfl, eqd, ?_⟩
        obtain ⟨He, hHe⟩ : ∃ He, upd Hd pgo (.lst []) = He := ⟨_, rfl⟩
        rw [hHe]
        have sae : Same Ha He := hHe ▸ same_updN hgl.1 sad
        have s2e := s28.trans (s9.trans (sa.trans sae))
        walk_at "rd"
        refine ix_t (sqt (s2e _ _ ec)) (by decide) rfl ?_
        intro p8 Hf sf2 ff2 ef2
        have sh : ∀ {G : List Lq}, (∀ l ∈ G, LqOk l) → SeqAt.shaped (PyData.list (G.map ldat)) = true := fun h => Bool.and_eq_true_iff.mpr ⟨(lay_ldats h).1, decide_eq_true (by have := (lay_ldats h).2; omega)⟩
        have glq : ∀ l ∈ c.G, LqOk l := fun l hl => look_ok (by decide +kernel) mok.watch (List.all_eq_true.mp cok.gk l hl)
        have s2f := s2e.trans sf2
        have hnil : LsAt Hf p8 ([] : List Lq) := ⟨[], ef2, rfl, fun i q x h => by cases h⟩
        refine ⟨_, _, dp_ls (hg.keep s2f), dp_ls hnil, sh glq, sh (G := []) (fun l hl => by cases hl), ?_⟩
        have smf : Same Hm Hf := s8.trans (s9.trans (sa.trans (sae.trans sf2)))
        have hend : ∀ (H' : Hp), Same Hf H' → Iv (i + 1) [some (.ref a), some (.ref ps), some (.ref pc), some (.int c.k), some (.int c.ri), some (.ref g), some (.int c.n), some (.ref l), some (.ref pq), some (.str (S.name c.ri)), some (.ref px), some (.int i), some (.ref pa), some (.ref qd), some (.ref pgo), w15, none, none] H' := fun H' s' => (hIv _ _ _).mpr ⟨⟨_, _, _, _, _, rfl⟩, smf.trans s'⟩
        by_cases cg : c.G = []
        · rw [show PyData.eqv (PyData.list (c.G.map ldat)) (PyData.list (([] : List Lq).map ldat)) = true by rw [cg]; rfl]
          walk_at "rd"
          have ha2 : areW (longW (othM (S.name c.ri)).watches) = true := by
            show areW (longW []) = true
            decide +kernel
          have rm2 : S.name c.ri ∈ (othM (S.name c.ri)).rooms.map (·.1) := List.mem_cons_self
          have mk2 : markOk (othM (S.name c.ri)) (S.name c.ri, c.G) = true := by unfold markOk; rw [Bool.and_eq_true]; exact ⟨decide_eq_true rm2, by rw [cg]; rfl⟩
          refine asked72 T (by rfl) (hkm.keep smf) kk mok2 (.inr ha2) (fun _ => mk2) rm2 (name_len ok cok.ri) (by omega) (fun Q' h => ?_) fun pa2 Hg sg2 hma2 => ?_
          · walk_at "rd"
            exact h px _ (Same.refl _) (hoth.keep smf)
          have ern : (askM c.k (S.name c.ri) (othM (S.name c.ri))).rooms.map (·.1) = [S.name c.ri, S.name c.ri ++ ("o" : Str)] := by
            unfold askM
            split
            · rfl
            · split
              · rfl
              · rfl
          obtain ⟨dx2, wn, rn, sl, dl, a2, _⟩ := id hma2
          refine ⟨pa2, dx2, _, rfl, a2, mach_no (by decide +kernel) (by decide +kernel) (by decide +kernel) (by decide +kernel), ?_⟩
          walk_at "rd"
          refine ⟨pa2, _, rfl, hma2, fun q9 Hh sh2 fh eh => ?_⟩
          rw [ern] at eh
          refine ⟨_, rfl, _, rfl, small1000' (by rw [show (Str.ofString "o").length = 1 by decide +kernel]; omega), fun p10 Hi si fi ei => ?_⟩
          have tx : ∀ x ∈ [S.name c.ri, S.name c.ri ++ ("o" : Str)], TxOk x := fun x hx => by
            rcases List.mem_cons.mp hx with e | hx
            · rw [e]; exact okName_tx nok
            · rw [List.mem_singleton.mp hx]; exact okT_tx letters_lt2 (okT_o nok)
          have ss := lay_strs tx
          have sh3 : SeqAt.shaped (PyData.list ([S.name c.ri, S.name c.ri ++ ("o" : Str)].map PyData.str)) = true := Bool.and_eq_true_iff.mpr ⟨ss.1, decide_eq_true (by have := ss.2; omega)⟩
          refine ⟨_, _, names_dp (si _ _ eh), names_dp (xs := [S.name c.ri, S.name c.ri ++ ("o" : Str)]) ei, sh3, sh3, ?_⟩
          rw [SeqAt.eqv_refl _ ss.1]
          walk_at "rd"
          exact hend Hi (sg2.trans (sh2.trans si))
        · rw [show PyData.eqv (PyData.list (c.G.map ldat)) (PyData.list (([] : List Lq).map ldat)) = false by
            obtain ⟨x, xs, e⟩ := List.exists_cons_of_ne_nil cg
            rw [e]; rfl]
          walk_at "rd"
          exact hend Hf (Same.refl _)
    · rintro σ' H8 hinv
      obtain ⟨⟨v11, v12, v13, v14, v15, rfl⟩, s8⟩ := (hIv _ _ _).mp hinv
      have s28 := s2m.trans s8
      have s18 := s2.trans s28
      walk_at "rd"
      refine seq_step ?_
      walk_at "rd"
      refine ⟨a, cs, 14, rfl, (s1.trans s18).seq hS, by decide, ?_⟩
      refine ⟨ps, pc, _, S, c, rfl, hs.keep s18, ok, hc.keep s28, cok, fun H9 s9 => ?_⟩
      refine ix_t (sqt ((s28.trans s9) _ _ ec)) (by decide) rfl ?_
      refine ⟨_, rfl, rfl, ?_⟩
      refine if_f (by
        have : decide (0 < c.k) = decide (0 < (c.k : Int)) := by
          rw [Bool.eq_iff_iff, decide_eq_true_iff, decide_eq_true_iff]; omega
        rw [this]; simp) ?_
      refine seq_step ?_
      walk_at "rd"
      have s19 := s18.trans s9
      have s29 := s28.trans s9
      refine ⟨a, cs, 13, rfl, (s1.trans s19).seq hS, by decide, ?_⟩
      refine ⟨ps, pc, _, S, c, rfl, hs.keep s19, ok, hc.keep s29, cok, fun qw Ha r' G' v' sa hkw bad gl3 rl kv => ?_⟩
      have s1a := s19.trans sa
      walk_at "rd"
      refine seq_step ?_
      walk_at "rd"
      refine ⟨ps, S, rfl, hs.keep s1a, ok.made, fun pm Hb sb hm => ?_⟩
      refine ⟨qw, pm, S.mach, c.k, r', G', v', rfl, hkw.keep sb, kk, hm, mok, by omega, by omega, kv, .inr ⟨.inr ha, bad, fun Hc sc => ?_⟩⟩
      refine ⟨rfl, if_f (by simp) ?_⟩
      have s2c := s29.trans (sa.trans (sb.trans sc))
      obtain ⟨pw, pr, pd, es, hw, hrs, hds⟩ := id (hs2.keep s2c)
      refine seq_step ?_
      walk_at "rd"
      refine ix_t (sqt es) (by decide) rfl ?_
      walk_at "rd"
      intro l1 Hd sd fd ed
      refine ⟨_, sd _ _ hw, _, ed, small1000' (by rw [List.length_map]; have := ok.w2; simp; omega), fun l2 He se fe ee => ?_⟩
      walk_at "rd"
      refine ix_t (sqt ((sd.trans se) _ _ es)) (by decide) rfl ?_
      refine ix_t (sqt ((sd.trans se) _ _ es)) (by decide) rfl ?_
      intro pf Hf sf ff ef
      have s2f := s2c.trans (sd.trans (se.trans sf))
      walk_at "rd"
      refine ix_t (sqt (s2f _ _ ec)) (by decide) rfl ?_
      refine ⟨rfl, ?_⟩
      by_cases k0 : c.k = 0
      · refine if_t (decide_eq_true (by rw [k0]; rfl)) ?_
        exact q _
      · refine if_f (decide_eq_false (fun z => k0 (by injection z with z; omega))) ?_
        have full := more_made72 ok (fun h => by
          have := ok.w.2.1 _ h
          rw [show okName ("/" : Str) = false by decide +kernel] at this
          cases this)
        have sdf := sd.trans (se.trans sf)
        have hsf : SpecAt Hf pf ⟨S.watches ++ [("/" : Str)], S.rooms, S.doors⟩ := ⟨l2, pr, pd, ef, by rw [sf _ _ ee]; show _ = some (HO.lst ((S.watches ++ [("/" : Str)]).map V.str)); rw [List.map_append]; rfl, hrs.keep sdf, SeqOf.keep (fun q x => LDoorAt.keep sdf) sdf hds⟩
        refine ⟨pf, _, rfl, hsf, full, fun pm2 Hg sg hm2 => ?_⟩
        refine ⟨qw, pm2, _, c.k, r', G', v', rfl, hkw.keep (sb.trans (sc.trans (sdf.trans sg))), kk, hm2, full.mach, by omega, by omega, kv, .inl ⟨by omega, areW_long_no (.inl (List.mem_append_right _ (List.mem_singleton.mpr rfl))), fun Hh sh => ⟨rfl, ?_⟩⟩⟩
        rw [decide_eq_true rfl]
        exact q _
end
/-! ### what the top has left -/
theorem all_mk {P : Program} {w : World} {K : PySem.W.Frag} {h : Heap} {mg : Str → Option Value} {fa : Addr} (X : K.In h) (G : h.Ns mainGlobals mg) (hfa : mg "law" = some (.ref fa))
    {CDoor : Addr}
    {CMachine : Addr}
    {CNever : Addr}
    {CNoSooner : Addr}
    {CWithin : Addr}
    {tBELOW : Addr} {oBELOW : Obj} {nBELOW : Nat} {tkBELOW0 tkBELOW1 : Tok}
    {tWORDS : Addr} {oWORDS : Obj} {nWORDS : Nat} {tkWORDS0 tkWORDS1 tkWORDS2 tkWORDS3 tkWORDS4 : Tok}
    {f0 : Addr} {od0 an0 : Option Addr} {sl0 : Array (Option Value)} {oc0 kV0 dc0 pm0 cd0 ct0 : Value}
    {f1 : Addr} {od1 an1 : Option Addr} {sl1 : Array (Option Value)} {oc1 kV1 dc1 pm1 cd1 ct1 : Value}
    {f2 : Addr} {od2 an2 : Option Addr} {sl2 : Array (Option Value)} {oc2 kV2 dc2 pm2 cd2 ct2 : Value}
    {f3 : Addr} {od3 an3 : Option Addr} {sl3 : Array (Option Value)} {oc3 kV3 dc3 pm3 cd3 ct3 : Value}
    {f4 : Addr} {od4 an4 : Option Addr} {sl4 : Array (Option Value)} {oc4 kV4 dc4 pm4 cd4 ct4 : Value}
    {f5 : Addr} {od5 an5 : Option Addr} {sl5 : Array (Option Value)} {oc5 kV5 dc5 pm5 cd5 ct5 : Value}
    {f6 : Addr} {od6 an6 : Option Addr} {sl6 : Array (Option Value)} {oc6 kV6 dc6 pm6 cd6 ct6 : Value}
    {f7 : Addr} {od7 an7 : Option Addr} {sl7 : Array (Option Value)} {oc7 kV7 dc7 pm7 cd7 ct7 : Value}
    {f8 : Addr} {od8 an8 : Option Addr} {sl8 : Array (Option Value)} {oc8 kV8 dc8 pm8 cd8 ct8 : Value}
    {f9 : Addr} {od9 an9 : Option Addr} {sl9 : Array (Option Value)} {oc9 kV9 dc9 pm9 cd9 ct9 : Value}
    {t9 : Addr} {o9 : Obj} {n9 : Nat}
    {tk9 : Tok}
    {f10 : Addr} {od10 an10 : Option Addr} {sl10 : Array (Option Value)} {oc10 kV10 dc10 pm10 cd10 ct10 : Value}
    {f11 : Addr} {od11 an11 : Option Addr} {sl11 : Array (Option Value)} {oc11 kV11 dc11 pm11 cd11 ct11 : Value}
    {f12 : Addr} {od12 an12 : Option Addr} {sl12 : Array (Option Value)} {oc12 kV12 dc12 pm12 cd12 ct12 : Value}
    {f13 : Addr} {od13 an13 : Option Addr} {sl13 : Array (Option Value)} {oc13 kV13 dc13 pm13 cd13 ct13 : Value}
    {f14 : Addr} {od14 an14 : Option Addr} {sl14 : Array (Option Value)} {oc14 kV14 dc14 pm14 cd14 ct14 : Value}
    {f15 : Addr} {od15 an15 : Option Addr} {sl15 : Array (Option Value)} {oc15 kV15 dc15 pm15 cd15 ct15 : Value}
    {f16 : Addr} {od16 an16 : Option Addr} {sl16 : Array (Option Value)} {oc16 kV16 dc16 pm16 cd16 ct16 : Value}
    {f17 : Addr} {od17 an17 : Option Addr} {sl17 : Array (Option Value)} {oc17 kV17 dc17 pm17 cd17 ct17 : Value}
    {f18 : Addr} {od18 an18 : Option Addr} {sl18 : Array (Option Value)} {oc18 kV18 dc18 pm18 cd18 ct18 : Value}
    {f19 : Addr} {od19 an19 : Option Addr} {sl19 : Array (Option Value)} {oc19 kV19 dc19 pm19 cd19 ct19 : Value}
    {f20 : Addr} {od20 an20 : Option Addr} {sl20 : Array (Option Value)} {oc20 kV20 dc20 pm20 cd20 ct20 : Value}
    {f21 : Addr} {od21 an21 : Option Addr} {sl21 : Array (Option Value)} {oc21 kV21 dc21 pm21 cd21 ct21 : Value}
    {f22 : Addr} {od22 an22 : Option Addr} {sl22 : Array (Option Value)} {oc22 kV22 dc22 pm22 cd22 ct22 : Value}
    {f23 : Addr} {od23 an23 : Option Addr} {sl23 : Array (Option Value)} {oc23 kV23 dc23 pm23 cd23 ct23 : Value}
    {f24 : Addr} {od24 an24 : Option Addr} {sl24 : Array (Option Value)} {oc24 kV24 dc24 pm24 cd24 ct24 : Value}
    {f25 : Addr} {od25 an25 : Option Addr} {sl25 : Array (Option Value)} {oc25 kV25 dc25 pm25 cd25 ct25 : Value}
    {f26 : Addr} {od26 an26 : Option Addr} {sl26 : Array (Option Value)} {oc26 kV26 dc26 pm26 cd26 ct26 : Value}
    {f27 : Addr} {od27 an27 : Option Addr} {sl27 : Array (Option Value)} {oc27 kV27 dc27 pm27 cd27 ct27 : Value}
    {f28 : Addr} {od28 an28 : Option Addr} {sl28 : Array (Option Value)} {oc28 kV28 dc28 pm28 cd28 ct28 : Value}
    {f29 : Addr} {od29 an29 : Option Addr} {sl29 : Array (Option Value)} {oc29 kV29 dc29 pm29 cd29 ct29 : Value}
    {f30 : Addr} {od30 an30 : Option Addr} {sl30 : Array (Option Value)} {oc30 kV30 dc30 pm30 cd30 ct30 : Value}
    {f31 : Addr} {od31 an31 : Option Addr} {sl31 : Array (Option Value)} {oc31 kV31 dc31 pm31 cd31 ct31 : Value}
    {f32 : Addr} {od32 an32 : Option Addr} {sl32 : Array (Option Value)} {oc32 kV32 dc32 pm32 cd32 ct32 : Value}
    {f33 : Addr} {od33 an33 : Option Addr} {sl33 : Array (Option Value)} {oc33 kV33 dc33 pm33 cd33 ct33 : Value}
    {f34 : Addr} {od34 an34 : Option Addr} {sl34 : Array (Option Value)} {oc34 kV34 dc34 pm34 cd34 ct34 : Value}
    {f35 : Addr} {od35 an35 : Option Addr} {sl35 : Array (Option Value)} {oc35 kV35 dc35 pm35 cd35 ct35 : Value}
    {f36 : Addr} {od36 an36 : Option Addr} {sl36 : Array (Option Value)} {oc36 kV36 dc36 pm36 cd36 ct36 : Value}
    {f37 : Addr} {od37 an37 : Option Addr} {sl37 : Array (Option Value)} {oc37 kV37 dc37 pm37 cd37 ct37 : Value}
    {f38 : Addr} {od38 an38 : Option Addr} {sl38 : Array (Option Value)} {oc38 kV38 dc38 pm38 cd38 ct38 : Value}
    {f39 : Addr} {od39 an39 : Option Addr} {sl39 : Array (Option Value)} {oc39 kV39 dc39 pm39 cd39 ct39 : Value}
    {f40 : Addr} {od40 an40 : Option Addr} {sl40 : Array (Option Value)} {oc40 kV40 dc40 pm40 cd40 ct40 : Value}
    {f41 : Addr} {od41 an41 : Option Addr} {sl41 : Array (Option Value)} {oc41 kV41 dc41 pm41 cd41 ct41 : Value}
    {f42 : Addr} {od42 an42 : Option Addr} {sl42 : Array (Option Value)} {oc42 kV42 dc42 pm42 cd42 ct42 : Value}
    {f43 : Addr} {od43 an43 : Option Addr} {sl43 : Array (Option Value)} {oc43 kV43 dc43 pm43 cd43 ct43 : Value}
    {f44 : Addr} {od44 an44 : Option Addr} {sl44 : Array (Option Value)} {oc44 kV44 dc44 pm44 cd44 ct44 : Value}
    {f45 : Addr} {od45 an45 : Option Addr} {sl45 : Array (Option Value)} {oc45 kV45 dc45 pm45 cd45 ct45 : Value}
    {f46 : Addr} {od46 an46 : Option Addr} {sl46 : Array (Option Value)} {oc46 kV46 dc46 pm46 cd46 ct46 : Value}
    {f47 : Addr} {od47 an47 : Option Addr} {sl47 : Array (Option Value)} {oc47 kV47 dc47 pm47 cd47 ct47 : Value}
    {f48 : Addr} {od48 an48 : Option Addr} {sl48 : Array (Option Value)} {oc48 kV48 dc48 pm48 cd48 ct48 : Value}
    {f49 : Addr} {od49 an49 : Option Addr} {sl49 : Array (Option Value)} {oc49 kV49 dc49 pm49 cd49 ct49 : Value}
    {f50 : Addr} {od50 an50 : Option Addr} {sl50 : Array (Option Value)} {oc50 kV50 dc50 pm50 cd50 ct50 : Value}
    {f51 : Addr} {od51 an51 : Option Addr} {sl51 : Array (Option Value)} {oc51 kV51 dc51 pm51 cd51 ct51 : Value}
    {f52 : Addr} {od52 an52 : Option Addr} {sl52 : Array (Option Value)} {oc52 kV52 dc52 pm52 cd52 ct52 : Value}
    {f53 : Addr} {od53 an53 : Option Addr} {sl53 : Array (Option Value)} {oc53 kV53 dc53 pm53 cd53 ct53 : Value}
    {f54 : Addr} {od54 an54 : Option Addr} {sl54 : Array (Option Value)} {oc54 kV54 dc54 pm54 cd54 ct54 : Value}
    {f55 : Addr} {od55 an55 : Option Addr} {sl55 : Array (Option Value)} {oc55 kV55 dc55 pm55 cd55 ct55 : Value}
    {f56 : Addr} {od56 an56 : Option Addr} {sl56 : Array (Option Value)} {oc56 kV56 dc56 pm56 cd56 ct56 : Value}
    {f57 : Addr} {od57 an57 : Option Addr} {sl57 : Array (Option Value)} {oc57 kV57 dc57 pm57 cd57 ct57 : Value}
    {f58 : Addr} {od58 an58 : Option Addr} {sl58 : Array (Option Value)} {oc58 kV58 dc58 pm58 cd58 ct58 : Value}
    {f59 : Addr} {od59 an59 : Option Addr} {sl59 : Array (Option Value)} {oc59 kV59 dc59 pm59 cd59 ct59 : Value}
    {CBadMachine : Addr}
    {CTooMany : Addr}
    {CNoMark : Addr}
    {CClaim : Addr}
    {uLETTERS : Tok}
    {uLONG : Tok}
    {uMOST_DOORS : Tok}
    {uMOST_ROOMS : Tok}
    {uMOST_WATCHES : Tok}
    (gDoor : PySem.W.nsIn K mainGlobals "Door" = some (some (.ref CDoor)))
    (pgDoor : PySem.W.plainGet K CDoor Str.empty = true)
    (hdDoor : PySem.W.hasDictIn K CDoor = true)
    (poDoor : PySem.W.plainOver K CDoor = true)
    (saDoor : PySem.W.findIn K (.ref CDoor) "__setattr__" = some (some (.builtin "object.__setattr__")))
    (mkDoor : PySem.W.makesIn K CDoor = true)
    (kcDoor : PySem.W.keepIn K (.ref CDoor) = true)
    (hcDoor : PySem.W.findIn K (.ref CDoor) "__class__" = some (some (.builtin "object.__class__")))
    (hnDoor : PySem.W.specialIn K (.builtin "object.__class__") "__get__" = some (some (.builtin "getset_descriptor.__get__")))
    (htDoor : PySem.W.takesIn K (.builtin "object.__class__") = some true)
    (hmDoor : PySem.W.mroIn K CDoor (.type "object") = some true)
    (nDoor_backs : PySem.W.findIn K (.ref CDoor) "backs" = some none)
    (nDoor_end : PySem.W.findIn K (.ref CDoor) "end" = some none)
    (nDoor_looks : PySem.W.findIn K (.ref CDoor) "looks" = some none)
    (nDoor_sign : PySem.W.findIn K (.ref CDoor) "sign" = some none)
    (nDoor_start : PySem.W.findIn K (.ref CDoor) "start" = some none)
    (gMachine : PySem.W.nsIn K mainGlobals "Machine" = some (some (.ref CMachine)))
    (pgMachine : PySem.W.plainGet K CMachine Str.empty = true)
    (hdMachine : PySem.W.hasDictIn K CMachine = true)
    (poMachine : PySem.W.plainOver K CMachine = true)
    (saMachine : PySem.W.findIn K (.ref CMachine) "__setattr__" = some (some (.builtin "object.__setattr__")))
    (mkMachine : PySem.W.makesIn K CMachine = true)
    (kcMachine : PySem.W.keepIn K (.ref CMachine) = true)
    (hcMachine : PySem.W.findIn K (.ref CMachine) "__class__" = some (some (.builtin "object.__class__")))
    (hnMachine : PySem.W.specialIn K (.builtin "object.__class__") "__get__" = some (some (.builtin "getset_descriptor.__get__")))
    (htMachine : PySem.W.takesIn K (.builtin "object.__class__") = some true)
    (hmMachine : PySem.W.mroIn K CMachine (.type "object") = some true)
    (nMachine_door_list : PySem.W.findIn K (.ref CMachine) "door_list" = some none)
    (nMachine_room_names : PySem.W.findIn K (.ref CMachine) "room_names" = some none)
    (nMachine_stay_looks : PySem.W.findIn K (.ref CMachine) "stay_looks" = some none)
    (nMachine_watch_names : PySem.W.findIn K (.ref CMachine) "watch_names" = some none)
    (gNever : PySem.W.nsIn K mainGlobals "Never" = some (some (.ref CNever)))
    (pgNever : PySem.W.plainGet K CNever Str.empty = true)
    (hdNever : PySem.W.hasDictIn K CNever = true)
    (poNever : PySem.W.plainOver K CNever = true)
    (saNever : PySem.W.findIn K (.ref CNever) "__setattr__" = some (some (.builtin "object.__setattr__")))
    (mkNever : PySem.W.makesIn K CNever = true)
    (kcNever : PySem.W.keepIn K (.ref CNever) = true)
    (hcNever : PySem.W.findIn K (.ref CNever) "__class__" = some (some (.builtin "object.__class__")))
    (hnNever : PySem.W.specialIn K (.builtin "object.__class__") "__get__" = some (some (.builtin "getset_descriptor.__get__")))
    (htNever : PySem.W.takesIn K (.builtin "object.__class__") = some true)
    (hmNever : PySem.W.mroIn K CNever (.type "object") = some true)
    (nNever_guard : PySem.W.findIn K (.ref CNever) "guard" = some none)
    (nNever_room : PySem.W.findIn K (.ref CNever) "room" = some none)
    (gNoSooner : PySem.W.nsIn K mainGlobals "NoSooner" = some (some (.ref CNoSooner)))
    (pgNoSooner : PySem.W.plainGet K CNoSooner Str.empty = true)
    (hdNoSooner : PySem.W.hasDictIn K CNoSooner = true)
    (poNoSooner : PySem.W.plainOver K CNoSooner = true)
    (saNoSooner : PySem.W.findIn K (.ref CNoSooner) "__setattr__" = some (some (.builtin "object.__setattr__")))
    (mkNoSooner : PySem.W.makesIn K CNoSooner = true)
    (kcNoSooner : PySem.W.keepIn K (.ref CNoSooner) = true)
    (hcNoSooner : PySem.W.findIn K (.ref CNoSooner) "__class__" = some (some (.builtin "object.__class__")))
    (hnNoSooner : PySem.W.specialIn K (.builtin "object.__class__") "__get__" = some (some (.builtin "getset_descriptor.__get__")))
    (htNoSooner : PySem.W.takesIn K (.builtin "object.__class__") = some true)
    (hmNoSooner : PySem.W.mroIn K CNoSooner (.type "object") = some true)
    (nNoSooner_guard : PySem.W.findIn K (.ref CNoSooner) "guard" = some none)
    (nNoSooner_number : PySem.W.findIn K (.ref CNoSooner) "number" = some none)
    (nNoSooner_room : PySem.W.findIn K (.ref CNoSooner) "room" = some none)
    (gWithin : PySem.W.nsIn K mainGlobals "Within" = some (some (.ref CWithin)))
    (pgWithin : PySem.W.plainGet K CWithin Str.empty = true)
    (hdWithin : PySem.W.hasDictIn K CWithin = true)
    (poWithin : PySem.W.plainOver K CWithin = true)
    (saWithin : PySem.W.findIn K (.ref CWithin) "__setattr__" = some (some (.builtin "object.__setattr__")))
    (mkWithin : PySem.W.makesIn K CWithin = true)
    (kcWithin : PySem.W.keepIn K (.ref CWithin) = true)
    (hcWithin : PySem.W.findIn K (.ref CWithin) "__class__" = some (some (.builtin "object.__class__")))
    (hnWithin : PySem.W.specialIn K (.builtin "object.__class__") "__get__" = some (some (.builtin "getset_descriptor.__get__")))
    (htWithin : PySem.W.takesIn K (.builtin "object.__class__") = some true)
    (hmWithin : PySem.W.mroIn K CWithin (.type "object") = some true)
    (nWithin_number : PySem.W.findIn K (.ref CWithin) "number" = some none)
    (nWithin_room : PySem.W.findIn K (.ref CWithin) "room" = some none)
    (gBELOW : PySem.W.nsIn K mainGlobals "BELOW" = some (some (.ref tBELOW)))
    (lBELOW : K.lookup tBELOW = some oBELOW)
    (cBELOW : oBELOW.cls = .type "tuple")
    (dBELOW : oBELOW.data = .seq ([Value.str "<" tkBELOW0, Value.str "<=" tkBELOW1] : List Value).toArray nBELOW)
    (gWORDS : PySem.W.nsIn K mainGlobals "WORDS" = some (some (.ref tWORDS)))
    (lWORDS : K.lookup tWORDS = some oWORDS)
    (cWORDS : oWORDS.cls = .type "tuple")
    (dWORDS : oWORDS.data = .seq ([Value.str "<" tkWORDS0, Value.str "<=" tkWORDS1, Value.str ">" tkWORDS2, Value.str ">=" tkWORDS3, Value.str "=" tkWORDS4] : List Value).toArray nWORDS)
    (a0 : PySem.W.nsIn K mainGlobals "is_whole" = some (some (.ref f0)))
    (l0 : K.lookup f0 = some ⟨oc0, od0, .func (PySem.W.fnOf "is_whole" "is_whole" (defArgs s_is_whole) (defBody s_is_whole) (defScope s_is_whole) .none kV0 dc0 pm0 an0 cd0 ct0), sl0⟩)
    (c0 : PySem.W.codeIn K cd0 "is_whole" = true)
    (k0 : PySem.W.keepIn K (.ref f0) = true)
    (a1 : PySem.W.nsIn K mainGlobals "of_signs" = some (some (.ref f1)))
    (l1 : K.lookup f1 = some ⟨oc1, od1, .func (PySem.W.fnOf "of_signs" "of_signs" (defArgs s_of_signs) (defBody s_of_signs) (defScope s_of_signs) .none kV1 dc1 pm1 an1 cd1 ct1), sl1⟩)
    (c1 : PySem.W.codeIn K cd1 "of_signs" = true)
    (k1 : PySem.W.keepIn K (.ref f1) = true)
    (a2 : PySem.W.nsIn K mainGlobals "is_name" = some (some (.ref f2)))
    (l2 : K.lookup f2 = some ⟨oc2, od2, .func (PySem.W.fnOf "is_name" "is_name" (defArgs s_is_name) (defBody s_is_name) (defScope s_is_name) .none kV2 dc2 pm2 an2 cd2 ct2), sl2⟩)
    (c2 : PySem.W.codeIn K cd2 "is_name" = true)
    (k2 : PySem.W.keepIn K (.ref f2) = true)
    (a3 : PySem.W.nsIn K mainGlobals "is_watch_name" = some (some (.ref f3)))
    (l3 : K.lookup f3 = some ⟨oc3, od3, .func (PySem.W.fnOf "is_watch_name" "is_watch_name" (defArgs s_is_watch_name) (defBody s_is_watch_name) (defScope s_is_watch_name) .none kV3 dc3 pm3 an3 cd3 ct3), sl3⟩)
    (c3 : PySem.W.codeIn K cd3 "is_watch_name" = true)
    (k3 : PySem.W.keepIn K (.ref f3) = true)
    (a4 : PySem.W.nsIn K mainGlobals "is_sign" = some (some (.ref f4)))
    (l4 : K.lookup f4 = some ⟨oc4, od4, .func (PySem.W.fnOf "is_sign" "is_sign" (defArgs s_is_sign) (defBody s_is_sign) (defScope s_is_sign) .none kV4 dc4 pm4 an4 cd4 ct4), sl4⟩)
    (c4 : PySem.W.codeIn K cd4 "is_sign" = true)
    (k4 : PySem.W.keepIn K (.ref f4) = true)
    (a5 : PySem.W.nsIn K mainGlobals "is_look" = some (some (.ref f5)))
    (l5 : K.lookup f5 = some ⟨oc5, od5, .func (PySem.W.fnOf "is_look" "is_look" (defArgs s_is_look) (defBody s_is_look) (defScope s_is_look) .none kV5 dc5 pm5 an5 cd5 ct5), sl5⟩)
    (c5 : PySem.W.codeIn K cd5 "is_look" = true)
    (k5 : PySem.W.keepIn K (.ref f5) = true)
    (a6 : PySem.W.nsIn K mainGlobals "is_guard" = some (some (.ref f6)))
    (l6 : K.lookup f6 = some ⟨oc6, od6, .func (PySem.W.fnOf "is_guard" "is_guard" (defArgs s_is_guard) (defBody s_is_guard) (defScope s_is_guard) .none kV6 dc6 pm6 an6 cd6 ct6), sl6⟩)
    (c6 : PySem.W.codeIn K cd6 "is_guard" = true)
    (k6 : PySem.W.keepIn K (.ref f6) = true)
    (a7 : PySem.W.nsIn K mainGlobals "unlike" = some (some (.ref f7)))
    (l7 : K.lookup f7 = some ⟨oc7, od7, .func (PySem.W.fnOf "unlike" "unlike" (defArgs s_unlike) (defBody s_unlike) (defScope s_unlike) .none kV7 dc7 pm7 an7 cd7 ct7), sl7⟩)
    (c7 : PySem.W.codeIn K cd7 "unlike" = true)
    (k7 : PySem.W.keepIn K (.ref f7) = true)
    (a8 : PySem.W.nsIn K mainGlobals "own" = some (some (.ref f8)))
    (l8 : K.lookup f8 = some ⟨oc8, od8, .func (PySem.W.fnOf "own" "own" (defArgs s_own) (defBody s_own) (defScope s_own) .none kV8 dc8 pm8 an8 cd8 ct8), sl8⟩)
    (c8 : PySem.W.codeIn K cd8 "own" = true)
    (k8 : PySem.W.keepIn K (.ref f8) = true)
    (a9 : PySem.W.findIn K (.ref CDoor) "__init__" = some (some (.ref f9)))
    (i9 : PySem.W.isFn K (.ref f9) = true)
    (l9 : K.lookup f9 = some ⟨oc9, od9, .func (PySem.W.fnOf "__init__" "Door.__init__" (defArgs s_Door_init) (defBody s_Door_init) (defScope s_Door_init) (.ref t9) kV9 dc9 pm9 an9 cd9 ct9), sl9⟩)
    (c9 : PySem.W.codeIn K cd9 "Door.__init__" = true)
    (k9 : PySem.W.keepIn K (.ref f9) = true)
    (lt9 : K.lookup t9 = some o9)
    (ld9 : o9.data = .seq ([Value.str "" tk9] : List Value).toArray n9)
    (a10 : PySem.W.findIn K (.ref CDoor) "asks" = some (some (.ref f10)))
    (i10 : PySem.W.isFn K (.ref f10) = true)
    (l10 : K.lookup f10 = some ⟨oc10, od10, .func (PySem.W.fnOf "asks" "Door.asks" (defArgs s_Door_asks) (defBody s_Door_asks) (defScope s_Door_asks) .none kV10 dc10 pm10 an10 cd10 ct10), sl10⟩)
    (c10 : PySem.W.codeIn K cd10 "Door.asks" = true)
    (k10 : PySem.W.keepIn K (.ref f10) = true)
    (a11 : PySem.W.findIn K (.ref CDoor) "sets" = some (some (.ref f11)))
    (i11 : PySem.W.isFn K (.ref f11) = true)
    (l11 : K.lookup f11 = some ⟨oc11, od11, .func (PySem.W.fnOf "sets" "Door.sets" (defArgs s_Door_sets) (defBody s_Door_sets) (defScope s_Door_sets) .none kV11 dc11 pm11 an11 cd11 ct11), sl11⟩)
    (c11 : PySem.W.codeIn K cd11 "Door.sets" = true)
    (k11 : PySem.W.keepIn K (.ref f11) = true)
    (a12 : PySem.W.nsIn K mainGlobals "are_watches" = some (some (.ref f12)))
    (l12 : K.lookup f12 = some ⟨oc12, od12, .func (PySem.W.fnOf "are_watches" "are_watches" (defArgs s_are_watches) (defBody s_are_watches) (defScope s_are_watches) .none kV12 dc12 pm12 an12 cd12 ct12), sl12⟩)
    (c12 : PySem.W.codeIn K cd12 "are_watches" = true)
    (k12 : PySem.W.keepIn K (.ref f12) = true)
    (a13 : PySem.W.nsIn K mainGlobals "is_room" = some (some (.ref f13)))
    (l13 : K.lookup f13 = some ⟨oc13, od13, .func (PySem.W.fnOf "is_room" "is_room" (defArgs s_is_room) (defBody s_is_room) (defScope s_is_room) .none kV13 dc13 pm13 an13 cd13 ct13), sl13⟩)
    (c13 : PySem.W.codeIn K cd13 "is_room" = true)
    (k13 : PySem.W.keepIn K (.ref f13) = true)
    (a14 : PySem.W.nsIn K mainGlobals "are_rooms" = some (some (.ref f14)))
    (l14 : K.lookup f14 = some ⟨oc14, od14, .func (PySem.W.fnOf "are_rooms" "are_rooms" (defArgs s_are_rooms) (defBody s_are_rooms) (defScope s_are_rooms) .none kV14 dc14 pm14 an14 cd14 ct14), sl14⟩)
    (c14 : PySem.W.codeIn K cd14 "are_rooms" = true)
    (k14 : PySem.W.keepIn K (.ref f14) = true)
    (a15 : PySem.W.nsIn K mainGlobals "is_door" = some (some (.ref f15)))
    (l15 : K.lookup f15 = some ⟨oc15, od15, .func (PySem.W.fnOf "is_door" "is_door" (defArgs s_is_door) (defBody s_is_door) (defScope s_is_door) .none kV15 dc15 pm15 an15 cd15 ct15), sl15⟩)
    (c15 : PySem.W.codeIn K cd15 "is_door" = true)
    (k15 : PySem.W.keepIn K (.ref f15) = true)
    (a16 : PySem.W.findIn K (.ref CMachine) "__init__" = some (some (.ref f16)))
    (i16 : PySem.W.isFn K (.ref f16) = true)
    (l16 : K.lookup f16 = some ⟨oc16, od16, .func (PySem.W.fnOf "__init__" "Machine.__init__" (defArgs s_Machine_init) (defBody s_Machine_init) (defScope s_Machine_init) .none kV16 dc16 pm16 an16 cd16 ct16), sl16⟩)
    (c16 : PySem.W.codeIn K cd16 "Machine.__init__" = true)
    (k16 : PySem.W.keepIn K (.ref f16) = true)
    (a17 : PySem.W.findIn K (.ref CMachine) "watches" = some (some (.ref f17)))
    (i17 : PySem.W.isFn K (.ref f17) = true)
    (l17 : K.lookup f17 = some ⟨oc17, od17, .func (PySem.W.fnOf "watches" "Machine.watches" (defArgs s_Machine_watches) (defBody s_Machine_watches) (defScope s_Machine_watches) .none kV17 dc17 pm17 an17 cd17 ct17), sl17⟩)
    (c17 : PySem.W.codeIn K cd17 "Machine.watches" = true)
    (k17 : PySem.W.keepIn K (.ref f17) = true)
    (a18 : PySem.W.findIn K (.ref CMachine) "rooms" = some (some (.ref f18)))
    (i18 : PySem.W.isFn K (.ref f18) = true)
    (l18 : K.lookup f18 = some ⟨oc18, od18, .func (PySem.W.fnOf "rooms" "Machine.rooms" (defArgs s_Machine_rooms) (defBody s_Machine_rooms) (defScope s_Machine_rooms) .none kV18 dc18 pm18 an18 cd18 ct18), sl18⟩)
    (c18 : PySem.W.codeIn K cd18 "Machine.rooms" = true)
    (k18 : PySem.W.keepIn K (.ref f18) = true)
    (a19 : PySem.W.findIn K (.ref CMachine) "doors" = some (some (.ref f19)))
    (i19 : PySem.W.isFn K (.ref f19) = true)
    (l19 : K.lookup f19 = some ⟨oc19, od19, .func (PySem.W.fnOf "doors" "Machine.doors" (defArgs s_Machine_doors) (defBody s_Machine_doors) (defScope s_Machine_doors) .none kV19 dc19 pm19 an19 cd19 ct19), sl19⟩)
    (c19 : PySem.W.codeIn K cd19 "Machine.doors" = true)
    (k19 : PySem.W.keepIn K (.ref f19) = true)
    (a20 : PySem.W.findIn K (.ref CMachine) "stay" = some (some (.ref f20)))
    (i20 : PySem.W.isFn K (.ref f20) = true)
    (l20 : K.lookup f20 = some ⟨oc20, od20, .func (PySem.W.fnOf "stay" "Machine.stay" (defArgs s_Machine_stay) (defBody s_Machine_stay) (defScope s_Machine_stay) .none kV20 dc20 pm20 an20 cd20 ct20), sl20⟩)
    (c20 : PySem.W.codeIn K cd20 "Machine.stay" = true)
    (k20 : PySem.W.keepIn K (.ref f20) = true)
    (a21 : PySem.W.findIn K (.ref CMachine) "watch_number" = some (some (.ref f21)))
    (i21 : PySem.W.isFn K (.ref f21) = true)
    (l21 : K.lookup f21 = some ⟨oc21, od21, .func (PySem.W.fnOf "watch_number" "Machine.watch_number" (defArgs s_Machine_watch_number) (defBody s_Machine_watch_number) (defScope s_Machine_watch_number) .none kV21 dc21 pm21 an21 cd21 ct21), sl21⟩)
    (c21 : PySem.W.codeIn K cd21 "Machine.watch_number" = true)
    (k21 : PySem.W.keepIn K (.ref f21) = true)
    (a22 : PySem.W.nsIn K mainGlobals "placed" = some (some (.ref f22)))
    (l22 : K.lookup f22 = some ⟨oc22, od22, .func (PySem.W.fnOf "placed" "placed" (defArgs s_placed) (defBody s_placed) (defScope s_placed) .none kV22 dc22 pm22 an22 cd22 ct22), sl22⟩)
    (c22 : PySem.W.codeIn K cd22 "placed" = true)
    (k22 : PySem.W.keepIn K (.ref f22) = true)
    (a23 : PySem.W.nsIn K mainGlobals "checked_goal" = some (some (.ref f23)))
    (l23 : K.lookup f23 = some ⟨oc23, od23, .func (PySem.W.fnOf "checked_goal" "checked_goal" (defArgs s_checked_goal) (defBody s_checked_goal) (defScope s_checked_goal) .none kV23 dc23 pm23 an23 cd23 ct23), sl23⟩)
    (c23 : PySem.W.codeIn K cd23 "checked_goal" = true)
    (k23 : PySem.W.keepIn K (.ref f23) = true)
    (a24 : PySem.W.nsIn K mainGlobals "with_long" = some (some (.ref f24)))
    (l24 : K.lookup f24 = some ⟨oc24, od24, .func (PySem.W.fnOf "with_long" "with_long" (defArgs s_with_long) (defBody s_with_long) (defScope s_with_long) .none kV24 dc24 pm24 an24 cd24 ct24), sl24⟩)
    (c24 : PySem.W.codeIn K cd24 "with_long" = true)
    (k24 : PySem.W.keepIn K (.ref f24) = true)
    (a25 : PySem.W.nsIn K mainGlobals "cut_off" = some (some (.ref f25)))
    (l25 : K.lookup f25 = some ⟨oc25, od25, .func (PySem.W.fnOf "cut_off" "cut_off" (defArgs s_cut_off) (defBody s_cut_off) (defScope s_cut_off) .none kV25 dc25 pm25 an25 cd25 ct25), sl25⟩)
    (c25 : PySem.W.codeIn K cd25 "cut_off" = true)
    (k25 : PySem.W.keepIn K (.ref f25) = true)
    (a26 : PySem.W.nsIn K mainGlobals "through_search" = some (some (.ref f26)))
    (l26 : K.lookup f26 = some ⟨oc26, od26, .func (PySem.W.fnOf "through" "through" (defArgs s_through_search) (defBody s_through_search) (defScope s_through_search) .none kV26 dc26 pm26 an26 cd26 ct26), sl26⟩)
    (c26 : PySem.W.codeIn K cd26 "through" = true)
    (k26 : PySem.W.keepIn K (.ref f26) = true)
    (a27 : PySem.W.nsIn K mainGlobals "lets_by" = some (some (.ref f27)))
    (l27 : K.lookup f27 = some ⟨oc27, od27, .func (PySem.W.fnOf "lets_by" "lets_by" (defArgs s_lets_by) (defBody s_lets_by) (defScope s_lets_by) .none kV27 dc27 pm27 an27 cd27 ct27), sl27⟩)
    (c27 : PySem.W.codeIn K cd27 "lets_by" = true)
    (k27 : PySem.W.keepIn K (.ref f27) = true)
    (aiNever_made_of : PySem.W.findIn K (.ref CNever) "made_of" = some (some (.ref f28)))
    (i28 : PySem.W.isFn K (.ref f28) = true)
    (l28 : K.lookup f28 = some ⟨oc28, od28, .func (PySem.W.fnOf "made_of" "Claim.made_of" (defArgs s_Claim_made_of) (defBody s_Claim_made_of) (defScope s_Claim_made_of) .none kV28 dc28 pm28 an28 cd28 ct28), sl28⟩)
    (c28 : PySem.W.codeIn K cd28 "Claim.made_of" = true)
    (k28 : PySem.W.keepIn K (.ref f28) = true)
    (aiNever_asked_of : PySem.W.findIn K (.ref CNever) "asked_of" = some (some (.ref f29)))
    (aiNoSooner_asked_of : PySem.W.findIn K (.ref CNoSooner) "asked_of" = some (some (.ref f29)))
    (aiWithin_asked_of : PySem.W.findIn K (.ref CWithin) "asked_of" = some (some (.ref f29)))
    (i29 : PySem.W.isFn K (.ref f29) = true)
    (l29 : K.lookup f29 = some ⟨oc29, od29, .func (PySem.W.fnOf "asked_of" "Claim.asked_of" (defArgs s_Claim_asked_of) (defBody s_Claim_asked_of) (defScope s_Claim_asked_of) .none kV29 dc29 pm29 an29 cd29 ct29), sl29⟩)
    (c29 : PySem.W.codeIn K cd29 "Claim.asked_of" = true)
    (k29 : PySem.W.keepIn K (.ref f29) = true)
    (aiNever_goal_on : PySem.W.findIn K (.ref CNever) "goal_on" = some (some (.ref f30)))
    (i30 : PySem.W.isFn K (.ref f30) = true)
    (l30 : K.lookup f30 = some ⟨oc30, od30, .func (PySem.W.fnOf "goal_on" "Claim.goal_on" (defArgs s_Claim_goal_on) (defBody s_Claim_goal_on) (defScope s_Claim_goal_on) .none kV30 dc30 pm30 an30 cd30 ct30), sl30⟩)
    (c30 : PySem.W.codeIn K cd30 "Claim.goal_on" = true)
    (k30 : PySem.W.keepIn K (.ref f30) = true)
    (a31 : PySem.W.findIn K (.ref CNever) "__init__" = some (some (.ref f31)))
    (i31 : PySem.W.isFn K (.ref f31) = true)
    (l31 : K.lookup f31 = some ⟨oc31, od31, .func (PySem.W.fnOf "__init__" "Never.__init__" (defArgs s_Never_init) (defBody s_Never_init) (defScope s_Never_init) .none kV31 dc31 pm31 an31 cd31 ct31), sl31⟩)
    (c31 : PySem.W.codeIn K cd31 "Never.__init__" = true)
    (k31 : PySem.W.keepIn K (.ref f31) = true)
    (a32 : PySem.W.findIn K (.ref CNever) "named" = some (some (.ref f32)))
    (i32 : PySem.W.isFn K (.ref f32) = true)
    (l32 : K.lookup f32 = some ⟨oc32, od32, .func (PySem.W.fnOf "named" "Never.named" (defArgs s_Never_named) (defBody s_Never_named) (defScope s_Never_named) .none kV32 dc32 pm32 an32 cd32 ct32), sl32⟩)
    (c32 : PySem.W.codeIn K cd32 "Never.named" = true)
    (k32 : PySem.W.keepIn K (.ref f32) = true)
    (a33 : PySem.W.findIn K (.ref CNoSooner) "__init__" = some (some (.ref f33)))
    (i33 : PySem.W.isFn K (.ref f33) = true)
    (l33 : K.lookup f33 = some ⟨oc33, od33, .func (PySem.W.fnOf "__init__" "NoSooner.__init__" (defArgs s_NoSooner_init) (defBody s_NoSooner_init) (defScope s_NoSooner_init) .none kV33 dc33 pm33 an33 cd33 ct33), sl33⟩)
    (c33 : PySem.W.codeIn K cd33 "NoSooner.__init__" = true)
    (k33 : PySem.W.keepIn K (.ref f33) = true)
    (a34 : PySem.W.findIn K (.ref CNoSooner) "made_of" = some (some (.ref f34)))
    (i34 : PySem.W.isFn K (.ref f34) = true)
    (l34 : K.lookup f34 = some ⟨oc34, od34, .func (PySem.W.fnOf "made_of" "NoSooner.made_of" (defArgs s_NoSooner_made_of) (defBody s_NoSooner_made_of) (defScope s_NoSooner_made_of) .none kV34 dc34 pm34 an34 cd34 ct34), sl34⟩)
    (c34 : PySem.W.codeIn K cd34 "NoSooner.made_of" = true)
    (k34 : PySem.W.keepIn K (.ref f34) = true)
    (a35 : PySem.W.findIn K (.ref CNoSooner) "named" = some (some (.ref f35)))
    (i35 : PySem.W.isFn K (.ref f35) = true)
    (l35 : K.lookup f35 = some ⟨oc35, od35, .func (PySem.W.fnOf "named" "NoSooner.named" (defArgs s_NoSooner_named) (defBody s_NoSooner_named) (defScope s_NoSooner_named) .none kV35 dc35 pm35 an35 cd35 ct35), sl35⟩)
    (c35 : PySem.W.codeIn K cd35 "NoSooner.named" = true)
    (k35 : PySem.W.keepIn K (.ref f35) = true)
    (a36 : PySem.W.findIn K (.ref CNoSooner) "goal_on" = some (some (.ref f36)))
    (i36 : PySem.W.isFn K (.ref f36) = true)
    (l36 : K.lookup f36 = some ⟨oc36, od36, .func (PySem.W.fnOf "goal_on" "NoSooner.goal_on" (defArgs s_NoSooner_goal_on) (defBody s_NoSooner_goal_on) (defScope s_NoSooner_goal_on) .none kV36 dc36 pm36 an36 cd36 ct36), sl36⟩)
    (c36 : PySem.W.codeIn K cd36 "NoSooner.goal_on" = true)
    (k36 : PySem.W.keepIn K (.ref f36) = true)
    (a37 : PySem.W.findIn K (.ref CWithin) "__init__" = some (some (.ref f37)))
    (i37 : PySem.W.isFn K (.ref f37) = true)
    (l37 : K.lookup f37 = some ⟨oc37, od37, .func (PySem.W.fnOf "__init__" "Within.__init__" (defArgs s_Within_init) (defBody s_Within_init) (defScope s_Within_init) .none kV37 dc37 pm37 an37 cd37 ct37), sl37⟩)
    (c37 : PySem.W.codeIn K cd37 "Within.__init__" = true)
    (k37 : PySem.W.keepIn K (.ref f37) = true)
    (a38 : PySem.W.findIn K (.ref CWithin) "made_of" = some (some (.ref f38)))
    (i38 : PySem.W.isFn K (.ref f38) = true)
    (l38 : K.lookup f38 = some ⟨oc38, od38, .func (PySem.W.fnOf "made_of" "Within.made_of" (defArgs s_Within_made_of) (defBody s_Within_made_of) (defScope s_Within_made_of) .none kV38 dc38 pm38 an38 cd38 ct38), sl38⟩)
    (c38 : PySem.W.codeIn K cd38 "Within.made_of" = true)
    (k38 : PySem.W.keepIn K (.ref f38) = true)
    (a39 : PySem.W.findIn K (.ref CWithin) "named" = some (some (.ref f39)))
    (i39 : PySem.W.isFn K (.ref f39) = true)
    (l39 : K.lookup f39 = some ⟨oc39, od39, .func (PySem.W.fnOf "named" "Within.named" (defArgs s_Within_named) (defBody s_Within_named) (defScope s_Within_named) .none kV39 dc39 pm39 an39 cd39 ct39), sl39⟩)
    (c39 : PySem.W.codeIn K cd39 "Within.named" = true)
    (k39 : PySem.W.keepIn K (.ref f39) = true)
    (a40 : PySem.W.findIn K (.ref CWithin) "goal_on" = some (some (.ref f40)))
    (i40 : PySem.W.isFn K (.ref f40) = true)
    (l40 : K.lookup f40 = some ⟨oc40, od40, .func (PySem.W.fnOf "goal_on" "Within.goal_on" (defArgs s_Within_goal_on) (defBody s_Within_goal_on) (defScope s_Within_goal_on) .none kV40 dc40 pm40 an40 cd40 ct40), sl40⟩)
    (c40 : PySem.W.codeIn K cd40 "Within.goal_on" = true)
    (k40 : PySem.W.keepIn K (.ref f40) = true)
    (a41 : PySem.W.nsIn K mainGlobals "lets_claim" = some (some (.ref f41)))
    (l41 : K.lookup f41 = some ⟨oc41, od41, .func (PySem.W.fnOf "lets_claim" "lets_claim" (defArgs s_lets_claim) (defBody s_lets_claim) (defScope s_lets_claim) .none kV41 dc41 pm41 an41 cd41 ct41), sl41⟩)
    (c41 : PySem.W.codeIn K cd41 "lets_claim" = true)
    (k41 : PySem.W.keepIn K (.ref f41) = true)
    (a42 : PySem.W.nsIn K mainGlobals "_law_cell_at" = some (some (.ref f42)))
    (l42 : K.lookup f42 = some ⟨oc42, od42, .func (PySem.W.fnOf "_law_cell_at" "_law_cell_at" (defArgs s_l_cell_at) (defBody s_l_cell_at) (defScope s_l_cell_at) .none kV42 dc42 pm42 an42 cd42 ct42), sl42⟩)
    (c42 : PySem.W.codeIn K cd42 "_law_cell_at" = true)
    (k42 : PySem.W.keepIn K (.ref f42) = true)
    (a43 : PySem.W.nsIn K mainGlobals "_law_stream" = some (some (.ref f43)))
    (l43 : K.lookup f43 = some ⟨oc43, od43, .func (PySem.W.fnOf "_law_stream" "_law_stream" (defArgs s_l_stream) (defBody s_l_stream) (defScope s_l_stream) .none kV43 dc43 pm43 an43 cd43 ct43), sl43⟩)
    (c43 : PySem.W.codeIn K cd43 "_law_stream" = true)
    (k43 : PySem.W.keepIn K (.ref f43) = true)
    (a44 : PySem.W.nsIn K mainGlobals "_law_names" = some (some (.ref f44)))
    (l44 : K.lookup f44 = some ⟨oc44, od44, .func (PySem.W.fnOf "_law_names" "_law_names" (defArgs s_l_names) (defBody s_l_names) (defScope s_l_names) .none kV44 dc44 pm44 an44 cd44 ct44), sl44⟩)
    (c44 : PySem.W.codeIn K cd44 "_law_names" = true)
    (k44 : PySem.W.keepIn K (.ref f44) = true)
    (a45 : PySem.W.nsIn K mainGlobals "_law_number" = some (some (.ref f45)))
    (l45 : K.lookup f45 = some ⟨oc45, od45, .func (PySem.W.fnOf "_law_number" "_law_number" (defArgs s_l_number) (defBody s_l_number) (defScope s_l_number) .none kV45 dc45 pm45 an45 cd45 ct45), sl45⟩)
    (c45 : PySem.W.codeIn K cd45 "_law_number" = true)
    (k45 : PySem.W.keepIn K (.ref f45) = true)
    (a46 : PySem.W.nsIn K mainGlobals "_law_guard" = some (some (.ref f46)))
    (l46 : K.lookup f46 = some ⟨oc46, od46, .func (PySem.W.fnOf "_law_guard" "_law_guard" (defArgs s_l_guard) (defBody s_l_guard) (defScope s_l_guard) .none kV46 dc46 pm46 an46 cd46 ct46), sl46⟩)
    (c46 : PySem.W.codeIn K cd46 "_law_guard" = true)
    (k46 : PySem.W.keepIn K (.ref f46) = true)
    (a47 : PySem.W.nsIn K mainGlobals "_law_stay" = some (some (.ref f47)))
    (l47 : K.lookup f47 = some ⟨oc47, od47, .func (PySem.W.fnOf "_law_stay" "_law_stay" (defArgs s_l_stay) (defBody s_l_stay) (defScope s_l_stay) .none kV47 dc47 pm47 an47 cd47 ct47), sl47⟩)
    (c47 : PySem.W.codeIn K cd47 "_law_stay" = true)
    (k47 : PySem.W.keepIn K (.ref f47) = true)
    (a48 : PySem.W.nsIn K mainGlobals "_law_door" = some (some (.ref f48)))
    (l48 : K.lookup f48 = some ⟨oc48, od48, .func (PySem.W.fnOf "_law_door" "_law_door" (defArgs s_l_door) (defBody s_l_door) (defScope s_l_door) .none kV48 dc48 pm48 an48 cd48 ct48), sl48⟩)
    (c48 : PySem.W.codeIn K cd48 "_law_door" = true)
    (k48 : PySem.W.keepIn K (.ref f48) = true)
    (a49 : PySem.W.nsIn K mainGlobals "_law_machine" = some (some (.ref f49)))
    (l49 : K.lookup f49 = some ⟨oc49, od49, .func (PySem.W.fnOf "_law_machine" "_law_machine" (defArgs s_l_machine) (defBody s_l_machine) (defScope s_l_machine) .none kV49 dc49 pm49 an49 cd49 ct49), sl49⟩)
    (c49 : PySem.W.codeIn K cd49 "_law_machine" = true)
    (k49 : PySem.W.keepIn K (.ref f49) = true)
    (a50 : PySem.W.nsIn K mainGlobals "_law_made" = some (some (.ref f50)))
    (l50 : K.lookup f50 = some ⟨oc50, od50, .func (PySem.W.fnOf "_law_made" "_law_made" (defArgs s_l_made) (defBody s_l_made) (defScope s_l_made) .none kV50 dc50 pm50 an50 cd50 ct50), sl50⟩)
    (c50 : PySem.W.codeIn K cd50 "_law_made" = true)
    (k50 : PySem.W.keepIn K (.ref f50) = true)
    (a51 : PySem.W.nsIn K mainGlobals "_law_scale" = some (some (.ref f51)))
    (l51 : K.lookup f51 = some ⟨oc51, od51, .func (PySem.W.fnOf "_law_scale" "_law_scale" (defArgs s_l_scale) (defBody s_l_scale) (defScope s_l_scale) .none kV51 dc51 pm51 an51 cd51 ct51), sl51⟩)
    (c51 : PySem.W.codeIn K cd51 "_law_scale" = true)
    (k51 : PySem.W.keepIn K (.ref f51) = true)
    (a52 : PySem.W.nsIn K mainGlobals "_law_claim" = some (some (.ref f52)))
    (l52 : K.lookup f52 = some ⟨oc52, od52, .func (PySem.W.fnOf "_law_claim" "_law_claim" (defArgs s_l_claim) (defBody s_l_claim) (defScope s_l_claim) .none kV52 dc52 pm52 an52 cd52 ct52), sl52⟩)
    (c52 : PySem.W.codeIn K cd52 "_law_claim" = true)
    (k52 : PySem.W.keepIn K (.ref f52) = true)
    (a53 : PySem.W.nsIn K mainGlobals "_law_claimed" = some (some (.ref f53)))
    (l53 : K.lookup f53 = some ⟨oc53, od53, .func (PySem.W.fnOf "_law_claimed" "_law_claimed" (defArgs s_l_claimed) (defBody s_l_claimed) (defScope s_l_claimed) .none kV53 dc53 pm53 an53 cd53 ct53), sl53⟩)
    (c53 : PySem.W.codeIn K cd53 "_law_claimed" = true)
    (k53 : PySem.W.keepIn K (.ref f53) = true)
    (a54 : PySem.W.nsIn K mainGlobals "_law_told" = some (some (.ref f54)))
    (l54 : K.lookup f54 = some ⟨oc54, od54, .func (PySem.W.fnOf "_law_told" "_law_told" (defArgs s_l_told) (defBody s_l_told) (defScope s_l_told) .none kV54 dc54 pm54 an54 cd54 ct54), sl54⟩)
    (c54 : PySem.W.codeIn K cd54 "_law_told" = true)
    (k54 : PySem.W.keepIn K (.ref f54) = true)
    (a55 : PySem.W.nsIn K mainGlobals "_law_due" = some (some (.ref f55)))
    (l55 : K.lookup f55 = some ⟨oc55, od55, .func (PySem.W.fnOf "_law_due" "_law_due" (defArgs s_l_due) (defBody s_l_due) (defScope s_l_due) .none kV55 dc55 pm55 an55 cd55 ct55), sl55⟩)
    (c55 : PySem.W.codeIn K cd55 "_law_due" = true)
    (k55 : PySem.W.keepIn K (.ref f55) = true)
    (a56 : PySem.W.nsIn K mainGlobals "_law_spoilt" = some (some (.ref f56)))
    (l56 : K.lookup f56 = some ⟨oc56, od56, .func (PySem.W.fnOf "_law_spoilt" "_law_spoilt" (defArgs s_l_spoilt) (defBody s_l_spoilt) (defScope s_l_spoilt) .none kV56 dc56 pm56 an56 cd56 ct56), sl56⟩)
    (c56 : PySem.W.codeIn K cd56 "_law_spoilt" = true)
    (k56 : PySem.W.keepIn K (.ref f56) = true)
    (a57 : PySem.W.nsIn K mainGlobals "_law_numbered" = some (some (.ref f57)))
    (l57 : K.lookup f57 = some ⟨oc57, od57, .func (PySem.W.fnOf "_law_numbered" "_law_numbered" (defArgs s_l_numbered) (defBody s_l_numbered) (defScope s_l_numbered) .none kV57 dc57 pm57 an57 cd57 ct57), sl57⟩)
    (c57 : PySem.W.codeIn K cd57 "_law_numbered" = true)
    (k57 : PySem.W.keepIn K (.ref f57) = true)
    (a58 : PySem.W.nsIn K mainGlobals "_law_refused" = some (some (.ref f58)))
    (l58 : K.lookup f58 = some ⟨oc58, od58, .func (PySem.W.fnOf "_law_refused" "_law_refused" (defArgs s_l_refused) (defBody s_l_refused) (defScope s_l_refused) .none kV58 dc58 pm58 an58 cd58 ct58), sl58⟩)
    (c58 : PySem.W.codeIn K cd58 "_law_refused" = true)
    (k58 : PySem.W.keepIn K (.ref f58) = true)
    (a59 : PySem.W.nsIn K mainGlobals "law" = some (some (.ref f59)))
    (l59 : K.lookup f59 = some ⟨oc59, od59, .func (PySem.W.fnOf "law" "law" (defArgs s_law) (defBody s_law) (defScope s_law) .none kV59 dc59 pm59 an59 cd59 ct59), sl59⟩)
    (c59 : PySem.W.codeIn K cd59 "law" = true)
    (k59 : PySem.W.keepIn K (.ref f59) = true)
    (gBadMachine : PySem.W.nsIn K mainGlobals "BadMachine" = some (some (.ref CBadMachine)))
    (xBadMachine : PySem.W.excIn K CBadMachine [.type "ValueError", .type "Exception", .type "BaseException", .type "object"] "ValueError.__new__" = true)
    (kBadMachine : PySem.W.keepIn K (.ref CBadMachine) = true)
    (bBadMachine : PySem.W.subIn K (.ref CBadMachine) (.type "BaseException") = some true)
    (tBadMachine : PySem.W.typeIn K (.ref CBadMachine) = some (.type "type"))
    (iBadMachine : PySem.W.isClsIn K CBadMachine = true)
    (gTooMany : PySem.W.nsIn K mainGlobals "TooMany" = some (some (.ref CTooMany)))
    (xTooMany : PySem.W.excIn K CTooMany [.type "ValueError", .type "Exception", .type "BaseException", .type "object"] "ValueError.__new__" = true)
    (kTooMany : PySem.W.keepIn K (.ref CTooMany) = true)
    (bTooMany : PySem.W.subIn K (.ref CTooMany) (.type "BaseException") = some true)
    (tTooMany : PySem.W.typeIn K (.ref CTooMany) = some (.type "type"))
    (iTooMany : PySem.W.isClsIn K CTooMany = true)
    (gNoMark : PySem.W.nsIn K mainGlobals "NoMark" = some (some (.ref CNoMark)))
    (xNoMark : PySem.W.excIn K CNoMark [.type "ValueError", .type "Exception", .type "BaseException", .type "object"] "ValueError.__new__" = true)
    (kNoMark : PySem.W.keepIn K (.ref CNoMark) = true)
    (bNoMark : PySem.W.subIn K (.ref CNoMark) (.type "BaseException") = some true)
    (tNoMark : PySem.W.typeIn K (.ref CNoMark) = some (.type "type"))
    (iNoMark : PySem.W.isClsIn K CNoMark = true)
    (gClaim : PySem.W.nsIn K mainGlobals "Claim" = some (some (.ref CClaim)))
    (kClaim : PySem.W.keepIn K (.ref CClaim) = true)
    (iClaim : PySem.W.isClsIn K CClaim = true)
    (gLETTERS : PySem.W.nsIn K mainGlobals "LETTERS" = some (some (.str "abcdefghijklmnopqrstuvwxyz" uLETTERS)))
    (gLONG : PySem.W.nsIn K mainGlobals "LONG" = some (some (.str "/" uLONG)))
    (gMOST_DOORS : PySem.W.nsIn K mainGlobals "MOST_DOORS" = some (some (.int 200 uMOST_DOORS)))
    (gMOST_ROOMS : PySem.W.nsIn K mainGlobals "MOST_ROOMS" = some (some (.int 64 uMOST_ROOMS)))
    (gMOST_WATCHES : PySem.W.nsIn K mainGlobals "MOST_WATCHES" = some (some (.int 7 uMOST_WATCHES)))
    (zall : PySem.W.nsIn K mainGlobals "all" = some none)
    (zbool : PySem.W.nsIn K mainGlobals "bool" = some none)
    (zint : PySem.W.nsIn K mainGlobals "int" = some none)
    (zisinstance : PySem.W.nsIn K mainGlobals "isinstance" = some none)
    (zlen : PySem.W.nsIn K mainGlobals "len" = some none)
    (zlist : PySem.W.nsIn K mainGlobals "list" = some none)
    (zmax : PySem.W.nsIn K mainGlobals "max" = some none)
    (zrange : PySem.W.nsIn K mainGlobals "range" = some none)
    (zset : PySem.W.nsIn K mainGlobals "set" = some none)
    (zstr : PySem.W.nsIn K mainGlobals "str" = some none)
    (ztuple : PySem.W.nsIn K mainGlobals "tuple" = some none)
    (hkk_N_C : PySem.W.kitOne K (.ref CNever) (.ref CClaim) = some true)
    (hkk_S_C : PySem.W.kitOne K (.ref CNoSooner) (.ref CClaim) = some true)
    (hkk_W_C : PySem.W.kitOne K (.ref CWithin) (.ref CClaim) = some true)
    (he4_BadMachine : PySem.W.hasDictIn K CBadMachine = true)
    (he4_NoMark : PySem.W.hasDictIn K CNoMark = true)
    (hs_BadMachine_BadMachine : PySem.W.subIn K (.ref CBadMachine) (.ref CBadMachine) = some true)
    (hs_NoMark_BadMachine : PySem.W.subIn K (.ref CNoMark) (.ref CBadMachine) = some false)
    (hs_NoMark_NoMark : PySem.W.subIn K (.ref CNoMark) (.ref CNoMark) = some true) :
    ∃ fd : FuncData, (∀ (s : Shared) (v : Value), BindsTo s fd ⟨[v], []⟩ [("_law_script", v)]) ∧ ∀ base : Heap, K.In base → base.Ns mainGlobals mg → FnOk P w K mg base CX0 14 fa fd ["_law_script"] (spLaw K) := by
  have e := hfa.symm.trans (PySem.W.mg_of X G a59)
  cases e
  have F9 := funD_mk (st := s_Door_init) (dvs := [.str ""]) l9 c9 k9 lt9 ld9 (.cons ⟨_, rfl⟩ .nil) (by simp)
  obtain ⟨dz9, vz9, bz9⟩ := F9.binds1 (ps := ["self", "start", "end", "guard", "noughts", "sign"]) 6 1 (by simp) rfl fun _ _ _ _ _ _ _ us its h1 h2 => match us, h1, its, h2 with | [_, _, _, _, _, _], _, [_], _ => ⟨_, rfl, rfl⟩
  cases vz9
  obtain ⟨dd9, vd9, bd9⟩ := F9.binds1 (ps := ["self", "start", "end", "guard", "noughts", "sign"]) 5 0 (by simp) rfl fun _ _ _ _ _ _ _ us its h1 h2 => match us, h1, its, h2 with | [_, _, _, _, _], _, [_], _ => ⟨_, rfl, rfl⟩
  let T : Top K mg := {
      C_Door := CDoor,
      g_Door := PySem.W.mg_of X G gDoor,
      cl_Door := ⟨pgDoor, hdDoor, poDoor, saDoor⟩,
      ty_Door := ⟨hcDoor, hnDoor, htDoor, hmDoor⟩,
      n_Door_backs := nDoor_backs,
      n_Door_end := nDoor_end,
      n_Door_looks := nDoor_looks,
      n_Door_sign := nDoor_sign,
      n_Door_start := nDoor_start,
      C_Machine := CMachine,
      g_Machine := PySem.W.mg_of X G gMachine,
      cl_Machine := ⟨pgMachine, hdMachine, poMachine, saMachine⟩,
      ty_Machine := ⟨hcMachine, hnMachine, htMachine, hmMachine⟩,
      n_Machine_door_list := nMachine_door_list,
      n_Machine_room_names := nMachine_room_names,
      n_Machine_stay_looks := nMachine_stay_looks,
      n_Machine_watch_names := nMachine_watch_names,
      C_Never := CNever,
      g_Never := PySem.W.mg_of X G gNever,
      cl_Never := ⟨pgNever, hdNever, poNever, saNever⟩,
      ty_Never := ⟨hcNever, hnNever, htNever, hmNever⟩,
      n_Never_guard := nNever_guard,
      n_Never_room := nNever_room,
      C_NoSooner := CNoSooner,
      g_NoSooner := PySem.W.mg_of X G gNoSooner,
      cl_NoSooner := ⟨pgNoSooner, hdNoSooner, poNoSooner, saNoSooner⟩,
      ty_NoSooner := ⟨hcNoSooner, hnNoSooner, htNoSooner, hmNoSooner⟩,
      n_NoSooner_guard := nNoSooner_guard,
      n_NoSooner_number := nNoSooner_number,
      n_NoSooner_room := nNoSooner_room,
      C_Within := CWithin,
      g_Within := PySem.W.mg_of X G gWithin,
      cl_Within := ⟨pgWithin, hdWithin, poWithin, saWithin⟩,
      ty_Within := ⟨hcWithin, hnWithin, htWithin, hmWithin⟩,
      n_Within_number := nWithin_number,
      n_Within_room := nWithin_room,
      t_BELOW := tBELOW,
      g_BELOW := PySem.W.mg_of X G gBELOW,
      q_BELOW := fun H => .inr ⟨oBELOW, _, nBELOW, lBELOW, cBELOW, dBELOW, small1000' (by simp), (.cons ⟨_, rfl⟩ (.cons ⟨_, rfl⟩ .nil))⟩,
      t_WORDS := tWORDS,
      g_WORDS := PySem.W.mg_of X G gWORDS,
      q_WORDS := fun H => .inr ⟨oWORDS, _, nWORDS, lWORDS, cWORDS, dWORDS, small1000' (by simp), (.cons ⟨_, rfl⟩ (.cons ⟨_, rfl⟩ (.cons ⟨_, rfl⟩ (.cons ⟨_, rfl⟩ (.cons ⟨_, rfl⟩ .nil)))))⟩,
      f_is_whole := f0,
      d_is_whole := _,
      F_is_whole := fun_mk (st := s_is_whole) l0 c0 k0,
      g_is_whole := PySem.W.mg_of X G a0,
      b_is_whole := (fun_mk (st := s_is_whole) l0 c0 k0).binds (ps := ["thing"]) fun _ _ _ _ _ _ us hl => match us, hl with | [_], _ => rfl,
      f_of_signs := f1,
      d_of_signs := _,
      F_of_signs := fun_mk (st := s_of_signs) l1 c1 k1,
      g_of_signs := PySem.W.mg_of X G a1,
      b_of_signs := (fun_mk (st := s_of_signs) l1 c1 k1).binds (ps := ["thing", "signs", "most"]) fun _ _ _ _ _ _ us hl => match us, hl with | [_, _, _], _ => rfl,
      f_is_name := f2,
      d_is_name := _,
      F_is_name := fun_mk (st := s_is_name) l2 c2 k2,
      g_is_name := PySem.W.mg_of X G a2,
      b_is_name := (fun_mk (st := s_is_name) l2 c2 k2).binds (ps := ["thing"]) fun _ _ _ _ _ _ us hl => match us, hl with | [_], _ => rfl,
      f_is_watch_name := f3,
      d_is_watch_name := _,
      F_is_watch_name := fun_mk (st := s_is_watch_name) l3 c3 k3,
      g_is_watch_name := PySem.W.mg_of X G a3,
      b_is_watch_name := (fun_mk (st := s_is_watch_name) l3 c3 k3).binds (ps := ["thing"]) fun _ _ _ _ _ _ us hl => match us, hl with | [_], _ => rfl,
      f_is_sign := f4,
      d_is_sign := _,
      F_is_sign := fun_mk (st := s_is_sign) l4 c4 k4,
      g_is_sign := PySem.W.mg_of X G a4,
      b_is_sign := (fun_mk (st := s_is_sign) l4 c4 k4).binds (ps := ["thing"]) fun _ _ _ _ _ _ us hl => match us, hl with | [_], _ => rfl,
      f_is_look := f5,
      d_is_look := _,
      F_is_look := fun_mk (st := s_is_look) l5 c5 k5,
      g_is_look := PySem.W.mg_of X G a5,
      b_is_look := (fun_mk (st := s_is_look) l5 c5 k5).binds (ps := ["thing", "words", "watches"]) fun _ _ _ _ _ _ us hl => match us, hl with | [_, _, _], _ => rfl,
      f_is_guard := f6,
      d_is_guard := _,
      F_is_guard := fun_mk (st := s_is_guard) l6 c6 k6,
      g_is_guard := PySem.W.mg_of X G a6,
      b_is_guard := (fun_mk (st := s_is_guard) l6 c6 k6).binds (ps := ["thing", "words", "watches"]) fun _ _ _ _ _ _ us hl => match us, hl with | [_, _, _], _ => rfl,
      f_unlike := f7,
      d_unlike := _,
      F_unlike := fun_mk (st := s_unlike) l7 c7 k7,
      g_unlike := PySem.W.mg_of X G a7,
      b_unlike := (fun_mk (st := s_unlike) l7 c7 k7).binds (ps := ["things"]) fun _ _ _ _ _ _ us hl => match us, hl with | [_], _ => rfl,
      f_own := f8,
      d_own := _,
      F_own := fun_mk (st := s_own) l8 c8 k8,
      g_own := PySem.W.mg_of X G a8,
      b_own := (fun_mk (st := s_own) l8 c8 k8).binds (ps := ["thing"]) fun _ _ _ _ _ _ us hl => match us, hl with | [_], _ => rfl,
      f_Door_init := f9,
      d_Door_init := _,
      F_Door_init := F9,
      mk_Door := ⟨mkDoor, a9, i9, kcDoor⟩,
      b_Door_init := bz9,
      dv_Door_init := dd9,
      v_Door_init := vd9,
      bd_Door_init := bd9,
      f_Door_asks := f10,
      d_Door_asks := _,
      F_Door_asks := fun_mk (st := s_Door_asks) l10 c10 k10,
      m_Door_asks := ⟨a10, i10, k10⟩,
      b_Door_asks := (fun_mk (st := s_Door_asks) l10 c10 k10).binds (ps := ["self"]) fun _ _ _ _ _ _ us hl => match us, hl with | [_], _ => rfl,
      f_Door_sets := f11,
      d_Door_sets := _,
      F_Door_sets := fun_mk (st := s_Door_sets) l11 c11 k11,
      m_Door_sets := ⟨a11, i11, k11⟩,
      b_Door_sets := (fun_mk (st := s_Door_sets) l11 c11 k11).binds (ps := ["self"]) fun _ _ _ _ _ _ us hl => match us, hl with | [_], _ => rfl,
      f_are_watches := f12,
      d_are_watches := _,
      F_are_watches := fun_mk (st := s_are_watches) l12 c12 k12,
      g_are_watches := PySem.W.mg_of X G a12,
      b_are_watches := (fun_mk (st := s_are_watches) l12 c12 k12).binds (ps := ["thing"]) fun _ _ _ _ _ _ us hl => match us, hl with | [_], _ => rfl,
      f_is_room := f13,
      d_is_room := _,
      F_is_room := fun_mk (st := s_is_room) l13 c13 k13,
      g_is_room := PySem.W.mg_of X G a13,
      b_is_room := (fun_mk (st := s_is_room) l13 c13 k13).binds (ps := ["thing", "watches"]) fun _ _ _ _ _ _ us hl => match us, hl with | [_, _], _ => rfl,
      f_are_rooms := f14,
      d_are_rooms := _,
      F_are_rooms := fun_mk (st := s_are_rooms) l14 c14 k14,
      g_are_rooms := PySem.W.mg_of X G a14,
      b_are_rooms := (fun_mk (st := s_are_rooms) l14 c14 k14).binds (ps := ["thing", "watches"]) fun _ _ _ _ _ _ us hl => match us, hl with | [_, _], _ => rfl,
      f_is_door := f15,
      d_is_door := _,
      F_is_door := fun_mk (st := s_is_door) l15 c15 k15,
      g_is_door := PySem.W.mg_of X G a15,
      b_is_door := (fun_mk (st := s_is_door) l15 c15 k15).binds (ps := ["thing", "watches", "names"]) fun _ _ _ _ _ _ us hl => match us, hl with | [_, _, _], _ => rfl,
      f_Machine_init := f16,
      d_Machine_init := _,
      F_Machine_init := fun_mk (st := s_Machine_init) l16 c16 k16,
      mk_Machine := ⟨mkMachine, a16, i16, kcMachine⟩,
      b_Machine_init := (fun_mk (st := s_Machine_init) l16 c16 k16).binds (ps := ["self", "watches", "rooms", "doors"]) fun _ _ _ _ _ _ us hl => match us, hl with | [_, _, _, _], _ => rfl,
      f_Machine_watches := f17,
      d_Machine_watches := _,
      F_Machine_watches := fun_mk (st := s_Machine_watches) l17 c17 k17,
      m_Machine_watches := ⟨a17, i17, k17⟩,
      b_Machine_watches := (fun_mk (st := s_Machine_watches) l17 c17 k17).binds (ps := ["self"]) fun _ _ _ _ _ _ us hl => match us, hl with | [_], _ => rfl,
      f_Machine_rooms := f18,
      d_Machine_rooms := _,
      F_Machine_rooms := fun_mk (st := s_Machine_rooms) l18 c18 k18,
      m_Machine_rooms := ⟨a18, i18, k18⟩,
      b_Machine_rooms := (fun_mk (st := s_Machine_rooms) l18 c18 k18).binds (ps := ["self"]) fun _ _ _ _ _ _ us hl => match us, hl with | [_], _ => rfl,
      f_Machine_doors := f19,
      d_Machine_doors := _,
      F_Machine_doors := fun_mk (st := s_Machine_doors) l19 c19 k19,
      m_Machine_doors := ⟨a19, i19, k19⟩,
      b_Machine_doors := (fun_mk (st := s_Machine_doors) l19 c19 k19).binds (ps := ["self"]) fun _ _ _ _ _ _ us hl => match us, hl with | [_], _ => rfl,
      f_Machine_stay := f20,
      d_Machine_stay := _,
      F_Machine_stay := fun_mk (st := s_Machine_stay) l20 c20 k20,
      m_Machine_stay := ⟨a20, i20, k20⟩,
      b_Machine_stay := (fun_mk (st := s_Machine_stay) l20 c20 k20).binds (ps := ["self", "room"]) fun _ _ _ _ _ _ us hl => match us, hl with | [_, _], _ => rfl,
      f_Machine_watch_number := f21,
      d_Machine_watch_number := _,
      F_Machine_watch_number := fun_mk (st := s_Machine_watch_number) l21 c21 k21,
      m_Machine_watch_number := ⟨a21, i21, k21⟩,
      b_Machine_watch_number := (fun_mk (st := s_Machine_watch_number) l21 c21 k21).binds (ps := ["self", "name"]) fun _ _ _ _ _ _ us hl => match us, hl with | [_, _], _ => rfl,
      f_placed := f22,
      d_placed := _,
      F_placed := fun_mk (st := s_placed) l22 c22 k22,
      g_placed := PySem.W.mg_of X G a22,
      b_placed := (fun_mk (st := s_placed) l22 c22 k22).binds (ps := ["machine", "guard"]) fun _ _ _ _ _ _ us hl => match us, hl with | [_, _], _ => rfl,
      f_checked_goal := f23,
      d_checked_goal := _,
      F_checked_goal := fun_mk (st := s_checked_goal) l23 c23 k23,
      g_checked_goal := PySem.W.mg_of X G a23,
      b_checked_goal := (fun_mk (st := s_checked_goal) l23 c23 k23).binds (ps := ["machine", "goal"]) fun _ _ _ _ _ _ us hl => match us, hl with | [_, _], _ => rfl,
      f_with_long := f24,
      d_with_long := _,
      F_with_long := fun_mk (st := s_with_long) l24 c24 k24,
      g_with_long := PySem.W.mg_of X G a24,
      b_with_long := (fun_mk (st := s_with_long) l24 c24 k24).binds (ps := ["machine"]) fun _ _ _ _ _ _ us hl => match us, hl with | [_], _ => rfl,
      f_cut_off := f25,
      d_cut_off := _,
      F_cut_off := fun_mk (st := s_cut_off) l25 c25 k25,
      g_cut_off := PySem.W.mg_of X G a25,
      b_cut_off := (fun_mk (st := s_cut_off) l25 c25 k25).binds (ps := ["machine", "room"]) fun _ _ _ _ _ _ us hl => match us, hl with | [_, _], _ => rfl,
      f_through_search := f26,
      d_through_search := _,
      F_through_search := fun_mk (st := s_through_search) l26 c26 k26,
      g_through_search := PySem.W.mg_of X G a26,
      b_through_search := (fun_mk (st := s_through_search) l26 c26 k26).binds (ps := ["machine", "zone", "door"]) fun _ _ _ _ _ _ us hl => match us, hl with | [_, _, _], _ => rfl,
      f_lets_by := f27,
      d_lets_by := _,
      F_lets_by := fun_mk (st := s_lets_by) l27 c27 k27,
      g_lets_by := PySem.W.mg_of X G a27,
      b_lets_by := (fun_mk (st := s_lets_by) l27 c27 k27).binds (ps := ["machine", "goal", "paper"]) fun _ _ _ _ _ _ us hl => match us, hl with | [_, _, _], _ => rfl,
      f_Claim_made_of := f28,
      d_Claim_made_of := _,
      F_Claim_made_of := fun_mk (st := s_Claim_made_of) l28 c28 k28,
      b_Claim_made_of := (fun_mk (st := s_Claim_made_of) l28 c28 k28).binds (ps := ["self", "machine"]) fun _ _ _ _ _ _ us hl => match us, hl with | [_, _], _ => rfl,
      f_Claim_asked_of := f29,
      d_Claim_asked_of := _,
      F_Claim_asked_of := fun_mk (st := s_Claim_asked_of) l29 c29 k29,
      b_Claim_asked_of := (fun_mk (st := s_Claim_asked_of) l29 c29 k29).binds (ps := ["self", "machine"]) fun _ _ _ _ _ _ us hl => match us, hl with | [_, _], _ => rfl,
      f_Claim_goal_on := f30,
      d_Claim_goal_on := _,
      F_Claim_goal_on := fun_mk (st := s_Claim_goal_on) l30 c30 k30,
      b_Claim_goal_on := (fun_mk (st := s_Claim_goal_on) l30 c30 k30).binds (ps := ["self", "machine"]) fun _ _ _ _ _ _ us hl => match us, hl with | [_, _], _ => rfl,
      f_Never_init := f31,
      d_Never_init := _,
      F_Never_init := fun_mk (st := s_Never_init) l31 c31 k31,
      mk_Never := ⟨mkNever, a31, i31, kcNever⟩,
      b_Never_init := (fun_mk (st := s_Never_init) l31 c31 k31).binds (ps := ["self", "room", "guard"]) fun _ _ _ _ _ _ us hl => match us, hl with | [_, _, _], _ => rfl,
      f_Never_named := f32,
      d_Never_named := _,
      F_Never_named := fun_mk (st := s_Never_named) l32 c32 k32,
      m_Never_named := ⟨a32, i32, k32⟩,
      b_Never_named := (fun_mk (st := s_Never_named) l32 c32 k32).binds (ps := ["self"]) fun _ _ _ _ _ _ us hl => match us, hl with | [_], _ => rfl,
      f_NoSooner_init := f33,
      d_NoSooner_init := _,
      F_NoSooner_init := fun_mk (st := s_NoSooner_init) l33 c33 k33,
      mk_NoSooner := ⟨mkNoSooner, a33, i33, kcNoSooner⟩,
      b_NoSooner_init := (fun_mk (st := s_NoSooner_init) l33 c33 k33).binds (ps := ["self", "room", "guard", "number"]) fun _ _ _ _ _ _ us hl => match us, hl with | [_, _, _, _], _ => rfl,
      f_NoSooner_made_of := f34,
      d_NoSooner_made_of := _,
      F_NoSooner_made_of := fun_mk (st := s_NoSooner_made_of) l34 c34 k34,
      m_NoSooner_made_of := ⟨a34, i34, k34⟩,
      b_NoSooner_made_of := (fun_mk (st := s_NoSooner_made_of) l34 c34 k34).binds (ps := ["self", "machine"]) fun _ _ _ _ _ _ us hl => match us, hl with | [_, _], _ => rfl,
      f_NoSooner_named := f35,
      d_NoSooner_named := _,
      F_NoSooner_named := fun_mk (st := s_NoSooner_named) l35 c35 k35,
      m_NoSooner_named := ⟨a35, i35, k35⟩,
      b_NoSooner_named := (fun_mk (st := s_NoSooner_named) l35 c35 k35).binds (ps := ["self"]) fun _ _ _ _ _ _ us hl => match us, hl with | [_], _ => rfl,
      f_NoSooner_goal_on := f36,
      d_NoSooner_goal_on := _,
      F_NoSooner_goal_on := fun_mk (st := s_NoSooner_goal_on) l36 c36 k36,
      m_NoSooner_goal_on := ⟨a36, i36, k36⟩,
      b_NoSooner_goal_on := (fun_mk (st := s_NoSooner_goal_on) l36 c36 k36).binds (ps := ["self", "machine"]) fun _ _ _ _ _ _ us hl => match us, hl with | [_, _], _ => rfl,
      f_Within_init := f37,
      d_Within_init := _,
      F_Within_init := fun_mk (st := s_Within_init) l37 c37 k37,
      mk_Within := ⟨mkWithin, a37, i37, kcWithin⟩,
      b_Within_init := (fun_mk (st := s_Within_init) l37 c37 k37).binds (ps := ["self", "room", "number"]) fun _ _ _ _ _ _ us hl => match us, hl with | [_, _, _], _ => rfl,
      f_Within_made_of := f38,
      d_Within_made_of := _,
      F_Within_made_of := fun_mk (st := s_Within_made_of) l38 c38 k38,
      m_Within_made_of := ⟨a38, i38, k38⟩,
      b_Within_made_of := (fun_mk (st := s_Within_made_of) l38 c38 k38).binds (ps := ["self", "machine"]) fun _ _ _ _ _ _ us hl => match us, hl with | [_, _], _ => rfl,
      f_Within_named := f39,
      d_Within_named := _,
      F_Within_named := fun_mk (st := s_Within_named) l39 c39 k39,
      m_Within_named := ⟨a39, i39, k39⟩,
      b_Within_named := (fun_mk (st := s_Within_named) l39 c39 k39).binds (ps := ["self"]) fun _ _ _ _ _ _ us hl => match us, hl with | [_], _ => rfl,
      f_Within_goal_on := f40,
      d_Within_goal_on := _,
      F_Within_goal_on := fun_mk (st := s_Within_goal_on) l40 c40 k40,
      m_Within_goal_on := ⟨a40, i40, k40⟩,
      b_Within_goal_on := (fun_mk (st := s_Within_goal_on) l40 c40 k40).binds (ps := ["self", "machine"]) fun _ _ _ _ _ _ us hl => match us, hl with | [_, _], _ => rfl,
      f_lets_claim := f41,
      d_lets_claim := _,
      F_lets_claim := fun_mk (st := s_lets_claim) l41 c41 k41,
      g_lets_claim := PySem.W.mg_of X G a41,
      b_lets_claim := (fun_mk (st := s_lets_claim) l41 c41 k41).binds (ps := ["claim", "machine", "paper"]) fun _ _ _ _ _ _ us hl => match us, hl with | [_, _, _], _ => rfl,
      f_l_cell_at := f42,
      d_l_cell_at := _,
      F_l_cell_at := fun_mk (st := s_l_cell_at) l42 c42 k42,
      g_l_cell_at := PySem.W.mg_of X G a42,
      b_l_cell_at := (fun_mk (st := s_l_cell_at) l42 c42 k42).binds (ps := ["_law_script", "_law_k"]) fun _ _ _ _ _ _ us hl => match us, hl with | [_, _], _ => rfl,
      f_l_stream := f43,
      d_l_stream := _,
      F_l_stream := fun_mk (st := s_l_stream) l43 c43 k43,
      g_l_stream := PySem.W.mg_of X G a43,
      b_l_stream := (fun_mk (st := s_l_stream) l43 c43 k43).binds (ps := ["_law_cell", "_law_many"]) fun _ _ _ _ _ _ us hl => match us, hl with | [_, _], _ => rfl,
      f_l_names := f44,
      d_l_names := _,
      F_l_names := fun_mk (st := s_l_names) l44 c44 k44,
      g_l_names := PySem.W.mg_of X G a44,
      b_l_names := (fun_mk (st := s_l_names) l44 c44 k44).binds (ps := ["_law_cell", "_law_many"]) fun _ _ _ _ _ _ us hl => match us, hl with | [_, _], _ => rfl,
      f_l_number := f45,
      d_l_number := _,
      F_l_number := fun_mk (st := s_l_number) l45 c45 k45,
      g_l_number := PySem.W.mg_of X G a45,
      b_l_number := (fun_mk (st := s_l_number) l45 c45 k45).binds (ps := ["_law_x", "_law_unit"]) fun _ _ _ _ _ _ us hl => match us, hl with | [_, _], _ => rfl,
      f_l_guard := f46,
      d_l_guard := _,
      F_l_guard := fun_mk (st := s_l_guard) l46 c46 k46,
      g_l_guard := PySem.W.mg_of X G a46,
      b_l_guard := (fun_mk (st := s_l_guard) l46 c46 k46).binds (ps := ["_law_xs", "_law_unit", "_law_watches"]) fun _ _ _ _ _ _ us hl => match us, hl with | [_, _, _], _ => rfl,
      f_l_stay := f47,
      d_l_stay := _,
      F_l_stay := fun_mk (st := s_l_stay) l47 c47 k47,
      g_l_stay := PySem.W.mg_of X G a47,
      b_l_stay := (fun_mk (st := s_l_stay) l47 c47 k47).binds (ps := ["_law_xs", "_law_unit", "_law_watches"]) fun _ _ _ _ _ _ us hl => match us, hl with | [_, _, _], _ => rfl,
      f_l_door := f48,
      d_l_door := _,
      F_l_door := fun_mk (st := s_l_door) l48 c48 k48,
      g_l_door := PySem.W.mg_of X G a48,
      b_l_door := (fun_mk (st := s_l_door) l48 c48 k48).binds (ps := ["_law_cell", "_law_unit", "_law_watches", "_law_many"]) fun _ _ _ _ _ _ us hl => match us, hl with | [_, _, _, _], _ => rfl,
      f_l_machine := f49,
      d_l_machine := _,
      F_l_machine := fun_mk (st := s_l_machine) l49 c49 k49,
      g_l_machine := PySem.W.mg_of X G a49,
      b_l_machine := (fun_mk (st := s_l_machine) l49 c49 k49).binds (ps := ["_law_script"]) fun _ _ _ _ _ _ us hl => match us, hl with | [_], _ => rfl,
      f_l_made := f50,
      d_l_made := _,
      F_l_made := fun_mk (st := s_l_made) l50 c50 k50,
      g_l_made := PySem.W.mg_of X G a50,
      b_l_made := (fun_mk (st := s_l_made) l50 c50 k50).binds (ps := ["_law_spec"]) fun _ _ _ _ _ _ us hl => match us, hl with | [_], _ => rfl,
      f_l_scale := f51,
      d_l_scale := _,
      F_l_scale := fun_mk (st := s_l_scale) l51 c51 k51,
      g_l_scale := PySem.W.mg_of X G a51,
      b_l_scale := (fun_mk (st := s_l_scale) l51 c51 k51).binds (ps := ["_law_spec"]) fun _ _ _ _ _ _ us hl => match us, hl with | [_], _ => rfl,
      f_l_claim := f52,
      d_l_claim := _,
      F_l_claim := fun_mk (st := s_l_claim) l52 c52 k52,
      g_l_claim := PySem.W.mg_of X G a52,
      b_l_claim := (fun_mk (st := s_l_claim) l52 c52 k52).binds (ps := ["_law_cell", "_law_spec"]) fun _ _ _ _ _ _ us hl => match us, hl with | [_, _], _ => rfl,
      f_l_claimed := f53,
      d_l_claimed := _,
      F_l_claimed := fun_mk (st := s_l_claimed) l53 c53 k53,
      g_l_claimed := PySem.W.mg_of X G a53,
      b_l_claimed := (fun_mk (st := s_l_claimed) l53 c53 k53).binds (ps := ["_law_claim_here", "_law_spec"]) fun _ _ _ _ _ _ us hl => match us, hl with | [_, _], _ => rfl,
      f_l_told := f54,
      d_l_told := _,
      F_l_told := fun_mk (st := s_l_told) l54 c54 k54,
      g_l_told := PySem.W.mg_of X G a54,
      b_l_told := (fun_mk (st := s_l_told) l54 c54 k54).binds (ps := ["_law_machine_here"]) fun _ _ _ _ _ _ us hl => match us, hl with | [_], _ => rfl,
      f_l_due := f55,
      d_l_due := _,
      F_l_due := fun_mk (st := s_l_due) l55 c55 k55,
      g_l_due := PySem.W.mg_of X G a55,
      b_l_due := (fun_mk (st := s_l_due) l55 c55 k55).binds (ps := ["_law_spec", "_law_claim_here"]) fun _ _ _ _ _ _ us hl => match us, hl with | [_, _], _ => rfl,
      f_l_spoilt := f56,
      d_l_spoilt := _,
      F_l_spoilt := fun_mk (st := s_l_spoilt) l56 c56 k56,
      g_l_spoilt := PySem.W.mg_of X G a56,
      b_l_spoilt := (fun_mk (st := s_l_spoilt) l56 c56 k56).binds (ps := ["_law_spec", "_law_claim_here", "_law_cell"]) fun _ _ _ _ _ _ us hl => match us, hl with | [_, _, _], _ => rfl,
      f_l_numbered := f57,
      d_l_numbered := _,
      F_l_numbered := fun_mk (st := s_l_numbered) l57 c57 k57,
      g_l_numbered := PySem.W.mg_of X G a57,
      b_l_numbered := (fun_mk (st := s_l_numbered) l57 c57 k57).binds (ps := ["_law_spec", "_law_claim_here", "_law_cell"]) fun _ _ _ _ _ _ us hl => match us, hl with | [_, _, _], _ => rfl,
      f_l_refused := f58,
      d_l_refused := _,
      F_l_refused := fun_mk (st := s_l_refused) l58 c58 k58,
      g_l_refused := PySem.W.mg_of X G a58,
      b_l_refused := (fun_mk (st := s_l_refused) l58 c58 k58).binds (ps := ["_law_claim_here", "_law_machine_here"]) fun _ _ _ _ _ _ us hl => match us, hl with | [_, _], _ => rfl,
      f_law := fa,
      d_law := _,
      F_law := fun_mk (st := s_law) l59 c59 k59,
      g_law := PySem.W.mg_of X G a59,
      b_law := (fun_mk (st := s_law) l59 c59 k59).binds (ps := ["_law_script"]) fun _ _ _ _ _ _ us hl => match us, hl with | [_], _ => rfl,
      mi_Never_asked_of := ⟨aiNever_asked_of, i29, k29⟩,
      mi_Never_goal_on := ⟨aiNever_goal_on, i30, k30⟩,
      mi_Never_made_of := ⟨aiNever_made_of, i28, k28⟩,
      mi_NoSooner_asked_of := ⟨aiNoSooner_asked_of, i29, k29⟩,
      mi_Within_asked_of := ⟨aiWithin_asked_of, i29, k29⟩,
      C_BadMachine := CBadMachine,
      g_BadMachine := PySem.W.mg_of X G gBadMachine,
      x_BadMachine := xBadMachine,
      k_BadMachine := kBadMachine,
      b_BadMachine := bBadMachine,
      t_BadMachine := tBadMachine,
      i_BadMachine := iBadMachine,
      C_TooMany := CTooMany,
      g_TooMany := PySem.W.mg_of X G gTooMany,
      x_TooMany := xTooMany,
      k_TooMany := kTooMany,
      b_TooMany := bTooMany,
      t_TooMany := tTooMany,
      i_TooMany := iTooMany,
      C_NoMark := CNoMark,
      g_NoMark := PySem.W.mg_of X G gNoMark,
      x_NoMark := xNoMark,
      k_NoMark := kNoMark,
      b_NoMark := bNoMark,
      t_NoMark := tNoMark,
      i_NoMark := iNoMark,
      C_Claim := CClaim,
      g_Claim := PySem.W.mg_of X G gClaim,
      k_Claim := kClaim,
      i_Claim := iClaim,
      t_LETTERS := uLETTERS,
      g_LETTERS := PySem.W.mg_of X G gLETTERS,
      t_LONG := uLONG,
      g_LONG := PySem.W.mg_of X G gLONG,
      t_MOST_DOORS := uMOST_DOORS,
      g_MOST_DOORS := PySem.W.mg_of X G gMOST_DOORS,
      t_MOST_ROOMS := uMOST_ROOMS,
      g_MOST_ROOMS := PySem.W.mg_of X G gMOST_ROOMS,
      t_MOST_WATCHES := uMOST_WATCHES,
      g_MOST_WATCHES := PySem.W.mg_of X G gMOST_WATCHES,
      m_all := PySem.W.mg_none_of X G zall,
      m_bool := PySem.W.mg_none_of X G zbool,
      m_int := PySem.W.mg_none_of X G zint,
      m_isinstance := PySem.W.mg_none_of X G zisinstance,
      m_len := PySem.W.mg_none_of X G zlen,
      m_list := PySem.W.mg_none_of X G zlist,
      m_max := PySem.W.mg_none_of X G zmax,
      m_range := PySem.W.mg_none_of X G zrange,
      m_set := PySem.W.mg_none_of X G zset,
      m_str := PySem.W.mg_none_of X G zstr,
      m_tuple := PySem.W.mg_none_of X G ztuple,
      kk_N_C := hkk_N_C,
      kk_S_C := hkk_S_C,
      kk_W_C := hkk_W_C,
      e4_BadMachine := he4_BadMachine,
      e4_NoMark := he4_NoMark,
      s_BadMachine_BadMachine := hs_BadMachine_BadMachine,
      s_NoMark_BadMachine := hs_NoMark_BadMachine,
      s_NoMark_NoMark := hs_NoMark_NoMark }
  exact ⟨_, fun s v => .of_eq rfl, fun base _ _ => ok_law T⟩
end ZW
open PySem PySem.W PyProof.Rows
set_option maxRecDepth 100000 in
set_option maxHeartbeats 0 in
theorem PySem.Challenge.cw_zonewalk_k72_claims_asked_holds : PySem.Challenge.rw_zonewalk_k72_claims_asked.Holds := by
  refine ZWhead ?_
  k_fill
  refine L2.walk_of (l := PySem.Challenge.rw_zonewalk_k72_claims_asked) (n := 63) (k := 14) (x := "_law_script") (CX := fun _ => L2.CX0) (sp := fun w => ZW.spLaw _) rfl (by decide) rfl ⟨rfl, by decide, by decide⟩ (fun w h Y => PySem.W.kIn_of Y) ?F (fun _ _ a ns hl _ hS => ⟨a, ns, rfl, hS, hl, fun _ => rfl⟩) (fun _ _ _ _ _ h => h)
  case F =>
    intro w mg fa h KX G hmg
    refine' ZW.all_mk KX G hmg ?gDoor ?pgDoor ?hdDoor ?poDoor ?saDoor ?mkDoor ?kcDoor ?hcDoor ?hnDoor ?htDoor ?hmDoor ?nDoor_backs ?nDoor_end ?nDoor_looks ?nDoor_sign ?nDoor_start ?gMachine ?pgMachine ?hdMachine ?poMachine ?saMachine ?mkMachine ?kcMachine ?hcMachine ?hnMachine ?htMachine ?hmMachine ?nMachine_door_list ?nMachine_room_names ?nMachine_stay_looks ?nMachine_watch_names ?gNever ?pgNever ?hdNever ?poNever ?saNever ?mkNever ?kcNever ?hcNever ?hnNever ?htNever ?hmNever ?nNever_guard ?nNever_room ?gNoSooner ?pgNoSooner ?hdNoSooner ?poNoSooner ?saNoSooner ?mkNoSooner ?kcNoSooner ?hcNoSooner ?hnNoSooner ?htNoSooner ?hmNoSooner ?nNoSooner_guard ?nNoSooner_number ?nNoSooner_room ?gWithin ?pgWithin ?hdWithin ?poWithin ?saWithin ?mkWithin ?kcWithin ?hcWithin ?hnWithin ?htWithin ?hmWithin ?nWithin_number ?nWithin_room ?gBELOW ?lBELOW ?cBELOW ?dBELOW ?gWORDS ?lWORDS ?cWORDS ?dWORDS ?a0 ?l0 ?c0 ?k0 ?a1 ?l1 ?c1 ?k1 ?a2 ?l2 ?c2 ?k2 ?a3 ?l3 ?c3 ?k3 ?a4 ?l4 ?c4 ?k4 ?a5 ?l5 ?c5 ?k5 ?a6 ?l6 ?c6 ?k6 ?a7 ?l7 ?c7 ?k7 ?a8 ?l8 ?c8 ?k8 ?a9 ?i9 ?l9 ?c9 ?k9 ?lt9 ?ld9 ?a10 ?i10 ?l10 ?c10 ?k10 ?a11 ?i11 ?l11 ?c11 ?k11 ?a12 ?l12 ?c12 ?k12 ?a13 ?l13 ?c13 ?k13 ?a14 ?l14 ?c14 ?k14 ?a15 ?l15 ?c15 ?k15 ?a16 ?i16 ?l16 ?c16 ?k16 ?a17 ?i17 ?l17 ?c17 ?k17 ?a18 ?i18 ?l18 ?c18 ?k18 ?a19 ?i19 ?l19 ?c19 ?k19 ?a20 ?i20 ?l20 ?c20 ?k20 ?a21 ?i21 ?l21 ?c21 ?k21 ?a22 ?l22 ?c22 ?k22 ?a23 ?l23 ?c23 ?k23 ?a24 ?l24 ?c24 ?k24 ?a25 ?l25 ?c25 ?k25 ?a26 ?l26 ?c26 ?k26 ?a27 ?l27 ?c27 ?k27 ?aiNever_made_of ?i28 ?l28 ?c28 ?k28 ?aiNever_asked_of ?aiNoSooner_asked_of ?aiWithin_asked_of ?i29 ?l29 ?c29 ?k29 ?aiNever_goal_on ?i30 ?l30 ?c30 ?k30 ?a31 ?i31 ?l31 ?c31 ?k31 ?a32 ?i32 ?l32 ?c32 ?k32 ?a33 ?i33 ?l33 ?c33 ?k33 ?a34 ?i34 ?l34 ?c34 ?k34 ?a35 ?i35 ?l35 ?c35 ?k35 ?a36 ?i36 ?l36 ?c36 ?k36 ?a37 ?i37 ?l37 ?c37 ?k37 ?a38 ?i38 ?l38 ?c38 ?k38 ?a39 ?i39 ?l39 ?c39 ?k39 ?a40 ?i40 ?l40 ?c40 ?k40 ?a41 ?l41 ?c41 ?k41 ?a42 ?l42 ?c42 ?k42 ?a43 ?l43 ?c43 ?k43 ?a44 ?l44 ?c44 ?k44 ?a45 ?l45 ?c45 ?k45 ?a46 ?l46 ?c46 ?k46 ?a47 ?l47 ?c47 ?k47 ?a48 ?l48 ?c48 ?k48 ?a49 ?l49 ?c49 ?k49 ?a50 ?l50 ?c50 ?k50 ?a51 ?l51 ?c51 ?k51 ?a52 ?l52 ?c52 ?k52 ?a53 ?l53 ?c53 ?k53 ?a54 ?l54 ?c54 ?k54 ?a55 ?l55 ?c55 ?k55 ?a56 ?l56 ?c56 ?k56 ?a57 ?l57 ?c57 ?k57 ?a58 ?l58 ?c58 ?k58 ?a59 ?l59 ?c59 ?k59 ?gBadMachine ?xBadMachine ?kBadMachine ?bBadMachine ?tBadMachine ?iBadMachine ?gTooMany ?xTooMany ?kTooMany ?bTooMany ?tTooMany ?iTooMany ?gNoMark ?xNoMark ?kNoMark ?bNoMark ?tNoMark ?iNoMark ?gClaim ?kClaim ?iClaim ?gLETTERS ?gLONG ?gMOST_DOORS ?gMOST_ROOMS ?gMOST_WATCHES ?zall ?zbool ?zint ?zisinstance ?zlen ?zlist ?zmax ?zrange ?zset ?zstr ?ztuple ?hkk_N_C ?hkk_S_C ?hkk_W_C ?he4_BadMachine ?he4_NoMark ?hs_BadMachine_BadMachine ?hs_NoMark_BadMachine ?hs_NoMark_NoMark
    (case gDoor => first | k_is | k_exc | rfl)
    (case pgDoor => first | k_is | k_exc | rfl)
    (case hdDoor => first | k_is | k_exc | rfl)
    (case poDoor => first | k_is | k_exc | rfl)
    (case saDoor => first | k_is | k_exc | rfl)
    (case mkDoor => first | k_is | k_exc | rfl)
    (case kcDoor => first | k_is | k_exc | rfl)
    (case hcDoor => first | k_is | k_exc | rfl)
    (case hnDoor => first | k_is | k_exc | rfl)
    (case htDoor => first | k_is | k_exc | rfl)
    (case hmDoor => first | k_is | k_exc | rfl)
    (case nDoor_backs => first | k_is | k_exc | rfl)
    (case nDoor_end => first | k_is | k_exc | rfl)
    (case nDoor_looks => first | k_is | k_exc | rfl)
    (case nDoor_sign => first | k_is | k_exc | rfl)
    (case nDoor_start => first | k_is | k_exc | rfl)
    (case gMachine => first | k_is | k_exc | rfl)
    (case pgMachine => first | k_is | k_exc | rfl)
    (case hdMachine => first | k_is | k_exc | rfl)
    (case poMachine => first | k_is | k_exc | rfl)
    (case saMachine => first | k_is | k_exc | rfl)
    (case mkMachine => first | k_is | k_exc | rfl)
    (case kcMachine => first | k_is | k_exc | rfl)
    (case hcMachine => first | k_is | k_exc | rfl)
    (case hnMachine => first | k_is | k_exc | rfl)
    (case htMachine => first | k_is | k_exc | rfl)
    (case hmMachine => first | k_is | k_exc | rfl)
    (case nMachine_door_list => first | k_is | k_exc | rfl)
    (case nMachine_room_names => first | k_is | k_exc | rfl)
    (case nMachine_stay_looks => first | k_is | k_exc | rfl)
    (case nMachine_watch_names => first | k_is | k_exc | rfl)
    (case gNever => first | k_is | k_exc | rfl)
    (case pgNever => first | k_is | k_exc | rfl)
    (case hdNever => first | k_is | k_exc | rfl)
    (case poNever => first | k_is | k_exc | rfl)
    (case saNever => first | k_is | k_exc | rfl)
    (case mkNever => first | k_is | k_exc | rfl)
    (case kcNever => first | k_is | k_exc | rfl)
    (case hcNever => first | k_is | k_exc | rfl)
    (case hnNever => first | k_is | k_exc | rfl)
    (case htNever => first | k_is | k_exc | rfl)
    (case hmNever => first | k_is | k_exc | rfl)
    (case nNever_guard => first | k_is | k_exc | rfl)
    (case nNever_room => first | k_is | k_exc | rfl)
    (case gNoSooner => first | k_is | k_exc | rfl)
    (case pgNoSooner => first | k_is | k_exc | rfl)
    (case hdNoSooner => first | k_is | k_exc | rfl)
    (case poNoSooner => first | k_is | k_exc | rfl)
    (case saNoSooner => first | k_is | k_exc | rfl)
    (case mkNoSooner => first | k_is | k_exc | rfl)
    (case kcNoSooner => first | k_is | k_exc | rfl)
    (case hcNoSooner => first | k_is | k_exc | rfl)
    (case hnNoSooner => first | k_is | k_exc | rfl)
    (case htNoSooner => first | k_is | k_exc | rfl)
    (case hmNoSooner => first | k_is | k_exc | rfl)
    (case nNoSooner_guard => first | k_is | k_exc | rfl)
    (case nNoSooner_number => first | k_is | k_exc | rfl)
    (case nNoSooner_room => first | k_is | k_exc | rfl)
    (case gWithin => first | k_is | k_exc | rfl)
    (case pgWithin => first | k_is | k_exc | rfl)
    (case hdWithin => first | k_is | k_exc | rfl)
    (case poWithin => first | k_is | k_exc | rfl)
    (case saWithin => first | k_is | k_exc | rfl)
    (case mkWithin => first | k_is | k_exc | rfl)
    (case kcWithin => first | k_is | k_exc | rfl)
    (case hcWithin => first | k_is | k_exc | rfl)
    (case hnWithin => first | k_is | k_exc | rfl)
    (case htWithin => first | k_is | k_exc | rfl)
    (case hmWithin => first | k_is | k_exc | rfl)
    (case nWithin_number => first | k_is | k_exc | rfl)
    (case nWithin_room => first | k_is | k_exc | rfl)
    (case gBELOW => first | k_is | k_exc | rfl)
    (case lBELOW => first | k_is | k_exc | rfl)
    (case cBELOW => first | k_is | k_exc | rfl)
    (case dBELOW => first | k_is | k_exc | rfl)
    (case gWORDS => first | k_is | k_exc | rfl)
    (case lWORDS => first | k_is | k_exc | rfl)
    (case cWORDS => first | k_is | k_exc | rfl)
    (case dWORDS => first | k_is | k_exc | rfl)
    (case a0 => first | k_is | k_exc | rfl)
    (case l0 => first | k_is | k_exc | rfl)
    (case c0 => first | k_is | k_exc | rfl)
    (case k0 => first | k_is | k_exc | rfl)
    (case a1 => first | k_is | k_exc | rfl)
    (case l1 => first | k_is | k_exc | rfl)
    (case c1 => first | k_is | k_exc | rfl)
    (case k1 => first | k_is | k_exc | rfl)
    (case a2 => first | k_is | k_exc | rfl)
    (case l2 => first | k_is | k_exc | rfl)
    (case c2 => first | k_is | k_exc | rfl)
    (case k2 => first | k_is | k_exc | rfl)
    (case a3 => first | k_is | k_exc | rfl)
    (case l3 => first | k_is | k_exc | rfl)
    (case c3 => first | k_is | k_exc | rfl)
    (case k3 => first | k_is | k_exc | rfl)
    (case a4 => first | k_is | k_exc | rfl)
    (case l4 => first | k_is | k_exc | rfl)
    (case c4 => first | k_is | k_exc | rfl)
    (case k4 => first | k_is | k_exc | rfl)
    (case a5 => first | k_is | k_exc | rfl)
    (case l5 => first | k_is | k_exc | rfl)
    (case c5 => first | k_is | k_exc | rfl)
    (case k5 => first | k_is | k_exc | rfl)
    (case a6 => first | k_is | k_exc | rfl)
    (case l6 => first | k_is | k_exc | rfl)
    (case c6 => first | k_is | k_exc | rfl)
    (case k6 => first | k_is | k_exc | rfl)
    (case a7 => first | k_is | k_exc | rfl)
    (case l7 => first | k_is | k_exc | rfl)
    (case c7 => first | k_is | k_exc | rfl)
    (case k7 => first | k_is | k_exc | rfl)
    (case a8 => first | k_is | k_exc | rfl)
    (case l8 => first | k_is | k_exc | rfl)
    (case c8 => first | k_is | k_exc | rfl)
    (case k8 => first | k_is | k_exc | rfl)
    (case a9 => first | k_is | k_exc | rfl)
    (case i9 => first | k_is | k_exc | rfl)
    (case l9 => first | k_is | k_exc | rfl)
    (case c9 => first | k_is | k_exc | rfl)
    (case k9 => first | k_is | k_exc | rfl)
    (case lt9 => first | k_is | k_exc | rfl)
    (case ld9 => first | k_is | k_exc | rfl)
    (case a10 => first | k_is | k_exc | rfl)
    (case i10 => first | k_is | k_exc | rfl)
    (case l10 => first | k_is | k_exc | rfl)
    (case c10 => first | k_is | k_exc | rfl)
    (case k10 => first | k_is | k_exc | rfl)
    (case a11 => first | k_is | k_exc | rfl)
    (case i11 => first | k_is | k_exc | rfl)
    (case l11 => first | k_is | k_exc | rfl)
    (case c11 => first | k_is | k_exc | rfl)
    (case k11 => first | k_is | k_exc | rfl)
    (case a12 => first | k_is | k_exc | rfl)
    (case l12 => first | k_is | k_exc | rfl)
    (case c12 => first | k_is | k_exc | rfl)
    (case k12 => first | k_is | k_exc | rfl)
    (case a13 => first | k_is | k_exc | rfl)
    (case l13 => first | k_is | k_exc | rfl)
    (case c13 => first | k_is | k_exc | rfl)
    (case k13 => first | k_is | k_exc | rfl)
    (case a14 => first | k_is | k_exc | rfl)
    (case l14 => first | k_is | k_exc | rfl)
    (case c14 => first | k_is | k_exc | rfl)
    (case k14 => first | k_is | k_exc | rfl)
    (case a15 => first | k_is | k_exc | rfl)
    (case l15 => first | k_is | k_exc | rfl)
    (case c15 => first | k_is | k_exc | rfl)
    (case k15 => first | k_is | k_exc | rfl)
    (case a16 => first | k_is | k_exc | rfl)
    (case i16 => first | k_is | k_exc | rfl)
    (case l16 => first | k_is | k_exc | rfl)
    (case c16 => first | k_is | k_exc | rfl)
    (case k16 => first | k_is | k_exc | rfl)
    (case a17 => first | k_is | k_exc | rfl)
    (case i17 => first | k_is | k_exc | rfl)
    (case l17 => first | k_is | k_exc | rfl)
    (case c17 => first | k_is | k_exc | rfl)
    (case k17 => first | k_is | k_exc | rfl)
    (case a18 => first | k_is | k_exc | rfl)
    (case i18 => first | k_is | k_exc | rfl)
    (case l18 => first | k_is | k_exc | rfl)
    (case c18 => first | k_is | k_exc | rfl)
    (case k18 => first | k_is | k_exc | rfl)
    (case a19 => first | k_is | k_exc | rfl)
    (case i19 => first | k_is | k_exc | rfl)
    (case l19 => first | k_is | k_exc | rfl)
    (case c19 => first | k_is | k_exc | rfl)
    (case k19 => first | k_is | k_exc | rfl)
    (case a20 => first | k_is | k_exc | rfl)
    (case i20 => first | k_is | k_exc | rfl)
    (case l20 => first | k_is | k_exc | rfl)
    (case c20 => first | k_is | k_exc | rfl)
    (case k20 => first | k_is | k_exc | rfl)
    (case a21 => first | k_is | k_exc | rfl)
    (case i21 => first | k_is | k_exc | rfl)
    (case l21 => first | k_is | k_exc | rfl)
    (case c21 => first | k_is | k_exc | rfl)
    (case k21 => first | k_is | k_exc | rfl)
    (case a22 => first | k_is | k_exc | rfl)
    (case l22 => first | k_is | k_exc | rfl)
    (case c22 => first | k_is | k_exc | rfl)
    (case k22 => first | k_is | k_exc | rfl)
    (case a23 => first | k_is | k_exc | rfl)
    (case l23 => first | k_is | k_exc | rfl)
    (case c23 => first | k_is | k_exc | rfl)
    (case k23 => first | k_is | k_exc | rfl)
    (case a24 => first | k_is | k_exc | rfl)
    (case l24 => first | k_is | k_exc | rfl)
    (case c24 => first | k_is | k_exc | rfl)
    (case k24 => first | k_is | k_exc | rfl)
    (case a25 => first | k_is | k_exc | rfl)
    (case l25 => first | k_is | k_exc | rfl)
    (case c25 => first | k_is | k_exc | rfl)
    (case k25 => first | k_is | k_exc | rfl)
    (case a26 => first | k_is | k_exc | rfl)
    (case l26 => first | k_is | k_exc | rfl)
    (case c26 => first | k_is | k_exc | rfl)
    (case k26 => first | k_is | k_exc | rfl)
    (case a27 => first | k_is | k_exc | rfl)
    (case l27 => first | k_is | k_exc | rfl)
    (case c27 => first | k_is | k_exc | rfl)
    (case k27 => first | k_is | k_exc | rfl)
    (case aiNever_made_of => first | k_is | k_exc | rfl)
    (case i28 => first | k_is | k_exc | rfl)
    (case l28 => first | k_is | k_exc | rfl)
    (case c28 => first | k_is | k_exc | rfl)
    (case k28 => first | k_is | k_exc | rfl)
    (case aiNever_asked_of => first | k_is | k_exc | rfl)
    (case aiNoSooner_asked_of => first | k_is | k_exc | rfl)
    (case aiWithin_asked_of => first | k_is | k_exc | rfl)
    (case i29 => first | k_is | k_exc | rfl)
    (case l29 => first | k_is | k_exc | rfl)
    (case c29 => first | k_is | k_exc | rfl)
    (case k29 => first | k_is | k_exc | rfl)
    (case aiNever_goal_on => first | k_is | k_exc | rfl)
    (case i30 => first | k_is | k_exc | rfl)
    (case l30 => first | k_is | k_exc | rfl)
    (case c30 => first | k_is | k_exc | rfl)
    (case k30 => first | k_is | k_exc | rfl)
    (case a31 => first | k_is | k_exc | rfl)
    (case i31 => first | k_is | k_exc | rfl)
    (case l31 => first | k_is | k_exc | rfl)
    (case c31 => first | k_is | k_exc | rfl)
    (case k31 => first | k_is | k_exc | rfl)
    (case a32 => first | k_is | k_exc | rfl)
    (case i32 => first | k_is | k_exc | rfl)
    (case l32 => first | k_is | k_exc | rfl)
    (case c32 => first | k_is | k_exc | rfl)
    (case k32 => first | k_is | k_exc | rfl)
    (case a33 => first | k_is | k_exc | rfl)
    (case i33 => first | k_is | k_exc | rfl)
    (case l33 => first | k_is | k_exc | rfl)
    (case c33 => first | k_is | k_exc | rfl)
    (case k33 => first | k_is | k_exc | rfl)
    (case a34 => first | k_is | k_exc | rfl)
    (case i34 => first | k_is | k_exc | rfl)
    (case l34 => first | k_is | k_exc | rfl)
    (case c34 => first | k_is | k_exc | rfl)
    (case k34 => first | k_is | k_exc | rfl)
    (case a35 => first | k_is | k_exc | rfl)
    (case i35 => first | k_is | k_exc | rfl)
    (case l35 => first | k_is | k_exc | rfl)
    (case c35 => first | k_is | k_exc | rfl)
    (case k35 => first | k_is | k_exc | rfl)
    (case a36 => first | k_is | k_exc | rfl)
    (case i36 => first | k_is | k_exc | rfl)
    (case l36 => first | k_is | k_exc | rfl)
    (case c36 => first | k_is | k_exc | rfl)
    (case k36 => first | k_is | k_exc | rfl)
    (case a37 => first | k_is | k_exc | rfl)
    (case i37 => first | k_is | k_exc | rfl)
    (case l37 => first | k_is | k_exc | rfl)
    (case c37 => first | k_is | k_exc | rfl)
    (case k37 => first | k_is | k_exc | rfl)
    (case a38 => first | k_is | k_exc | rfl)
    (case i38 => first | k_is | k_exc | rfl)
    (case l38 => first | k_is | k_exc | rfl)
    (case c38 => first | k_is | k_exc | rfl)
    (case k38 => first | k_is | k_exc | rfl)
    (case a39 => first | k_is | k_exc | rfl)
    (case i39 => first | k_is | k_exc | rfl)
    (case l39 => first | k_is | k_exc | rfl)
    (case c39 => first | k_is | k_exc | rfl)
    (case k39 => first | k_is | k_exc | rfl)
    (case a40 => first | k_is | k_exc | rfl)
    (case i40 => first | k_is | k_exc | rfl)
    (case l40 => first | k_is | k_exc | rfl)
    (case c40 => first | k_is | k_exc | rfl)
    (case k40 => first | k_is | k_exc | rfl)
    (case a41 => first | k_is | k_exc | rfl)
    (case l41 => first | k_is | k_exc | rfl)
    (case c41 => first | k_is | k_exc | rfl)
    (case k41 => first | k_is | k_exc | rfl)
    (case a42 => first | k_is | k_exc | rfl)
    (case l42 => first | k_is | k_exc | rfl)
    (case c42 => first | k_is | k_exc | rfl)
    (case k42 => first | k_is | k_exc | rfl)
    (case a43 => first | k_is | k_exc | rfl)
    (case l43 => first | k_is | k_exc | rfl)
    (case c43 => first | k_is | k_exc | rfl)
    (case k43 => first | k_is | k_exc | rfl)
    (case a44 => first | k_is | k_exc | rfl)
    (case l44 => first | k_is | k_exc | rfl)
    (case c44 => first | k_is | k_exc | rfl)
    (case k44 => first | k_is | k_exc | rfl)
    (case a45 => first | k_is | k_exc | rfl)
    (case l45 => first | k_is | k_exc | rfl)
    (case c45 => first | k_is | k_exc | rfl)
    (case k45 => first | k_is | k_exc | rfl)
    (case a46 => first | k_is | k_exc | rfl)
    (case l46 => first | k_is | k_exc | rfl)
    (case c46 => first | k_is | k_exc | rfl)
    (case k46 => first | k_is | k_exc | rfl)
    (case a47 => first | k_is | k_exc | rfl)
    (case l47 => first | k_is | k_exc | rfl)
    (case c47 => first | k_is | k_exc | rfl)
    (case k47 => first | k_is | k_exc | rfl)
    (case a48 => first | k_is | k_exc | rfl)
    (case l48 => first | k_is | k_exc | rfl)
    (case c48 => first | k_is | k_exc | rfl)
    (case k48 => first | k_is | k_exc | rfl)
    (case a49 => first | k_is | k_exc | rfl)
    (case l49 => first | k_is | k_exc | rfl)
    (case c49 => first | k_is | k_exc | rfl)
    (case k49 => first | k_is | k_exc | rfl)
    (case a50 => first | k_is | k_exc | rfl)
    (case l50 => first | k_is | k_exc | rfl)
    (case c50 => first | k_is | k_exc | rfl)
    (case k50 => first | k_is | k_exc | rfl)
    (case a51 => first | k_is | k_exc | rfl)
    (case l51 => first | k_is | k_exc | rfl)
    (case c51 => first | k_is | k_exc | rfl)
    (case k51 => first | k_is | k_exc | rfl)
    (case a52 => first | k_is | k_exc | rfl)
    (case l52 => first | k_is | k_exc | rfl)
    (case c52 => first | k_is | k_exc | rfl)
    (case k52 => first | k_is | k_exc | rfl)
    (case a53 => first | k_is | k_exc | rfl)
    (case l53 => first | k_is | k_exc | rfl)
    (case c53 => first | k_is | k_exc | rfl)
    (case k53 => first | k_is | k_exc | rfl)
    (case a54 => first | k_is | k_exc | rfl)
    (case l54 => first | k_is | k_exc | rfl)
    (case c54 => first | k_is | k_exc | rfl)
    (case k54 => first | k_is | k_exc | rfl)
    (case a55 => first | k_is | k_exc | rfl)
    (case l55 => first | k_is | k_exc | rfl)
    (case c55 => first | k_is | k_exc | rfl)
    (case k55 => first | k_is | k_exc | rfl)
    (case a56 => first | k_is | k_exc | rfl)
    (case l56 => first | k_is | k_exc | rfl)
    (case c56 => first | k_is | k_exc | rfl)
    (case k56 => first | k_is | k_exc | rfl)
    (case a57 => first | k_is | k_exc | rfl)
    (case l57 => first | k_is | k_exc | rfl)
    (case c57 => first | k_is | k_exc | rfl)
    (case k57 => first | k_is | k_exc | rfl)
    (case a58 => first | k_is | k_exc | rfl)
    (case l58 => first | k_is | k_exc | rfl)
    (case c58 => first | k_is | k_exc | rfl)
    (case k58 => first | k_is | k_exc | rfl)
    (case a59 => first | k_is | k_exc | rfl)
    (case l59 => first | k_is | k_exc | rfl)
    (case c59 => first | k_is | k_exc | rfl)
    (case k59 => first | k_is | k_exc | rfl)
    (case gBadMachine => first | k_is | k_exc | rfl)
    (case xBadMachine => first | k_is | k_exc | rfl)
    (case kBadMachine => first | k_is | k_exc | rfl)
    (case bBadMachine => first | k_is | k_exc | rfl)
    (case tBadMachine => first | k_is | k_exc | rfl)
    (case iBadMachine => first | k_is | k_exc | rfl)
    (case gTooMany => first | k_is | k_exc | rfl)
    (case xTooMany => first | k_is | k_exc | rfl)
    (case kTooMany => first | k_is | k_exc | rfl)
    (case bTooMany => first | k_is | k_exc | rfl)
    (case tTooMany => first | k_is | k_exc | rfl)
    (case iTooMany => first | k_is | k_exc | rfl)
    (case gNoMark => first | k_is | k_exc | rfl)
    (case xNoMark => first | k_is | k_exc | rfl)
    (case kNoMark => first | k_is | k_exc | rfl)
    (case bNoMark => first | k_is | k_exc | rfl)
    (case tNoMark => first | k_is | k_exc | rfl)
    (case iNoMark => first | k_is | k_exc | rfl)
    (case gClaim => first | k_is | k_exc | rfl)
    (case kClaim => first | k_is | k_exc | rfl)
    (case iClaim => first | k_is | k_exc | rfl)
    (case gLETTERS => first | k_is | k_exc | rfl)
    (case gLONG => first | k_is | k_exc | rfl)
    (case gMOST_DOORS => first | k_is | k_exc | rfl)
    (case gMOST_ROOMS => first | k_is | k_exc | rfl)
    (case gMOST_WATCHES => first | k_is | k_exc | rfl)
    (case zall => first | k_is | k_exc | rfl)
    (case zbool => first | k_is | k_exc | rfl)
    (case zint => first | k_is | k_exc | rfl)
    (case zisinstance => first | k_is | k_exc | rfl)
    (case zlen => first | k_is | k_exc | rfl)
    (case zlist => first | k_is | k_exc | rfl)
    (case zmax => first | k_is | k_exc | rfl)
    (case zrange => first | k_is | k_exc | rfl)
    (case zset => first | k_is | k_exc | rfl)
    (case zstr => first | k_is | k_exc | rfl)
    (case ztuple => first | k_is | k_exc | rfl)
    (case hkk_N_C => first | k_is | k_exc | rfl)
    (case hkk_S_C => first | k_is | k_exc | rfl)
    (case hkk_W_C => first | k_is | k_exc | rfl)
    (case he4_BadMachine => first | k_is | k_exc | rfl)
    (case he4_NoMark => first | k_is | k_exc | rfl)
    (case hs_BadMachine_BadMachine => first | k_is | k_exc | rfl)
    (case hs_NoMark_BadMachine => first | k_is | k_exc | rfl)
    (case hs_NoMark_NoMark => first | k_is | k_exc | rfl)
