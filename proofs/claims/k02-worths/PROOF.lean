import PyProof.Rows.All
import Wide.All
import OpenK.AllK
import Wide.FinOn
import HandS.ForMost
import HandS.Codes
import HandS.Wide
import HandS.WideBits
import HandS.Style
import HandS.NoneIn
import HandS.IsInst
import HandS.Deep
import HandS.Walk
import PySem.Challenge.RW_rootmoves_k02_worths
set_option Elab.async false
set_option linter.all false
set_option maxRecDepth 100000
set_option maxHeartbeats 4000000
namespace My
open PySem
def top (i : Nat) : Stmt := PySem.Challenge.pw_rootmoves_k02_worths.main.body.getD i (.Pass ⟨0, 0, 0, 0⟩)
end My
set_option Elab.async false
set_option linter.all false
set_option maxRecDepth 100000
set_option maxHeartbeats 4000000
/-! ### own rules over the hand layer -/
namespace My
open PySem PySem.Spec PyProof.Rows L2
section
variable {X : Cx}
def CFd (_ j : Int) : Prop := j ≠ 0 ∧ j.natAbs.log2 < 9000
theorem op_fdivA : OpR X (binaryOp .FloorDiv) (rI CFd fun i j => .int (i.fdiv j)) := opI fun _ _ _ _ _ _ _ hc q => floordiv_int hc.1 q (.inl (PyProof.noPylong_of_log2 hc.2))
def CPw (i j : Int) : Prop := 0 ≤ j ∧ (Builtin.Int.intBits i : Int) * j ≤ 2 ^ 27
theorem op_powW : OpR X (binaryOp .Pow) (rI CPw fun i j => .int (i ^ j.toNat)) := opI fun _ _ _ _ _ _ _ hc q => pow_int hc.1 hc.2 q
end
theorem ite_tt {A B : Prop} {c : Bool} (hc : c = true) (h : A) : if c = true then A else B := by rw [if_pos hc]; exact h
theorem ite_ff {A B : Prop} {c : Bool} (hc : c = false) (h : B) : if c = true then A else B := by rw [hc, if_neg Bool.false_ne_true]; exact h
/-! ### calls by keywords alone -/
structure KCal (P : Program) (w : World) (K : PySem.W.Frag) (mg : Str → Option Value) (base : Heap) (k : Nat) (x : Str) (sp : Sp) (n : Nat) (ks : List Str) (gV : List V → List V → List V) : Prop where
  ex : ∃ (f : Addr) (fd : FuncData) (ps : List Str) (g : List Value → List Value → List Value), FnOk P w K mg base CX0 k f fd ps sp ∧ mg x = some (.ref f) ∧ PySem.W.keepIn K (.ref f) = true ∧
    (∀ (s : Shared) (us ws : List Value), K.In s.heap → us.length = n → ws.length = ks.length → BindsTo s fd ⟨us, ks.zip ws⟩ (ps.zip (g us ws))) ∧
    (∀ {vs : List V} {us : List Value} {zs : List V} {ws : List Value}, Vals vs us → Vals zs ws → Vals (gV vs zs) (g us ws))
def tCk (sp : Sp) (n m : Nat) (gV : List V → List V → List V) (E : XK) (t tk : TA) : TE := fun σ H Q => t σ H fun vs H1 => tk σ H1 fun zs H2 => vs.length = n ∧ zs.length = m ∧ sp (gV vs zs) H2 Q E
section
variable {X : Cx} {k j n : Nat} {x : Str} {ks : List Str} {sp : Sp} {gV : List V → List V → List V} {p pos : Pos} {e : Expr} {es : List Expr} {kws : List Keyword} {t tk : TA}
theorem run_ck {pins : List (Addr × Obj)} {σ : L2.St} {H : Hp} {s : Shared} {Q : VK} {us ws : List Value} {vs zs : List V} {f : Addr} {fd : FuncData} {ps : List Str} {g : List Value → List Value → List Value}
    (F : FnOk X.prog X.w X.K X.mg X.base CX0 k f fd ps sp) (hr : Room k X.A)
    (to : ∀ (s : Shared) (us ws : List Value), X.K.In s.heap → us.length = n → ws.length = ks.length → BindsTo s fd ⟨us, ks.zip ws⟩ (ps.zip (g us ws)))
    (rel : ∀ {vs : List V} {us : List Value} {zs : List V} {ws : List Value}, Vals vs us → Vals zs ws → Vals (gV vs zs) (g us ws))
    (I : Inv X pins σ H s) (r : Vals vs us) (rz : Vals zs ws) (l1 : vs.length = n) (l2 : zs.length = ks.length) (h : sp (gV vs zs) H Q E0) : wpAny (model X.prog X.w) X.A (call (.ref f) us (ks.zip ws)) (EP X pins σ Q) X.xe s := by
  have r2 := rel r rz
  refine wpAny_call (codeAny_mono (F.run X.A X.stack s H ⟨us, ks.zip ws⟩ (g us ws) (gV vs zs) Q E0 hr I.env0 (to s us ws I.kIn (by rw [← r.length]; exact l1) (by rw [← rz.length]; exact l2)) r2 h) fun r s' hq => ?_)
  cases r with
  | error e => exact hq.elim
  | ok fl =>
    cases fl with
    | ret u => exact I.after hq
    | next => exact False.elim hq
    | brk => exact False.elim hq
    | cont => exact False.elim hq
theorem pe_ck0 (c : KCal X.prog X.w X.K X.mg X.base k x sp 0 ks gV) (hr : Room j X.A) (hk : k ≤ j) (hg : Gl X x) (hkw : PK X kws tk)
    (hall : (backToKw pos (keywordEach kws X.env)).all (·.1.isSome) = true := by rfl) (hks : (backToKw pos (keywordEach kws X.env)).filterMap (·.1) = ks := by rfl) (hdb : (x == ("__debug__" : Str)) = false := by decide)
    (hpl : ((backTo pos (starEach [] X.env)).any (·.1) || (backToKw pos (keywordEach kws X.env)).any (·.1.isNone)) = false := by rfl) :
    PE X (.Call (.Name x p) [] kws pos) (tCk sp 0 ks.length gV E0 tNil tk) := by
  obtain ⟨f, fd, ps, g, F, hm, kp, to, rel⟩ := c.ex
  refine ⟨fun pins s σ H Q I h => ?_⟩
  refine wpAny_Call_Name_kw (ld_glob I hg hm ?_ hdb)
  refine PySem.W.callWith_KW0 (h₀ := X.base) I.ok.mod.kin kp hall ?_ hpl
  refine thn (hkw.run pos pins s σ H _ I h) fun ws s2 ⟨zs, H2, I2, rz, l1, l2, q2⟩ => ⟨I2.kIn, ?_⟩
  rw [hks]
  exact run_ck (us := []) (vs := []) F (hr.mono hk) to rel I2 .nil rz rfl l2 q2
theorem pe_ck (c : KCal X.prog X.w X.K X.mg X.base k x sp n ks gV) (hr : Room j X.A) (hk : k ≤ j) (hg : Gl X x) (ha : PA X (e :: es) t) (hkw : PK X kws tk)
    (hall : (backToKw pos (keywordEach kws X.env)).all (·.1.isSome) = true := by rfl) (hks : (backToKw pos (keywordEach kws X.env)).filterMap (·.1) = ks := by rfl) (hdb : (x == ("__debug__" : Str)) = false := by decide)
    (he : starEach (e :: es) X.env = (false, eval e X.env) :: starEach es X.env := by rfl) (hpl : ((backTo pos (starEach (e :: es) X.env)).any (·.1) || (backToKw pos (keywordEach kws X.env)).any (·.1.isNone)) = false := by rfl) :
    PE X (.Call (.Name x p) (e :: es) kws pos) (tCk sp n ks.length gV E0 t tk) := by
  obtain ⟨f, fd, ps, g, F, hm, kp, to, rel⟩ := c.ex
  refine ⟨fun pins s σ H Q I h => ?_⟩
  refine wpAny_Call_Name_kw (ld_glob I hg hm ?_ hdb)
  refine PySem.W.callWith_KW (h₀ := X.base) I.ok.mod.kin kp hall (thn (ha.run pos pins s σ H _ I h) fun us s1 ⟨vs, H1, I1, r, q⟩ => ?_) hpl he
  refine thn (hkw.run pos pins s1 σ H1 _ I1 q) fun ws s2 ⟨zs, H2, I2, rz, l1, l2, q2⟩ => ⟨I2.kIn, ?_⟩
  rw [hks]
  exact run_ck F (hr.mono hk) to rel I2 r rz l1 l2 q2
end
end My

/-! ### fractions, in plain Lean -/
namespace My
/-- the lowest form of a fraction: what its top and its bottom become -/
def sg (b : Int) : Int := if b < 0 then -1 else 1
def shr (t b : Int) : Int := sg b * (Int.gcd t b : Nat)
def lowT (t b : Int) : Int := t.fdiv (shr t b)
def lowB (t b : Int) : Int := b.fdiv (shr t b)
theorem gcd_pos {t b : Int} (hb : b ≠ 0) : 0 < Int.gcd t b := Int.gcd_pos_of_ne_zero_right t hb
theorem sg_sq (b : Int) : sg b * sg b = 1 := by unfold sg; split <;> rfl
theorem shr_ne {t b : Int} (hb : b ≠ 0) : shr t b ≠ 0 := by
  have h := gcd_pos (t := t) hb
  unfold shr sg
  split <;> omega
theorem shr_dvd_t (t b : Int) : shr t b ∣ t := by
  unfold shr sg
  split
  · rw [Int.neg_mul, Int.one_mul, Int.neg_dvd]; exact Int.gcd_dvd_left t b
  · rw [Int.one_mul]; exact Int.gcd_dvd_left t b
theorem shr_dvd_b (t b : Int) : shr t b ∣ b := by
  unfold shr sg
  split
  · rw [Int.neg_mul, Int.one_mul, Int.neg_dvd]; exact Int.gcd_dvd_right t b
  · rw [Int.one_mul]; exact Int.gcd_dvd_right t b
theorem low_t {t b : Int} (hb : b ≠ 0) : lowT t b * shr t b = t := by
  unfold lowT
  rw [Int.fdiv_eq_ediv_of_dvd (shr_dvd_t t b)]
  exact Int.ediv_mul_cancel (shr_dvd_t t b)
theorem low_b {t b : Int} (hb : b ≠ 0) : lowB t b * shr t b = b := by
  unfold lowB
  rw [Int.fdiv_eq_ediv_of_dvd (shr_dvd_b t b)]
  exact Int.ediv_mul_cancel (shr_dvd_b t b)
theorem shr_abs {t b : Int} : (shr t b).natAbs = Int.gcd t b := by
  unfold shr sg
  split <;> simp
theorem lowB_pos {t b : Int} (hb : b ≠ 0) : 0 < lowB t b := by
  have h := low_b (t := t) hb
  have g := gcd_pos (t := t) hb
  unfold shr sg at h
  split at h
  · rename_i hneg
    rcases Int.lt_trichotomy 0 (lowB t b) with h1 | h1 | h1
    · exact h1
    · rw [← h1] at h; simp at h; omega
    · exfalso
      have : 0 < lowB t b * (-1 * (Int.gcd t b : Int)) := by
        rw [Int.neg_mul, Int.one_mul]
        exact Int.mul_pos_of_neg_of_neg h1 (by omega)
      omega
  · rename_i hpos
    rcases Int.lt_trichotomy 0 (lowB t b) with h1 | h1 | h1
    · exact h1
    · rw [← h1] at h; simp at h; omega
    · exfalso
      have : lowB t b * (1 * (Int.gcd t b : Int)) < 0 := by
        rw [Int.one_mul]
        exact Int.mul_neg_of_neg_of_pos h1 (by omega)
      omega
theorem lowT_abs {t b : Int} (hb : b ≠ 0) : (lowT t b).natAbs ≤ t.natAbs := by
  have h := congrArg Int.natAbs (low_t (t := t) hb)
  rw [Int.natAbs_mul, shr_abs] at h
  have g := gcd_pos (t := t) hb
  rw [← h]
  exact Nat.le_mul_of_pos_right _ g
theorem lowB_abs {t b : Int} (hb : b ≠ 0) : (lowB t b).natAbs ≤ b.natAbs := by
  have h := congrArg Int.natAbs (low_b (t := t) hb)
  rw [Int.natAbs_mul, shr_abs] at h
  have g := gcd_pos (t := t) hb
  rw [← h]
  exact Nat.le_mul_of_pos_right _ g
theorem low_coprime {t b : Int} (hb : b ≠ 0) : Int.gcd (lowT t b) (lowB t b) = 1 := by
  have g := gcd_pos (t := t) hb
  have h : Int.gcd (lowT t b * shr t b) (lowB t b * shr t b) = Int.gcd t b := by rw [low_t hb, low_b hb]
  rw [Int.gcd_mul_right, shr_abs] at h
  exact Nat.eq_of_mul_eq_mul_right g (by omega)
theorem dvd_of_mul {a b d : Int} (g : Int.gcd a b = 1) (h : b ∣ a * d) : b ∣ d := by
  have h1 : b.natAbs ∣ a.natAbs * d.natAbs := by rw [← Int.natAbs_mul]; exact Int.natAbs_dvd_natAbs.mpr h
  have c : Nat.Coprime b.natAbs a.natAbs := by
    have g' : Nat.gcd a.natAbs b.natAbs = 1 := g
    show Nat.gcd b.natAbs a.natAbs = 1
    rw [Nat.gcd_comm]; exact g'
  exact Int.natAbs_dvd_natAbs.mp (c.dvd_of_dvd_mul_left h1)
/-- a lowest form is told by its worth -/
theorem lowest_eq {a b c d : Int} (hb : 0 < b) (hd : 0 < d) (g1 : Int.gcd a b = 1) (g2 : Int.gcd c d = 1) (h : a * d = c * b) : a = c ∧ b = d := by
  have e1 : b ∣ d := by
    have : b ∣ a * d := by rw [h]; exact Int.dvd_mul_left c b
    exact dvd_of_mul g1 this
  have e2 : d ∣ b := by
    have : d ∣ c * b := by rw [← h]; exact Int.dvd_mul_left a d
    exact dvd_of_mul g2 this
  have e : b = d := Int.dvd_antisymm (by omega) (by omega) e1 e2
  subst e
  exact ⟨Int.eq_of_mul_eq_mul_right (by omega) h, rfl⟩
theorem low_unique {t b c d : Int} (hb : b ≠ 0) (hd : 0 < d) (g : Int.gcd c d = 1) (h : t * d = c * b) : lowT t b = c ∧ lowB t b = d := by
  refine lowest_eq (lowB_pos hb) hd (low_coprime hb) g ?_
  have n := shr_ne (t := t) hb
  have h1 := low_t (t := t) hb
  have h2 := low_b (t := t) hb
  apply Int.eq_of_mul_eq_mul_right n
  calc lowT t b * d * shr t b = (lowT t b * shr t b) * d := by rw [Int.mul_right_comm]
    _ = t * d := by rw [h1]
    _ = c * b := h
    _ = c * (lowB t b * shr t b) := by rw [h2]
    _ = c * lowB t b * shr t b := by rw [Int.mul_assoc]
theorem low_congr {t b c d : Int} (hb : b ≠ 0) (hd : d ≠ 0) (h : t * d = c * b) : lowT t b = lowT c d ∧ lowB t b = lowB c d := by
  refine low_unique hb (lowB_pos hd) (low_coprime hd) ?_
  have n := shr_ne (t := c) hd
  apply Int.eq_of_mul_eq_mul_right n
  have h1 := low_t (t := c) hd
  have h2 := low_b (t := c) hd
  calc t * lowB c d * shr c d = t * (lowB c d * shr c d) := Int.mul_assoc _ _ _
    _ = t * d := by rw [h2]
    _ = c * b := h
    _ = (lowT c d * shr c d) * b := by rw [h1]
    _ = lowT c d * b * shr c d := by rw [Int.mul_right_comm]
theorem low_id {t b : Int} (hb : 0 < b) (g : Int.gcd t b = 1) : lowT t b = t ∧ lowB t b = b := low_unique (by omega) hb g (by rw [])
end My

namespace My
open PySem PySem.Spec PyProof.Rows L2
open C8 (Cal pe_c pe_gc)
/-- a written fraction, its two whole numbers -/
def frV (q : Int × Int) : List V := [.int q.1, .int q.2]
def FrAt (K : PySem.W.Frag) (H : Hp) (v : V) (q : Int × Int) : Prop := ∃ p, v = .ref p ∧ H p = some (.tup (frV q))
def low (q : Int × Int) : Int × Int := (lowT q.1 q.2, lowB q.1 q.2)
def addQ (q r : Int × Int) : Int × Int := low (q.1 * r.2 + r.1 * q.2, q.2 * r.2)
def mulQ (q r : Int × Int) : Int × Int := low (q.1 * r.1, q.2 * r.2)
/-- sizes: below 2 ^ n -/
def Sz (n : Nat) (x : Int) : Prop := x.natAbs < 2 ^ n
theorem Sz.mono {n m : Nat} {x : Int} (h : Sz n x) (l : n ≤ m) : Sz m x := Nat.lt_of_lt_of_le h (Nat.pow_le_pow_right (by decide) l)
theorem Sz.mul {n m : Nat} {x y : Int} (h : Sz n x) (l : Sz m y) : Sz (n + m) (x * y) := wide_lt h l
theorem Sz.add {n : Nat} {x y : Int} (h : Sz n x) (l : Sz n y) : Sz (n + 1) (x + y) := by
  unfold Sz at *
  have : (x + y).natAbs ≤ x.natAbs + y.natAbs := Int.natAbs_add_le x y
  rw [Nat.pow_succ]
  omega
theorem Sz.le {n : Nat} {x y : Int} (h : Sz n x) (l : y.natAbs ≤ x.natAbs) : Sz n y := Nat.lt_of_le_of_lt l h
theorem Sz.cmul {n m : Nat} {x y : Int} (h : Sz n x) (l : Sz m y) (hn : 0 < n) (hm : 0 < m) (b : n + m ≤ 1000000) : CMulW x y := wide_mul h l hn hm b
theorem Sz.log {n : Nat} {x : Int} (h : Sz n x) (hn : 0 < n) (b : n ≤ 9000) : x.natAbs.log2 < 9000 := Nat.lt_of_lt_of_le (PySem.Flt.log2_lt_of hn h) b
theorem cmul_small {x y : Int} (h : x.natAbs < 2 ^ 60) (l : y.natAbs < 2 ^ 60) : CMulW x y := wide_mul h l (by decide) (by decide) (by decide)
/-- a lowest form: bottom above 0, sizes -/
structure OkQ (n : Nat) (q : Int × Int) : Prop where
  pos : 0 < q.2
  t : Sz n q.1
  b : Sz n q.2
theorem OkQ.mono {n m : Nat} {q : Int × Int} (h : OkQ n q) (l : n ≤ m) : OkQ m q := ⟨h.pos, h.t.mono l, h.b.mono l⟩
theorem low_ok {n : Nat} {q : Int × Int} (hb : q.2 ≠ 0) (ht : Sz n q.1) (hB : Sz n q.2) : OkQ n (low q) := ⟨lowB_pos hb, ht.le (lowT_abs hb), hB.le (lowB_abs hb)⟩
theorem add_ok {n m : Nat} {q r : Int × Int} (h : OkQ n q) (l : OkQ m r) : OkQ (n + m + 1) (addQ q r) := by
  refine low_ok ?_ ?_ ?_
  · exact Int.ne_of_gt (Int.mul_pos h.pos l.pos)
  · refine Sz.add (h.t.mul l.b) ?_
    have := l.t.mul h.b
    rwa [Nat.add_comm] at this
  · exact (h.b.mul l.b).mono (by omega)
theorem mul_ok {n m : Nat} {q r : Int × Int} (h : OkQ n q) (l : OkQ m r) : OkQ (n + m) (mulQ q r) := low_ok (Int.ne_of_gt (Int.mul_pos h.pos l.pos)) (h.t.mul l.t) (h.b.mul l.b)

theorem sz2 {a b : V} : [a, b].length ≤ sizeLine := by show 2 ≤ sizeLine; decide
theorem sz4 {a b c d : V} : [a, b, c, d].length ≤ sizeLine := by show 4 ≤ sizeLine; decide
theorem sz5 {a b c d e : V} : [a, b, c, d, e].length ≤ sizeLine := by show 5 ≤ sizeLine; decide
theorem sz3 {a b c : V} : [a, b, c].length ≤ sizeLine := by show 3 ≤ sizeLine; decide
/-- small whole numbers -/
def Bd (n : Nat) (x : Int) : Prop := x.natAbs ≤ n
theorem Bd.mul {n m : Nat} {x y : Int} (h : Bd n x) (l : Bd m y) : Bd (n * m) (x * y) := by
  unfold Bd at *
  rw [Int.natAbs_mul]
  exact Nat.mul_le_mul h l
theorem Bd.add {n m : Nat} {x y : Int} (h : Bd n x) (l : Bd m y) : Bd (n + m) (x + y) := by
  unfold Bd at *
  omega
theorem Bd.sub {n m : Nat} {x y : Int} (h : Bd n x) (l : Bd m y) : Bd (n + m) (x - y) := by
  unfold Bd at *
  omega
theorem Bd.cm {n m : Nat} {x y : Int} (h : Bd n x) (l : Bd m y) (hn : n < 2 ^ 60 := by decide) (hm : m < 2 ^ 60 := by decide) : CMulW x y := cmul_small (Nat.lt_of_le_of_lt h hn) (Nat.lt_of_le_of_lt l hm)
theorem bd_lit {n : Nat} {x : Int} (h : x.natAbs ≤ n := by decide) : Bd n x := h
/-- what tells by being 0 that two roots are alike -/
def toldOf : List Int → Int
  | [_, _] => 1
  | [c, b, _] => b * b - 4 * c
  | [c, b, a, _] => 18 * a * b * c - 4 * a * a * a * c + a * a * b * b - 4 * b * b * b - 27 * c * c
  | [c, _, a, _, _] => c * (a * a - 4 * c)
  | _ => 0
/-- a polynomial that is good -/
structure GoodP (ns : List Int) : Prop where
  l2 : 2 ≤ ns.length
  l5 : ns.length ≤ 5
  sm : ∀ x ∈ ns, Bd 100 x
  last : atI ns (-1) = some 1
  mid1 : ns.length = 5 → ns[1]? = some 0
  mid3 : ns.length = 5 → ns[3]? = some 0
  told : toldOf ns ≠ 0
structure Txt (K : PySem.W.Frag) (mg : Str → Option Value) : Prop where
  z_abs : mg "abs" = none
  z_len : mg "len" = none
  z_range : mg "range" = none
  z_max : mg "max" = none
  z_enumerate : mg "enumerate" = none
  z_isinstance : mg "isinstance" = none
  z_int : mg "int" = none
  z_bool : mg "bool" = none
  z_tuple : mg "tuple" = none
  z_list : mg "list" = none
  mg_MOST : ∃ u, mg "MOST" = some u ∧ RelV (.int 100) u
section
variable {P : Program} {w : World} {K : PySem.W.Frag} {mg : Str → Option Value} {base : Heap}

abbrev s_divisor : Stmt := top 6
abbrev N_divisor : List Str := ["one", "other"]
abbrev P_divisor : List Str := ["one", "other"]
theorem sc_divisor : FnScope N_divisor ["one", "other"] (defScope s_divisor) := ⟨rfl, rfl, rfl, by decide +kernel, rfl, by decide +kernel, by decide +kernel⟩

def sp_divisor : Sp := fun vs H Q _ => ∃ a b : Int, vs = [.int a, .int b] ∧ Q (.int (Int.gcd a b : Nat)) H
theorem gcd_fmod (x y : Int) : Int.gcd y (x.fmod y) = Int.gcd x y := by
  have : x.fmod y = x - y * x.fdiv y := Int.fmod_def x y
  rw [this, Int.gcd_comm x y]
  have e : x - y * x.fdiv y = x + y * (- x.fdiv y) := by rw [Int.mul_neg]; rfl
  rw [e, Int.gcd_add_mul_left_right]
theorem fmod_lt {x y : Int} (hy : y ≠ 0) : (x.fmod y).natAbs < y.natAbs := by
  rcases Int.lt_or_gt_of_ne hy with h | h
  · have h1 : x.fmod y = -((-x).fmod (-y)) := by rw [Int.neg_fmod_neg]; simp
    have a := Int.fmod_nonneg_of_pos (-x) (show 0 < -y by omega)
    have b := Int.fmod_lt_of_pos (-x) (show 0 < -y by omega)
    omega
  · have a := Int.fmod_nonneg_of_pos x h
    have b := Int.fmod_lt_of_pos x h
    omega
theorem ok_divisor (T : Txt K mg) {f : Addr} {fd : FuncData} (F : L2.Fun K "divisor" "divisor" s_divisor f fd) : FnOk P w K mg base CX0 1 f fd ["one", "other"] sp_divisor := by
  refine F.ok sc_divisor (fun vs H Q E h => ?_) (fun cdv A outer s H vs Q E hr h => ?_)
  · obtain ⟨a, b, rfl, _⟩ := h
    rfl
  · obtain ⟨a, b, rfl, k⟩ := h
    refine ⟨_, (pss_cons (ps_while PassesOwn.never (pt_cmpR op_ne (pv 1) pe_int (nomark _)) (pss_one (ps_par (i := 0) (j := 1) (by rfl) sc_divisor.nd rfl rfl (by decide) rfl rfl (pa_cons (pv 1) (pa_cons (pe_op op_modN (pv 0) (pv 1)) pa_nil)) (by rfl))))
      (pss_one (ps_ret (pe_callB call_abs (by rfl) T.z_abs (by decide +kernel) (pa_cons (pv 0) pa_nil))))), ?_⟩
    refine while_by (fun σ H' => H' = H ∧ ∃ x y : Int, σ = [some (.int x), some (.int y)] ∧ Int.gcd x y = Int.gcd a b) (fun σ _ => match σ with | [_, some (.int y)] => y.natAbs | _ => 0) ⟨rfl, a, b, rfl, rfl⟩ ?_ ?_
    · rintro σ H' ⟨rfl, x, y, rfl, hg⟩
      refine ⟨_, rfl, rfl, _, rfl, ?_⟩
      refine ite2 (fun hc => ?_) (fun hc => ?_)
      · have hy : y ≠ 0 := by simpa using hc
        refine ⟨_, rfl, _, rfl, _, rfl, _, _, rfl, rfl, hy, _, _, rfl, ?_⟩
        exact ⟨⟨rfl, _, _, rfl, (gcd_fmod x y).trans hg⟩, fmod_lt hy⟩
      · have hy : y = 0 := by simpa using hc
        refine ⟨_, rfl, _, rfl, ?_⟩
        subst hy
        have e : (if x < 0 then -x else x) = ((Int.gcd a b : Nat) : Int) := by
          rw [← hg]
          rw [Int.gcd_zero_right]
          split <;> omega
        show Q (.int (if x < 0 then -x else x)) _
        rw [e]
        exact k
    · rintro σ H Q Q' hq ⟨v, h1, h2, k, h3, h4⟩
      exact ⟨v, h1, h2, k, h3, hq _ _ h4⟩

abbrev s_lowest : Stmt := top 7
abbrev N_lowest : List Str := ["top", "bottom", "share"]
abbrev P_lowest : List Str := ["top", "bottom"]
theorem sc_lowest : FnScope N_lowest ["top", "bottom"] (defScope s_lowest) := ⟨rfl, rfl, rfl, by decide +kernel, rfl, by decide +kernel, by decide +kernel⟩

def sp_lowest (K : PySem.W.Frag) : Sp := fun vs H Q _ => ∃ q : Int × Int, vs = [.int q.1, .int q.2] ∧ q.2 ≠ 0 ∧ Sz 8000 q.2 ∧ ∀ H' p, Same H H' → H' p = some (.tup (frV (low q))) → H p = none → Q (.ref p) H'
theorem ok_lowest (T : Txt K mg) {f : Addr} {fd : FuncData} (F : L2.Fun K "lowest" "lowest" s_lowest f fd) (h_divisor : Cal P w K mg base 1 "divisor" sp_divisor []) : FnOk P w K mg base CX0 2 f fd ["top", "bottom"] (sp_lowest K) := by
  refine F.ok sc_lowest (fun vs H Q E h => ?_) (fun cdv A outer s H vs Q E hr h => ?_)
  · obtain ⟨q, rfl, _⟩ := h
    rfl
  · obtain ⟨⟨t, b⟩, rfl, hb, hz, k⟩ := h
    refine ⟨_, (pss_cons (ps_set (i := 2) sc_lowest.nd rfl (by first | exact Or.inl rfl | exact Or.inr rfl) (pe_c h_divisor hr (by decide) rfl (pa_cons (pv 0) (pa_cons (pv 1) pa_nil))))
      (pss_cons (ps_if (pt_cmpR op_lt (pv 1) pe_int (nomark _)) (pss_one (ps_set (i := 2) sc_lowest.nd rfl (by first | exact Or.inl rfl | exact Or.inr rfl) (pe_op op_sub pe_int (pv 2)))) pss_nil)
      (pss_one (ps_ret (pe_tup (pa_cons (pe_op op_fdivA (pv 0) (pv 2)) (pa_cons (pe_op op_fdivA (pv 1) (pv 2)) pa_nil))))))), ?_⟩
    have hb : b ≠ 0 := hb
    refine ⟨_, rfl, _, rfl, t, b, rfl, ?_⟩
    refine ⟨_, rfl, _, _, rfl, rfl, _, rfl, ?_⟩
    have sgo : shr t b ≠ 0 ∧ (shr t b).natAbs.log2 < 9000 := by
      refine ⟨shr_ne hb, ?_⟩
      have : Sz 8000 (shr t b) := by
        unfold Sz
        rw [shr_abs]
        have : Int.gcd t b ≤ b.natAbs := Nat.le_of_dvd (by omega) (Int.gcd_dvd_natAbs_right t b)
        exact Nat.lt_of_le_of_lt this hz
      exact this.log (by decide) (by decide)
    refine ite2 (fun hc => ?_) (fun hc => ?_)
    · have hn : b < 0 := by simpa using hc
      have e : (0 : Int) - ((Int.gcd t b : Nat) : Int) = shr t b := by unfold shr sg; rw [if_pos hn]; omega
      have c : ∀ i, CFd i ((0 : Int) - ((Int.gcd t b : Nat) : Int)) := fun i => by rw [e]; exact sgo
      refine ⟨_, rfl, _, _, rfl, rfl, ?_⟩
      refine ⟨_, rfl, _, rfl, _, _, rfl, rfl, c _, _, rfl, _, rfl, _, _, rfl, rfl, c _, sz2, fun p hp => ?_⟩
      refine k _ p (fun b o q => by rw [upd_ne (ne_of_none q hp)]; exact q) ?_ hp
      rw [upd_same]
      unfold frV low lowT lowB
      rw [← e]
    · have hn : ¬ b < 0 := by simpa using hc
      have e : ((Int.gcd t b : Nat) : Int) = shr t b := by unfold shr sg; rw [if_neg hn]; omega
      have c : ∀ i, CFd i ((Int.gcd t b : Nat) : Int) := fun i => by rw [e]; exact sgo
      refine ⟨_, rfl, _, rfl, _, _, rfl, rfl, c _, _, rfl, _, rfl, _, _, rfl, rfl, c _, sz2, fun p hp => ?_⟩
      refine k _ p (fun b o q => by rw [upd_ne (ne_of_none q hp)]; exact q) ?_ hp
      rw [upd_same]
      unfold frV low lowT lowB
      rw [← e]

abbrev s_plus_of : Stmt := top 8
abbrev N_plus_of : List Str := ["one", "other"]
abbrev P_plus_of : List Str := ["one", "other"]
theorem sc_plus_of : FnScope N_plus_of ["one", "other"] (defScope s_plus_of) := ⟨rfl, rfl, rfl, by decide +kernel, rfl, by decide +kernel, by decide +kernel⟩

def sp_plus_of (K : PySem.W.Frag) : Sp := fun vs H Q _ => ∃ (v u : V) (q r : Int × Int) (n m : Nat), vs = [v, u] ∧ FrAt K H v q ∧ FrAt K H u r ∧ OkQ n q ∧ OkQ m r ∧ n + m ≤ 8000 ∧ 0 < n ∧ 0 < m ∧ ∀ H' p, Same H H' → H' p = some (.tup (frV (addQ q r))) → H p = none → Q (.ref p) H'
theorem ok_plus_of (T : Txt K mg) {f : Addr} {fd : FuncData} (F : L2.Fun K "plus_of" "plus_of" s_plus_of f fd) (h_lowest : Cal P w K mg base 2 "lowest" (sp_lowest K) []) : FnOk P w K mg base CX0 3 f fd ["one", "other"] (sp_plus_of K) := by
  refine F.ok sc_plus_of (fun vs H Q E h => ?_) (fun cdv A outer s H vs Q E hr h => ?_)
  · obtain ⟨v, u, q, r, n, m, rfl, _⟩ := h
    rfl
  · obtain ⟨v, u, q, r, n, m, rfl, ⟨pa, rfl, ha⟩, ⟨pb, rfl, hb⟩, oq, or, nm, n0, m0, k⟩ := h
    refine ⟨_, (pss_one (ps_ret (pe_c h_lowest hr (by decide) rfl (pa_cons (pe_op op_add (pe_op op_mulW (pe_ix ix_tup (pv 0) pe_int (fun _ _ => rfl)) (pe_ix ix_tup (pv 1) pe_int (fun _ _ => rfl))) (pe_op op_mulW (pe_ix ix_tup (pv 1) pe_int (fun _ _ => rfl)) (pe_ix ix_tup (pv 0) pe_int (fun _ _ => rfl)))) (pa_cons (pe_op op_mulW (pe_ix ix_tup (pv 0) pe_int (fun _ _ => rfl)) (pe_ix ix_tup (pv 1) pe_int (fun _ _ => rfl))) pa_nil))))), ?_⟩
    have ix0 : ∀ z : Int × Int, atI (frV z) 0 = some (V.int z.1) := fun z => rfl
    have ix1 : ∀ z : Int × Int, atI (frV z) 1 = some (V.int z.2) := fun z => rfl
    have ha := SqT.of (K := K) ha
    have hb := SqT.of (K := K) hb
    have c1 : CMulW q.1 r.2 := oq.t.cmul or.b n0 m0 (by omega)
    have c2 : CMulW r.1 q.2 := or.t.cmul oq.b m0 n0 (by omega)
    have c3 : CMulW q.2 r.2 := oq.b.cmul or.b n0 m0 (by omega)
    refine ⟨_, rfl, pa, _, _, _, rfl, rfl, ha, ix0 q, _, rfl, pb, _, _, _, rfl, rfl, hb, ix1 r, _, _, rfl, rfl, c1, _, rfl, pb, _, _, _, rfl, rfl, hb, ix0 r, _, rfl, pa, _, _, _, rfl, rfl, ha, ix1 q, _, _, rfl, rfl, c2, _, _, rfl, rfl,
      _, rfl, pa, _, _, _, rfl, rfl, ha, ix1 q, _, rfl, pb, _, _, _, rfl, rfl, hb, ix1 r, _, _, rfl, rfl, c3, ?_⟩
    exact ⟨(q.1 * r.2 + r.1 * q.2, q.2 * r.2), rfl, Int.ne_of_gt (Int.mul_pos oq.pos or.pos), (oq.b.mul or.b).mono (by omega), fun H' p sm hp hn => k H' p sm hp hn⟩

abbrev s_times_of : Stmt := top 9
abbrev N_times_of : List Str := ["one", "other"]
abbrev P_times_of : List Str := ["one", "other"]
theorem sc_times_of : FnScope N_times_of ["one", "other"] (defScope s_times_of) := ⟨rfl, rfl, rfl, by decide +kernel, rfl, by decide +kernel, by decide +kernel⟩

def sp_times_of (K : PySem.W.Frag) : Sp := fun vs H Q _ => ∃ (v u : V) (q r : Int × Int) (n m : Nat), vs = [v, u] ∧ FrAt K H v q ∧ FrAt K H u r ∧ OkQ n q ∧ OkQ m r ∧ n + m ≤ 8000 ∧ 0 < n ∧ 0 < m ∧ ∀ H' p, Same H H' → H' p = some (.tup (frV (mulQ q r))) → H p = none → Q (.ref p) H'
theorem ok_times_of (T : Txt K mg) {f : Addr} {fd : FuncData} (F : L2.Fun K "times_of" "times_of" s_times_of f fd) (h_lowest : Cal P w K mg base 2 "lowest" (sp_lowest K) []) : FnOk P w K mg base CX0 3 f fd ["one", "other"] (sp_times_of K) := by
  refine F.ok sc_times_of (fun vs H Q E h => ?_) (fun cdv A outer s H vs Q E hr h => ?_)
  · obtain ⟨v, u, q, r, n, m, rfl, _⟩ := h
    rfl
  · obtain ⟨v, u, q, r, n, m, rfl, ⟨pa, rfl, ha⟩, ⟨pb, rfl, hb⟩, oq, or, nm, n0, m0, k⟩ := h
    refine ⟨_, (pss_one (ps_ret (pe_c h_lowest hr (by decide) rfl (pa_cons (pe_op op_mulW (pe_ix ix_tup (pv 0) pe_int (fun _ _ => rfl)) (pe_ix ix_tup (pv 1) pe_int (fun _ _ => rfl))) (pa_cons (pe_op op_mulW (pe_ix ix_tup (pv 0) pe_int (fun _ _ => rfl)) (pe_ix ix_tup (pv 1) pe_int (fun _ _ => rfl))) pa_nil))))), ?_⟩
    have ix0 : ∀ z : Int × Int, atI (frV z) 0 = some (V.int z.1) := fun z => rfl
    have ix1 : ∀ z : Int × Int, atI (frV z) 1 = some (V.int z.2) := fun z => rfl
    have ha := SqT.of (K := K) ha
    have hb := SqT.of (K := K) hb
    have c1 : CMulW q.1 r.1 := oq.t.cmul or.t n0 m0 (by omega)
    have c3 : CMulW q.2 r.2 := oq.b.cmul or.b n0 m0 (by omega)
    refine ⟨_, rfl, pa, _, _, _, rfl, rfl, ha, ix0 q, _, rfl, pb, _, _, _, rfl, rfl, hb, ix0 r, _, _, rfl, rfl, c1, _, rfl, pa, _, _, _, rfl, rfl, ha, ix1 q, _, rfl, pb, _, _, _, rfl, rfl, hb, ix1 r, _, _, rfl, rfl, c3, ?_⟩
    exact ⟨(q.1 * r.1, q.2 * r.2), rfl, Int.ne_of_gt (Int.mul_pos oq.pos or.pos), (oq.b.mul or.b).mono (by omega), fun H' p sm hp hn => k H' p sm hp hn⟩

abbrev s_told_by : Stmt := top 10
abbrev N_told_by : List Str := ["polynomial", "c", "b", "a"]
abbrev P_told_by : List Str := ["polynomial"]
theorem sc_told_by : FnScope N_told_by ["polynomial"] (defScope s_told_by) := ⟨rfl, rfl, rfl, by decide +kernel, rfl, by decide +kernel, by decide +kernel⟩

def sp_told_by (K : PySem.W.Frag) : Sp := fun vs H Q _ => ∃ (a : Addr) (ns : List Int), vs = [.ref a] ∧ SqL K H a (ns.map V.int) ∧ 2 ≤ ns.length ∧ ns.length ≤ 5 ∧ (∀ x ∈ ns, Bd 100 x) ∧ ∀ H', Same H H' → Q (.int (toldOf ns)) H'
theorem same_new {H : Hp} {p : Addr} {o : HO} (hp : H p = none) : Same H (upd H p o) := fun b u q => by rw [upd_ne (ne_of_none q hp)]; exact q
theorem ok_told_by (T : Txt K mg) {f : Addr} {fd : FuncData} (F : L2.Fun K "told_by" "told_by" s_told_by f fd) : FnOk P w K mg base CX0 1 f fd ["polynomial"] (sp_told_by K) := by
  refine F.ok sc_told_by (fun vs H Q E h => ?_) (fun cdv A outer s H vs Q E hr h => ?_)
  · obtain ⟨a, ns, rfl, _⟩ := h
    rfl
  · obtain ⟨p, ns, rfl, hS, l2, l5, sm, k⟩ := h
    refine ⟨_, (pss_cons (ps_if (pt_cmpR op_eq (pe_callB call_len_seq (by rfl) T.z_len (by decide +kernel) (pa_cons (pv 0) pa_nil)) pe_int (nomark _)) (pss_one (ps_ret pe_int)) pss_nil)
      (pss_cons (ps_if (pt_cmpR op_eq (pe_callB call_len_seq (by rfl) T.z_len (by decide +kernel) (pa_cons (pv 0) pa_nil)) pe_int (nomark _)) (pss_one (ps_ret (pe_op op_sub (pe_op op_mulW (pe_ix ix_list (pv 0) pe_int (fun _ _ => rfl)) (pe_ix ix_list (pv 0) pe_int (fun _ _ => rfl))) (pe_op op_mulW pe_int (pe_ix ix_list (pv 0) pe_int (fun _ _ => rfl)))))) pss_nil)
      (pss_cons (ps_asg (pe_slice sl_list (pv 0) po_none (po_some pe_int)) (pg_unl rfl (pgs_cons (pg_name (i := 1) sc_told_by.nd rfl (by first | exact Or.inl rfl | exact Or.inr rfl)) (pgs_cons (pg_name (i := 2) sc_told_by.nd rfl (by first | exact Or.inl rfl | exact Or.inr rfl)) (pgs_cons (pg_name (i := 3) sc_told_by.nd rfl (by first | exact Or.inl rfl | exact Or.inr rfl)) pgs_nil)))))
      (pss_cons (ps_if (pt_cmpR op_eq (pe_callB call_len_seq (by rfl) T.z_len (by decide +kernel) (pa_cons (pv 0) pa_nil)) pe_int (nomark _)) (pss_one (ps_ret (pe_op op_mulW (pv 1) (pe_op op_sub (pe_op op_mulW (pv 3) (pv 3)) (pe_op op_mulW pe_int (pv 1)))))) pss_nil)
      (pss_one (ps_ret (pe_op op_sub (pe_op op_sub (pe_op op_add (pe_op op_sub (pe_op op_mulW (pe_op op_mulW (pe_op op_mulW pe_int (pv 3)) (pv 2)) (pv 1)) (pe_op op_mulW (pe_op op_mulW (pe_op op_mulW (pe_op op_mulW pe_int (pv 3)) (pv 3)) (pv 3)) (pv 1))) (pe_op op_mulW (pe_op op_mulW (pe_op op_mulW (pv 3) (pv 3)) (pv 2)) (pv 2))) (pe_op op_mulW (pe_op op_mulW (pe_op op_mulW pe_int (pv 2)) (pv 2)) (pv 2))) (pe_op op_mulW (pe_op op_mulW pe_int (pv 1)) (pv 1))))))))), ?_⟩
    refine ⟨_, rfl, p, _, rfl, .inl hS, rfl, _, rfl, ?_⟩
    rcases ns with _ | ⟨c, _ | ⟨b, _ | ⟨a, _ | ⟨d, _ | ⟨e, _ | ⟨g, r⟩⟩⟩⟩⟩⟩
    · simp at l2
    · simp at l2
    · refine ite2 (fun hc => ?_) (fun hc => absurd (by simp) hc)
      exact k _ (Same.refl H)
    · have bc : Bd 100 c := sm _ (by simp)
      have bb : Bd 100 b := sm _ (by simp)
      refine ite2 (fun hc => absurd hc (by simp)) (fun hc => ?_)
      refine ⟨_, rfl, p, _, rfl, .inl hS, rfl, _, rfl, ?_⟩
      refine ite2 (fun hc => ?_) (fun hc => absurd (by simp) hc)
      refine ⟨_, rfl, p, _, _, _, rfl, rfl, hS, rfl, _, rfl, p, _, _, _, rfl, rfl, hS, rfl, _, _, rfl, rfl, bb.cm bb, _, rfl, p, _, _, _, rfl, rfl, hS, rfl, _, _, rfl, rfl, (bd_lit (n := 4)).cm bc, _, _, rfl, rfl, ?_⟩
      exact k _ (Same.refl H)
    · have bc : Bd 100 c := sm _ (by simp)
      have bb : Bd 100 b := sm _ (by simp)
      have ba : Bd 100 a := sm _ (by simp)
      refine ite2 (fun hc => absurd hc (by simp)) (fun hc => ?_)
      refine ⟨_, rfl, p, _, rfl, .inl hS, rfl, _, rfl, ?_⟩
      refine ite2 (fun hc => absurd hc (by simp)) (fun hc => ?_)
      refine ⟨_, rfl, _, rfl, p, _, rfl, hS, fun q hq => ?_⟩
      refine ⟨q, _, rfl, SqL.of upd_same, rfl, _, _, rfl, _, _, rfl, _, _, rfl, rfl, ?_⟩
      have hS' : SqL K (upd H q (.lst (cutV (List.map V.int [c, b, a, d]) none (some 3)))) p (List.map V.int [c, b, a, d]) := (same_new hq).seq hS
      refine ⟨_, rfl, p, _, rfl, .inl hS', rfl, _, rfl, ?_⟩
      refine ite2 (fun hc => absurd hc (by simp)) (fun hc => ?_)
      have b18 : Bd 18 18 := bd_lit
      have b4 : Bd 4 4 := bd_lit
      have b27 : Bd 27 27 := bd_lit
      refine ⟨_, rfl, _, _, rfl, rfl, b18.cm ba, _, rfl, _, _, rfl, rfl, (b18.mul ba).cm bb, _, rfl, _, _, rfl, rfl, ((b18.mul ba).mul bb).cm bc,
        _, rfl, _, _, rfl, rfl, b4.cm ba, _, rfl, _, _, rfl, rfl, (b4.mul ba).cm ba, _, rfl, _, _, rfl, rfl, ((b4.mul ba).mul ba).cm ba, _, rfl, _, _, rfl, rfl, (((b4.mul ba).mul ba).mul ba).cm bc, _, _, rfl, rfl,
        _, rfl, _, rfl, _, _, rfl, rfl, ba.cm ba, _, rfl, _, _, rfl, rfl, (ba.mul ba).cm bb, _, rfl, _, _, rfl, rfl, ((ba.mul ba).mul bb).cm bb, _, _, rfl, rfl,
        _, rfl, _, _, rfl, rfl, b4.cm bb, _, rfl, _, _, rfl, rfl, (b4.mul bb).cm bb, _, rfl, _, _, rfl, rfl, ((b4.mul bb).mul bb).cm bb, _, _, rfl, rfl,
        _, rfl, _, _, rfl, rfl, b27.cm bc, _, rfl, _, _, rfl, rfl, (b27.mul bc).cm bc, _, _, rfl, rfl, ?_⟩
      exact k _ (same_new hq)
    · have bc : Bd 100 c := sm _ (by simp)
      have ba : Bd 100 a := sm _ (by simp)
      refine ite2 (fun hc => absurd hc (by simp)) (fun hc => ?_)
      refine ⟨_, rfl, p, _, rfl, .inl hS, rfl, _, rfl, ?_⟩
      refine ite2 (fun hc => absurd hc (by simp)) (fun hc => ?_)
      refine ⟨_, rfl, _, rfl, p, _, rfl, hS, fun q hq => ?_⟩
      refine ⟨q, _, rfl, SqL.of upd_same, rfl, _, _, rfl, _, _, rfl, _, _, rfl, rfl, ?_⟩
      have hS' : SqL K (upd H q (.lst (cutV (List.map V.int [c, b, a, d, e]) none (some 3)))) p (List.map V.int [c, b, a, d, e]) := (same_new hq).seq hS
      refine ⟨_, rfl, p, _, rfl, .inl hS', rfl, _, rfl, ?_⟩
      refine ite2 (fun hc => ?_) (fun hc => absurd (by simp) hc)
      have b4 : Bd 4 4 := bd_lit
      refine ⟨_, rfl, _, rfl, _, rfl, _, _, rfl, rfl, ba.cm ba, _, rfl, _, _, rfl, rfl, b4.cm bc, _, _, rfl, rfl, _, _, rfl, rfl, bc.cm ((ba.mul ba).sub (b4.mul bc)), ?_⟩
      exact k _ (same_new hq)
    · simp at l5

abbrev s_must_poly : Stmt := top 11
abbrev N_must_poly : List Str := ["polynomial", "many", "at", "number"]
abbrev P_must_poly : List Str := ["polynomial"]
theorem sc_must_poly : FnScope N_must_poly ["polynomial"] (defScope s_must_poly) := ⟨rfl, rfl, rfl, by decide +kernel, rfl, by decide +kernel, by decide +kernel⟩

def sp_must_poly (K : PySem.W.Frag) : Sp := fun vs H Q _ => ∃ (a : Addr) (ns : List Int), vs = [.ref a] ∧ SqL K H a (ns.map V.int) ∧ GoodP ns ∧ ∀ H', Same H H' → Q .non H'
theorem item_of {ns : List Int} {i : Nat} {y : V} (hi : (ns.map V.int)[i]? = some y) : ∃ z, ns[i]? = some z ∧ y = V.int z := by
  rw [List.getElem?_map] at hi
  cases e : ns[i]? with
  | none => rw [e] at hi; cases hi
  | some z => rw [e] at hi; exact ⟨z, rfl, (Option.some.inj hi).symm⟩
theorem atI_map {ns : List Int} {i : Int} {z : Int} (h : atI ns i = some z) : atI (ns.map V.int) i = some (V.int z) := by
  unfold atI at *
  rw [List.length_map]
  cases e : ixN ns.length i with
  | none => rw [e] at h; cases h
  | some j =>
    rw [e] at h
    show (ns.map V.int)[j]? = _
    have h' : ns[j]? = some z := h
    rw [List.getElem?_map, h']
    rfl
theorem ok_must_poly (T : Txt K mg) {f : Addr} {fd : FuncData} (F : L2.Fun K "must_poly" "must_poly" s_must_poly f fd) (h_told_by : Cal P w K mg base 1 "told_by" (sp_told_by K) []) : FnOk P w K mg base CX0 2 f fd ["polynomial"] (sp_must_poly K) := by
  refine F.ok sc_must_poly (fun vs H Q E h => ?_) (fun cdv A outer s H vs Q E hr h => ?_)
  · obtain ⟨a, ns, rfl, _⟩ := h
    rfl
  · obtain ⟨p, ns, rfl, hS, G, k⟩ := h
    refine ⟨_, (pss_cons (ps_set (i := 1) sc_must_poly.nd rfl (by first | exact Or.inl rfl | exact Or.inr rfl) (pe_callB call_len_seq (by rfl) T.z_len (by decide +kernel) (pa_cons (pv 0) pa_nil)))
      (pss_cons (ps_if (pt_not (pt_chain op_le op_le pe_int (pv 1) pe_int)) (pss_one ps_never) pss_nil)
      (pss_cons (ps_for PassesOwn.never rfl (pi_enum (by rfl) T.z_enumerate (pa_cons (pv 0) pa_nil)) (pg_tup rfl (pgs_cons (pg_name (i := 2) sc_must_poly.nd rfl (by first | exact Or.inl rfl | exact Or.inr rfl)) (pgs_cons (pg_name (i := 3) sc_must_poly.nd rfl (by first | exact Or.inl rfl | exact Or.inr rfl)) pgs_nil))) (pss_one (ps_if (pt_cmpR op_gt (pe_callB call_abs (by rfl) T.z_abs (by decide +kernel) (pa_cons (pv 3) pa_nil)) (pe_gc rfl T.mg_MOST) (nomark _)) (pss_one ps_never) pss_nil)))
      (pss_cons (ps_if (pt_cmpR op_ne (pe_ix ix_list (pv 0) (pe_un un_neg pe_int) (fun _ _ => rfl)) pe_int (nomark _)) (pss_one ps_never) pss_nil)
      (pss_cons (ps_for PassesOwn.never rfl (pi_list (pe_lst (pa_cons pe_int (pa_cons pe_int pa_nil)))) (pg_name (i := 2) sc_must_poly.nd rfl (by first | exact Or.inl rfl | exact Or.inr rfl)) (pss_one (ps_if (PW.pt (pw_and (pt_cmpR op_eq (pv 1) pe_int (nomark _)) (pw_and1 (pt_cmpR op_ne (pe_ix ix_list (pv 0) (pv 2) (fun _ _ => rfl)) pe_int (nomark _))))) (pss_one ps_never) pss_nil)))
      (pss_one (ps_if (pt_cmpR op_eq (pe_c h_told_by hr (by decide) rfl (pa_cons (pv 0) pa_nil)) pe_int (nomark _)) (pss_one ps_never) pss_nil))))))), ?_⟩
    refine ⟨_, rfl, p, _, rfl, .inl hS, ?_⟩
    have e0 : (List.map V.int ns).length = ns.length := List.length_map _
    refine ⟨_, rfl, _, _, rfl, rfl, _, rfl, ?_⟩
    have g2 := G.l2
    have g5 := G.l5
    refine ite2 (fun _ => ?_) (fun hc => absurd (decide_eq_true (show (2 : Int) ≤ ((List.map V.int ns).length : Nat) by rw [e0]; omega)) hc)
    refine ⟨_, _, rfl, rfl, _, rfl, ?_⟩
    refine iteNS (show (((List.map V.int ns).length : Nat) : Int) ≤ 5 by rw [e0]; omega) ?_
    refine ⟨_, rfl, p, _, rfl, hS, for_it walk_enum (fun i σ H' => ∃ o1 o2 : Option V, σ = [some (.ref p), some (.int ((List.map V.int ns).length : Nat)), o1, o2] ∧ Same H H') ⟨none, none, rfl, Same.refl H⟩ (fun i σ H' _ ⟨_, _, _, sm⟩ => sm.seq hS) ?_ ?_⟩
    · rintro i x σ H1 H' hi ⟨o1, o2, rfl, sm⟩ ⟨t, y1, y2, rfl, hn, rfl, hy1, hy2⟩
      cases hy1
      obtain ⟨z, hz, rfl⟩ := item_of hy2
      refine ⟨t, _, rfl, SqT.of upd_same, rfl, _, _, rfl, _, _, rfl, rfl, ?_⟩
      refine ⟨_, rfl, _, rfl, _, _, rfl, rfl, _, rfl, ?_⟩
      have hb : Bd 100 z := G.sm z (List.mem_of_getElem? hz)
      refine ite2 (fun hc => absurd (of_decide_eq_true hc) ?_) (fun _ => ?_)
      · unfold Bd at hb
        split <;> omega
      · exact ⟨_, _, rfl, sm.trans (same_new hn)⟩
    · rintro σ H1 ⟨o1, o2, rfl, sm⟩
      refine ⟨_, rfl, _, rfl, p, _, _, _, rfl, rfl, sm.seq hS, atI_map G.last, rfl, _, rfl, ?_⟩
      refine iteNS rfl ?_
      refine ⟨sz2, fun l hl => ?_⟩
      have sm1 : Same H (upd H1 l (.lst [V.int 1, V.int 3])) := sm.trans (same_new hl)
      refine ⟨l, rfl, ⟨_, SqL.of upd_same⟩, for_list (K := K) (a := l) (xs := [V.int 1, V.int 3]) (fun i σ H' => ∃ o1 o2 : Option V, σ = [some (.ref p), some (.int ((List.map V.int ns).length : Nat)), o1, o2] ∧ Same (upd H1 l (.lst [V.int 1, V.int 3])) H') ⟨_, _, rfl, Same.refl _⟩ (fun i σ H' _ ⟨_, _, _, s2⟩ => s2.seq (SqL.of upd_same)) ?_ ?_⟩
      · rintro i x σ H' hi ⟨o1, o2, rfl, s2⟩
        have sm2 := sm1.trans s2
        refine ⟨_, rfl, rfl, _, rfl, ?_⟩
        refine ite2 (fun hc => ?_) (fun _ => ?_)
        · have h5 : ns.length = 5 := by
            have := of_decide_eq_true hc
            injection this with this
            rw [e0] at this
            omega
          have key : ∃ j : Nat, x = V.int j ∧ ns[j]? = some 0 := by
            rcases i with _ | _ | i
            · exact ⟨1, (Option.some.inj hi).symm, G.mid1 h5⟩
            · exact ⟨3, (Option.some.inj hi).symm, G.mid3 h5⟩
            · simp at hi
          obtain ⟨j, rfl, hj⟩ := key
          refine ⟨_, rfl, _, rfl, p, _, _, _, rfl, rfl, sm2.seq hS, atI_map (atI_nat hj), rfl, _, rfl, ?_⟩
          refine iteNS rfl ?_
          exact ⟨_, _, rfl, s2⟩
        · exact ⟨_, _, rfl, s2⟩
      · rintro σ H' ⟨o1, o2, rfl, s2⟩
        have sm2 := sm1.trans s2
        refine ⟨_, rfl, p, ns, rfl, sm2.seq hS, g2, g5, G.sm, fun H2 s3 => ?_⟩
        refine ⟨rfl, _, rfl, ?_⟩
        refine ite2 (fun hc => ?_) (fun _ => ?_)
        · have := of_decide_eq_true hc
          injection this with this
          exact absurd this G.told
        · exact k _ (sm2.trans s3)

abbrev s_must_fraction : Stmt := top 12
abbrev N_must_fraction : List Str := ["fraction"]
abbrev P_must_fraction : List Str := ["fraction"]
theorem sc_must_fraction : FnScope N_must_fraction ["fraction"] (defScope s_must_fraction) := ⟨rfl, rfl, rfl, by decide +kernel, rfl, by decide +kernel, by decide +kernel⟩

def sp_must_fraction (K : PySem.W.Frag) : Sp := fun vs H Q _ => ∃ (v : V) (q : Int × Int), vs = [v] ∧ FrAt K H v q ∧ q.2 ≠ 0 ∧ Sz 8000 q.2 ∧ ∀ H' p, Same H H' → H' p = some (.tup (frV (low q))) → H p = none → Q (.ref p) H'
theorem ok_must_fraction (T : Txt K mg) {f : Addr} {fd : FuncData} (F : L2.Fun K "must_fraction" "must_fraction" s_must_fraction f fd) (h_lowest : Cal P w K mg base 2 "lowest" (sp_lowest K) []) : FnOk P w K mg base CX0 3 f fd ["fraction"] (sp_must_fraction K) := by
  refine F.ok sc_must_fraction (fun vs H Q E h => ?_) (fun cdv A outer s H vs Q E hr h => ?_)
  · obtain ⟨v, q, rfl, _⟩ := h
    rfl
  · obtain ⟨v, q, rfl, ⟨p, rfl, hp⟩, hb, hz, k⟩ := h
    refine ⟨_, (pss_cons (ps_if (pt_cmpR op_eq (pe_ix ix_tup (pv 0) pe_int (fun _ _ => rfl)) pe_int (nomark _)) (pss_one ps_never) pss_nil)
      (pss_one (ps_ret (pe_c h_lowest hr (by decide) rfl (pa_cons (pe_ix ix_tup (pv 0) pe_int (fun _ _ => rfl)) (pa_cons (pe_ix ix_tup (pv 0) pe_int (fun _ _ => rfl)) pa_nil)))))), ?_⟩
    have ix0 : ∀ z : Int × Int, atI (frV z) 0 = some (V.int z.1) := fun z => rfl
    have ix1 : ∀ z : Int × Int, atI (frV z) 1 = some (V.int z.2) := fun z => rfl
    have hp := SqT.of (K := K) hp
    refine ⟨_, rfl, p, _, _, _, rfl, rfl, hp, ix1 q, rfl, _, rfl, ?_⟩
    refine ite2 (fun hc => ?_) (fun _ => ?_)
    · have := of_decide_eq_true hc
      injection this with this
      exact absurd this hb
    · refine ⟨_, rfl, p, _, _, _, rfl, rfl, hp, ix0 q, _, rfl, p, _, _, _, rfl, rfl, hp, ix1 q, ?_⟩
      exact ⟨q, rfl, hb, hz, k⟩

/-- a polynomial's worth, from the greatest power on -/
def worthQ (ns : List Int) (by_ : Int × Int) : Int × Int := ns.reverse.foldl (fun f n => addQ (mulQ f by_) (n, 1)) (0, 1)
theorem Same.seqT {K : PySem.W.Frag} {H H' : Hp} {a : Addr} {xs : List V} (e : Same H H') (h : SqT K H a xs) : SqT K H' a xs := by
  rcases h with (h | ⟨o, h⟩) | h
  · exact .inl (.inl (e _ _ h))
  · exact .inl (.inr ⟨o, e _ _ h⟩)
  · exact .inr h
theorem FrAt.mono {K : PySem.W.Frag} {H H' : Hp} {v : V} {q : Int × Int} (h : FrAt K H v q) (e : Same H H') : FrAt K H' v q := by
  obtain ⟨p, rfl, hp⟩ := h
  exact ⟨p, rfl, e _ _ hp⟩
theorem FrAt.new {K : PySem.W.Frag} {H : Hp} {p : Addr} {q : Int × Int} (h : H p = some (.tup (frV q))) : FrAt K H (.ref p) q := ⟨p, rfl, h⟩
theorem take_more {α : Type} : ∀ {l : List α} {i : Nat} {x : α}, l[i]? = some x → l.take (i + 1) = l.take i ++ [x]
  | [], i, x, h => by simp at h
  | a :: l, 0, x, h => by
    have e : a = x := Option.some.inj h
    subst e
    rfl
  | a :: l, i + 1, x, h => by
    have ih := take_more (l := l) (i := i) (x := x) h
    show a :: l.take (i + 1) = a :: l.take i ++ [x]
    rw [ih]
    rfl
theorem ok_01 : OkQ 1 (0, 1) := ⟨by decide, (by decide : (0 : Int).natAbs < 2 ^ 1), (by decide : (1 : Int).natAbs < 2 ^ 1)⟩
theorem ok_n1 {n : Int} {b : Nat} (h : Bd 100 n) (hb : 10 ≤ b) : OkQ b (n, 1) := OkQ.mono (n := 10) ⟨(by decide : (0 : Int) < 1), (by unfold Sz; unfold Bd at h; show n.natAbs < 2 ^ 10; omega), (by show (1 : Int).natAbs < 2 ^ 10; decide)⟩ hb
abbrev s_worth : Stmt := top 13
abbrev N_worth : List Str := ["polynomial", "fraction", "by", "found", "number"]
abbrev P_worth : List Str := ["polynomial", "fraction"]
theorem sc_worth : FnScope N_worth ["polynomial", "fraction"] (defScope s_worth) := ⟨rfl, rfl, rfl, by decide +kernel, rfl, by decide +kernel, by decide +kernel⟩

def sp_worth (K : PySem.W.Frag) : Sp := fun vs H Q _ => ∃ (a : Addr) (v : V) (ns : List Int) (q : Int × Int), vs = [.ref a, v] ∧ SqL K H a (ns.map V.int) ∧ GoodP ns ∧ FrAt K H v q ∧ q.2 ≠ 0 ∧ Sz 300 q.1 ∧ Sz 300 q.2 ∧
  ∀ H' u, Same H H' → FrAt K H' u (worthQ ns (low q)) → Q u H'
theorem ok_worth (T : Txt K mg) {f : Addr} {fd : FuncData} (F : L2.Fun K "worth" "worth" s_worth f fd) (h_must_poly : Cal P w K mg base 2 "must_poly" (sp_must_poly K) []) (h_must_fraction : Cal P w K mg base 3 "must_fraction" (sp_must_fraction K) [])
    (h_plus_of : Cal P w K mg base 3 "plus_of" (sp_plus_of K) []) (h_times_of : Cal P w K mg base 3 "times_of" (sp_times_of K) []) : FnOk P w K mg base CX0 4 f fd ["polynomial", "fraction"] (sp_worth K) := by
  refine F.ok sc_worth (fun vs H Q E h => ?_) (fun cdv A outer s H vs Q E hr h => ?_)
  · obtain ⟨a, v, ns, q, rfl, _⟩ := h
    rfl
  · obtain ⟨a, v, ns, q, rfl, hS, G, ⟨pv_, rfl, hv⟩, hb, hz1, hz2, k⟩ := h
    refine ⟨_, (pss_cons (ps_expr (pe_c h_must_poly hr (by decide) rfl (pa_cons (pv 0) pa_nil)))
      (pss_cons (ps_set (i := 2) sc_worth.nd rfl (by first | exact Or.inl rfl | exact Or.inr rfl) (pe_c h_must_fraction hr (by decide) rfl (pa_cons (pv 1) pa_nil)))
      (pss_cons (ps_set (i := 3) sc_worth.nd rfl (by first | exact Or.inl rfl | exact Or.inr rfl) (pe_tup (pa_cons pe_int (pa_cons pe_int pa_nil))))
      (pss_cons (ps_for PassesOwn.never rfl (pi_list (pe_revL (pv 0))) (pg_name (i := 4) sc_worth.nd rfl (by first | exact Or.inl rfl | exact Or.inr rfl)) (pss_one (ps_set (i := 3) sc_worth.nd rfl (by first | exact Or.inl rfl | exact Or.inr rfl) (pe_c h_plus_of hr (by decide) rfl (pa_cons (pe_c h_times_of hr (by decide) rfl (pa_cons (pv 3) (pa_cons (pv 2) pa_nil))) (pa_cons (pe_tup (pa_cons (pv 4) (pa_cons pe_int pa_nil))) pa_nil))))))
      (pss_one (ps_ret (pv 3))))))), ?_⟩
    refine ⟨_, rfl, a, ns, rfl, hS, G, fun H1 s1 => ?_⟩
    refine ⟨_, rfl, _, q, rfl, ⟨pv_, rfl, s1 _ _ hv⟩, hb, hz2.mono (by decide), fun H2 pb s2 hpb _ => ?_⟩
    have s12 := s1.trans s2
    refine ⟨sz2, fun pf hf => ?_⟩
    have s3 := s12.trans (same_new (o := .tup [V.int 0, V.int 1]) hf)
    refine ⟨_, rfl, a, _, rfl, s3.seq hS, fun l hl => ?_⟩
    have s4 := s3.trans (same_new (o := .lst (List.map V.int ns).reverse) hl)
    have er : (List.map V.int ns).reverse = List.map V.int ns.reverse := by rw [List.map_reverse]
    have hby : FrAt K H2 (.ref pb) (low q) := FrAt.new hpb
    have oby : OkQ 300 (low q) := low_ok hb hz1 hz2
    have gl : ns.reverse.length ≤ 5 := by rw [List.length_reverse]; exact G.l5
    refine ⟨l, rfl, ⟨_, SqL.of upd_same⟩, for_list (K := K) (a := l) (xs := List.map V.int ns.reverse) (fun i σ H' => ∃ (o : Option V) (p : Addr), σ = [some (.ref a), some (.ref pv_), some (.ref pb), some (.ref p), o] ∧ Same (upd (upd H2 pf (.tup [V.int 0, V.int 1])) l (.lst (List.map V.int ns).reverse)) H' ∧
      FrAt K H' (.ref p) ((ns.reverse.take i).foldl (fun f n => addQ (mulQ f (low q)) (n, 1)) (0, 1)) ∧ OkQ (1 + 400 * i) ((ns.reverse.take i).foldl (fun f n => addQ (mulQ f (low q)) (n, 1)) (0, 1))) ?_ ?_ ?_ ?_⟩
    · refine ⟨none, pf, rfl, Same.refl _, FrAt.mono (FrAt.new upd_same) (same_new hl), ok_01⟩
    · rintro i σ H' _ ⟨_, _, _, sm, _⟩
      refine sm.seq (SqL.of ?_)
      rw [upd_same, er]
    · rintro i x σ H' hi ⟨o, p, rfl, sm, hp, op⟩
      obtain ⟨z, hz, rfl⟩ := item_of hi
      have hil : i < 5 := Nat.lt_of_lt_of_le (List.getElem?_eq_some_iff.mp hz).1 gl
      have bz : Bd 100 z := G.sm z (List.mem_reverse.mp (List.mem_of_getElem? hz))
      have sB := ((same_new (o := .tup [V.int 0, V.int 1]) hf).trans (same_new (o := .lst (List.map V.int ns).reverse) hl)).trans sm
      refine ⟨_, rfl, _, rfl, _, _, _, _, _, _, rfl, hp, hby.mono sB, op, oby, by omega, by omega, by decide, fun H3 p3 s5 hp3 hn3 => ?_⟩
      refine ⟨_, rfl, sz2, fun p4 hp4 => ?_⟩
      refine ⟨_, _, _, (z, 1), _, 10, rfl, (FrAt.new hp3).mono (same_new hp4), FrAt.new upd_same, mul_ok op oby, ok_n1 bz (by decide), by omega, by omega, by decide, fun H5 p5 s6 hp5 hn5 => ?_⟩
      refine ⟨_, p5, rfl, (sm.trans s5).trans ((same_new hp4).trans s6), ?_, ?_⟩
      · rw [take_more hz, List.foldl_append]
        exact FrAt.new hp5
      · rw [take_more hz, List.foldl_append]
        exact (add_ok (mul_ok op oby) (ok_n1 (b := 10) bz (by decide))).mono (by omega)
    · rintro σ H' ⟨o, p, rfl, sm, hp, op⟩
      rw [List.length_map, List.take_of_length_le (Nat.le_refl _)] at hp
      exact ⟨_, rfl, k _ _ (s4.trans sm) hp⟩
end
end My

namespace My
open PySem PySem.Spec PyProof.Rows L2
open C8 (Cal pe_c pe_gc)
/-- all but a stand as they stood -/
def Xt (a : Addr) (H H' : Hp) : Prop := ∀ b o, b ≠ a → H b = some o → H' b = some o
theorem Xt.refl (a : Addr) (H : Hp) : Xt a H H := fun _ _ _ h => h
theorem Xt.trans {a : Addr} {H H1 H2 : Hp} (x : Xt a H H1) (y : Xt a H1 H2) : Xt a H H2 := fun b o n h => y b o n (x b o n h)
theorem Xt.of {a : Addr} {H H' : Hp} (x : Same H H') : Xt a H H' := fun b o _ h => x b o h
theorem Xt.upd {a : Addr} {H : Hp} {o : HO} : Xt a H (upd H a o) := fun b u n h => by rw [upd_ne n]; exact h
/-- a purse at a, drawn from less than m times -/
def Pur (H : Hp) (a : Addr) (m : Nat) : Prop := ∃ d c k : Int, H a = some (.lst [.int d, .int c, .int k]) ∧ 0 ≤ d ∧ 0 ≤ c ∧ c < 2147483647 ∧ 0 ≤ k ∧ k ≤ m
theorem Pur.mono {H : Hp} {a : Addr} {m n : Nat} (h : Pur H a m) (l : m ≤ n) : Pur H a n := by
  obtain ⟨d, c, k, h1, h2, h3, h4, h5, h6⟩ := h
  exact ⟨d, c, k, h1, h2, h3, h4, h5, by omega⟩
theorem Pur.same {H H' : Hp} {a : Addr} {m : Nat} (h : Pur H a m) (s : Same H H') : Pur H' a m := by
  obtain ⟨d, c, k, h1, h2⟩ := h
  exact ⟨d, c, k, s _ _ h1, h2⟩
theorem Pur.at {H : Hp} {a : Addr} {m : Nat} (h : Pur H a m) : ∃ o, H a = some o := by
  obtain ⟨d, c, k, h1, h2⟩ := h
  exact ⟨_, h1⟩
theorem fmod_bd {x j : Int} (h : 0 < j) : 0 ≤ x.fmod j ∧ x.fmod j < j := ⟨Int.fmod_nonneg_of_pos x h, Int.fmod_lt_of_pos x h⟩
section
variable {P : Program} {w : World} {K : PySem.W.Frag} {mg : Str → Option Value} {base : Heap}

abbrev s_Lat : Stmt := top 15
abbrev N_Lat : List Str := ["_law_script", "_law_k"]
abbrev P_Lat : List Str := ["_law_script", "_law_k"]
theorem sc_Lat : FnScope N_Lat ["_law_script", "_law_k"] (defScope s_Lat) := ⟨rfl, rfl, rfl, by decide +kernel, rfl, by decide +kernel, by decide +kernel⟩

def sp_Lat (K : PySem.W.Frag) : Sp := fun vs H Q _ => ∃ (a : Addr) (ns : List Int) (j : Nat), vs = [.ref a, .int (j : Nat)] ∧ SqL K H a (ns.map V.int) ∧ ∀ z : Int, Q (.int z) H
theorem ok_Lat (T : Txt K mg) {f : Addr} {fd : FuncData} (F : L2.Fun K "_law_at" "_law_at" s_Lat f fd) : FnOk P w K mg base CX0 1 f fd P_Lat (sp_Lat K) := by
  refine F.ok sc_Lat (fun vs H Q E h => ?_) (fun cdv A outer s H vs Q E hr h => ?_)
  · obtain ⟨a, ns, j, rfl, _⟩ := h
    rfl
  · obtain ⟨a, ns, j, rfl, hS, k⟩ := h
    refine ⟨_, (pss_cons (ps_if (pt_cmpR op_lt (pv 1) (pe_callB call_len_seq (by rfl) T.z_len (by decide +kernel) (pa_cons (pv 0) pa_nil)) (nomark _)) (pss_one (ps_ret (pe_ix ix_list (pv 0) (pv 1) (fun _ _ => rfl)))) pss_nil)
      (pss_one (ps_ret pe_int))), ?_⟩
    refine ⟨_, rfl, _, rfl, a, _, rfl, .inl hS, _, _, rfl, rfl, _, rfl, ?_⟩
    refine ite2 (fun hc => ?_) (fun hc => ?_)
    · have hj : j < ns.length := by
        have := of_decide_eq_true hc
        rw [List.length_map] at this
        omega
      refine ⟨_, rfl, _, rfl, a, _, _, _, rfl, rfl, hS, atI_map (atI_nat (List.getElem?_eq_getElem hj)), k _⟩
    · exact k _

abbrev s_Lmixed : Stmt := top 16
abbrev N_Lmixed : List Str := ["_law_cell", "_law_k", "_law_figure"]
abbrev P_Lmixed : List Str := ["_law_cell", "_law_k"]
theorem sc_Lmixed : FnScope N_Lmixed ["_law_cell", "_law_k"] (defScope s_Lmixed) := ⟨rfl, rfl, rfl, by decide +kernel, rfl, by decide +kernel, by decide +kernel⟩

def sp_Lmixed : Sp := fun vs H Q _ => ∃ c k : Int, vs = [.int c, .int k] ∧ Bd (2 ^ 31) c ∧ Bd (2 ^ 40) k ∧ ∀ z : Int, 0 ≤ z → z < 2147483587 → Q (.int z) H
theorem ok_Lmixed (T : Txt K mg) {f : Addr} {fd : FuncData} (F : L2.Fun K "_law_mixed" "_law_mixed" s_Lmixed f fd) : FnOk P w K mg base CX0 1 f fd P_Lmixed sp_Lmixed := by
  refine F.ok sc_Lmixed (fun vs H Q E h => ?_) (fun cdv A outer s H vs Q E hr h => ?_)
  · obtain ⟨c, k, rfl, _⟩ := h
    rfl
  · obtain ⟨c, k, rfl, hc, hk, q⟩ := h
    refine ⟨_, (pss_cons (ps_set (i := 2) sc_Lmixed.nd rfl (by first | exact Or.inl rfl | exact Or.inr rfl) (pe_op op_modN (pe_op op_add (pe_op op_add (pe_op op_add (pe_op op_mulW (pv 0) pe_int) (pe_op op_mulW (pe_op op_mulW pe_int (pv 1)) (pv 1))) (pv 1)) pe_int) pe_int))
      (pss_cons (ps_set (i := 2) sc_Lmixed.nd rfl (by first | exact Or.inl rfl | exact Or.inr rfl) (pe_op op_modN (pe_op op_add (pe_op op_mulW (pv 2) (pv 2)) pe_int) pe_int))
      (pss_one (ps_ret (pe_op op_modN (pe_op op_mulW (pv 2) pe_int) pe_int))))), ?_⟩
    have m1 : ∀ x : Int, Bd 2147483647 (x.fmod 2147483647) := fun x => by
      have := fmod_bd (x := x) (j := 2147483647) (by decide)
      unfold Bd; omega
    have m2 : ∀ x : Int, Bd 2147483629 (x.fmod 2147483629) := fun x => by
      have := fmod_bd (x := x) (j := 2147483629) (by decide)
      unfold Bd; omega
    refine ⟨_, rfl, _, _, rfl, rfl, hc.cm (bd_lit (n := 1103515245)), _, rfl, _, _, rfl, rfl, (bd_lit (n := 7919)).cm hk, _, rfl, _, _, rfl, rfl, ((bd_lit (n := 7919)).mul hk).cm hk, _, _, rfl, rfl, _, rfl, _, _, rfl, rfl, _, _, rfl, rfl, _, _, rfl, rfl, (show (2147483647 : Int) ≠ 0 by decide), ?_⟩
    refine ⟨_, rfl, _, rfl, _, _, rfl, rfl, (m1 _).cm (m1 _), _, _, rfl, rfl, _, _, rfl, rfl, (show (2147483629 : Int) ≠ 0 by decide), ?_⟩
    refine ⟨_, rfl, _, _, rfl, rfl, (m2 _).cm (bd_lit (n := 48271)), _, _, rfl, rfl, (show (2147483587 : Int) ≠ 0 by decide), ?_⟩
    have := fmod_bd (x := (Int.fmod (Int.fmod (c * 1103515245 + 7919 * k * k + k + 1) 2147483647 * Int.fmod (c * 1103515245 + 7919 * k * k + k + 1) 2147483647 + 69621) 2147483629) * 48271) (j := 2147483587) (by decide)
    exact q _ this.1 this.2

abbrev s_Lpurse : Stmt := top 17
abbrev N_Lpurse : List Str := ["_law_script", "_law_at_here", "_law_cell"]
abbrev P_Lpurse : List Str := ["_law_script", "_law_at_here"]
theorem sc_Lpurse : FnScope N_Lpurse ["_law_script", "_law_at_here"] (defScope s_Lpurse) := ⟨rfl, rfl, rfl, by decide +kernel, rfl, by decide +kernel, by decide +kernel⟩

def sp_Lpurse (K : PySem.W.Frag) : Sp := fun vs H Q _ => ∃ (a : Addr) (ns : List Int) (j : Nat), vs = [.ref a, .int (j : Nat)] ∧ SqL K H a (ns.map V.int) ∧ j ≤ 100 ∧
  ∀ H' p, Same H H' → H p = none → Pur H' p (1000 * j) → Q (.ref p) H'
theorem ok_Lpurse (T : Txt K mg) {f : Addr} {fd : FuncData} (F : L2.Fun K "_law_purse" "_law_purse" s_Lpurse f fd) (h_Lat : Cal P w K mg base 1 "_law_at" (sp_Lat K) []) : FnOk P w K mg base CX0 2 f fd P_Lpurse (sp_Lpurse K) := by
  refine F.ok sc_Lpurse (fun vs H Q E h => ?_) (fun cdv A outer s H vs Q E hr h => ?_)
  · obtain ⟨a, ns, j, rfl, _⟩ := h
    rfl
  · obtain ⟨a, ns, j, rfl, hS, hj, k⟩ := h
    refine ⟨_, (pss_cons (ps_set (i := 2) sc_Lpurse.nd rfl (by first | exact Or.inl rfl | exact Or.inr rfl) (pe_c h_Lat hr (by decide) rfl (pa_cons (pv 0) (pa_cons (pv 1) pa_nil))))
      (pss_one (ps_ret (pe_lst (pa_cons (pe_op op_modN (pe_callB (call_max2 rfl) (by rfl) T.z_max (by decide +kernel) (pa_cons (pe_op op_sub (pv 2) (pe_op op_powW pe_int pe_int)) (pa_cons pe_int pa_nil))) (pe_op op_powW (pe_op op_powW pe_int pe_int) pe_int)) (pa_cons (pe_op op_modN (pv 2) pe_int) (pa_cons (pe_op op_mulW pe_int (pv 1)) pa_nil))))))), ?_⟩
    refine ⟨_, rfl, _, rfl, a, ns, j, rfl, hS, fun z => ?_⟩
    have bj : Bd 100 (j : Int) := by unfold Bd; omega
    refine ⟨_, rfl, _, _, rfl, rfl, ⟨by decide, by decide +kernel⟩, _, _, rfl, rfl, _, _, rfl, _, _, rfl, rfl, ⟨by decide, by decide +kernel⟩, _, _, rfl, rfl, ⟨by decide, by decide +kernel⟩, _, _, rfl, rfl, (show ((10 : Int) ^ (60 : Int).toNat) ^ (40 : Int).toNat ≠ 0 by decide +kernel), _, rfl, _, _, rfl, rfl, (show (2147483647 : Int) ≠ 0 by decide), _, rfl, _, _, rfl, rfl, (bd_lit (n := 1000)).cm bj, sz3, fun p hp => ?_⟩
    refine k _ p (same_new hp) hp ⟨_, _, _, upd_same, ?_, ?_, ?_, ?_, ?_⟩
    · exact (fmod_bd (by decide +kernel)).1
    · exact (fmod_bd (j := 2147483647) (by decide)).1
    · exact (fmod_bd (j := 2147483647) (by decide)).2
    · omega
    · omega

abbrev s_Ldraw : Stmt := top 18
abbrev N_Ldraw : List Str := ["_law_purse_here", "_law_out_of", "_law_figure", "_law_k", "_law_drawn"]
abbrev P_Ldraw : List Str := ["_law_purse_here", "_law_out_of"]
theorem sc_Ldraw : FnScope N_Ldraw ["_law_purse_here", "_law_out_of"] (defScope s_Ldraw) := ⟨rfl, rfl, rfl, by decide +kernel, rfl, by decide +kernel, by decide +kernel⟩

def sp_Ldraw : Sp := fun vs H Q _ => ∃ (a : Addr) (n : Int) (m : Nat), vs = [.ref a, .int n] ∧ 0 < n ∧ n < 2 ^ 200 ∧ Pur H a m ∧ m ≤ 2 ^ 30 ∧
  ∀ H' (z : Int), Xt a H H' → Pur H' a (m + 20) → 0 ≤ z → z < n → Q (.int z) H'
theorem bits_le {n : Int} (h0 : 0 < n) (h : n < 2 ^ 200) : Builtin.Int.intBits n ≤ 200 := by
  have h1 : n.natAbs < 2 ^ 200 := by
    have : (n.natAbs : Int) < ((2 ^ 200 : Nat) : Int) := by
      have e : ((2 ^ 200 : Nat) : Int) = 2 ^ 200 := by decide
      rw [e]; omega
    exact Int.ofNat_lt.mp this
  have h2 := PySem.Flt.log2_lt_of (by decide : 0 < 200) h1
  unfold Builtin.Int.intBits
  split <;> omega
theorem ok_Ldraw (T : Txt K mg) {f : Addr} {fd : FuncData} (F : L2.Fun K "_law_draw" "_law_draw" s_Ldraw f fd) (h_Lmixed : Cal P w K mg base 1 "_law_mixed" sp_Lmixed []) : FnOk P w K mg base CX0 2 f fd P_Ldraw sp_Ldraw := by
  refine F.ok sc_Ldraw (fun vs H Q E h => ?_) (fun cdv A outer s H vs Q E hr h => ?_)
  · obtain ⟨a, n, m, rfl, _⟩ := h
    rfl
  · obtain ⟨a, n, m, rfl, hn, hn2, ⟨d, c, k0, ha, hd, hc, hc2, hk, hk2⟩, hm, k⟩ := h
    refine ⟨_, (pss_cons (ps_if (pt_cmpR op_gt (pe_ix ix_list (pv 0) pe_int (fun _ _ => rfl)) pe_int (nomark _)) (pss_cons (ps_set (i := 4) sc_Ldraw.nd rfl (by first | exact Or.inl rfl | exact Or.inr rfl) (pe_op op_modN (pe_ix ix_list (pv 0) pe_int (fun _ _ => rfl)) (pv 1)))
      (pss_cons (ps_asg (pe_op op_fdivA (pe_ix ix_list (pv 0) pe_int (fun _ _ => rfl)) (pv 1)) (pg_sub (pv 0) pe_int set_list))
      (pss_one (ps_ret (pv 4))))) pss_nil)
      (pss_cons (ps_set (i := 2) sc_Ldraw.nd rfl (by first | exact Or.inl rfl | exact Or.inr rfl) pe_int)
      (pss_cons (ps_for PassesOwn.never rfl (pi_range1 rfl T.z_range (pa_cons (pe_op op_add pe_int (pe_op op_fdivA (pe_bits (pv 1)) pe_int)) pa_nil)) (pg_name (i := 3) sc_Ldraw.nd rfl (by first | exact Or.inl rfl | exact Or.inr rfl)) (pss_cons (ps_asg (pe_op op_add (pe_ix ix_list (pv 0) pe_int (fun _ _ => rfl)) pe_int) (pg_sub (pv 0) pe_int set_list))
      (pss_one (ps_set (i := 2) sc_Ldraw.nd rfl (by first | exact Or.inl rfl | exact Or.inr rfl) (pe_op op_add (pe_op op_mulW (pv 2) pe_int) (pe_c h_Lmixed hr (by decide) rfl (pa_cons (pe_ix ix_list (pv 0) pe_int (fun _ _ => rfl)) (pa_cons (pe_ix ix_list (pv 0) pe_int (fun _ _ => rfl)) pa_nil))))))))
      (pss_one (ps_ret (pe_op op_modN (pv 2) (pv 1))))))), ?_⟩
    refine ⟨_, rfl, a, _, _, _, rfl, rfl, SqL.of ha, rfl, _, _, rfl, rfl, _, rfl, ?_⟩
    have szn : Sz 200 n := by
      unfold Sz
      have : (n.natAbs : Int) < ((2 ^ 200 : Nat) : Int) := by
        have e : ((2 ^ 200 : Nat) : Int) = 2 ^ 200 := by decide
        rw [e]; omega
      exact Int.ofNat_lt.mp this
    refine ite2 (fun hc0 => ?_) (fun hc0 => ?_)
    · have hd0 : 0 < d := of_decide_eq_true hc0
      refine ⟨_, rfl, a, _, _, _, rfl, rfl, SqL.of ha, rfl, _, rfl, _, _, rfl, rfl, Int.ne_of_gt hn, ?_⟩
      refine ⟨_, rfl, a, _, _, _, rfl, rfl, SqL.of ha, rfl, _, rfl, _, _, rfl, rfl, ⟨Int.ne_of_gt hn, szn.log (by decide) (by decide)⟩, _, rfl, a, _, _, _, rfl, rfl, ha, rfl, ?_⟩
      refine ⟨_, rfl, k _ _ Xt.upd ⟨_, _, _, upd_same, ?_, hc, hc2, hk, by omega⟩ (fmod_bd hn).1 (fmod_bd hn).2⟩
      rw [Int.fdiv_eq_ediv_of_nonneg d (by omega)]
      exact Int.ediv_nonneg hd (by omega)
    · refine ⟨_, rfl, _, rfl, _, _, rfl, rfl, ⟨(show (30 : Int) ≠ 0 by decide), (show (30 : Int).natAbs.log2 < 9000 by decide +kernel)⟩, _, _, rfl, rfl, ?_⟩
      have hb := bits_le hn hn2
      have hq : 0 ≤ Int.fdiv ((Builtin.Int.intBits n : Nat) : Int) 30 ∧ Int.fdiv ((Builtin.Int.intBits n : Nat) : Int) 30 ≤ 6 := by
        rw [Int.fdiv_eq_ediv_of_nonneg _ (by decide)]
        omega
      generalize Int.fdiv ((Builtin.Int.intBits n : Nat) : Int) 30 = e at hq ⊢
      refine ⟨1 + e, rfl, (show -(2 ^ 62 : Int) ≤ 1 + e by omega), (show 1 + e < (2 ^ 62 : Int) by omega), for_range (lo := 0) (n := (1 + e).toNat) (fun i σ H' => ∃ (fig : Int) (o1 o2 : Option V), σ = [some (.ref a), some (.int n), some (.int fig), o1, o2] ∧ Xt a H H' ∧ Pur H' a (m + i) ∧ Sz (40 * i + 1) fig ∧ 0 ≤ fig) ⟨0, none, none, rfl, Xt.refl _ _, ⟨d, c, k0, ha, hd, hc, hc2, hk, hk2⟩, (by decide : (0 : Int).natAbs < 2 ^ 1), by decide⟩ ?_ ?_⟩
      · rintro i σ H' hi ⟨fig, o1, o2, rfl, x1, ⟨d', c', k', ha', hd', hc', hc2', hk', hk2'⟩, sf, f0⟩
        have hi7 : i < 7 := by omega
        refine ⟨_, rfl, a, _, _, _, rfl, rfl, SqL.of ha', rfl, _, _, rfl, rfl, _, rfl, a, _, _, _, rfl, rfl, ha', rfl, ?_⟩
        refine ⟨_, rfl, _, _, rfl, rfl, sf.cmul (show Sz 40 2147483587 by unfold Sz; decide) (by omega) (by decide) (by omega), ?_⟩
        refine ⟨_, rfl, a, _, _, _, rfl, rfl, SqL.of upd_same, rfl, _, rfl, a, _, _, _, rfl, rfl, SqL.of upd_same, rfl, c', k' + 1, rfl, ?_, ?_, fun z z0 z1 => ?_⟩
        · unfold Bd; omega
        · unfold Bd; omega
        · refine ⟨_, _, rfl, rfl, ?_⟩
          refine ⟨fig * 2147483587 + z, _, _, rfl, x1.trans Xt.upd, ⟨d', c', k' + 1, upd_same, hd', hc', hc2', by omega, by omega⟩, ?_, ?_⟩
          · have s1 : Sz (40 * i + 1 + 39) (fig * 2147483587) := sf.mul (show Sz 39 2147483587 by unfold Sz; decide)
            have s2 : Sz (40 * i + 1 + 39) z := Sz.mono (n := 39) (by unfold Sz; omega) (by omega)
            exact (s1.add s2).mono (by omega)
          · have : 0 ≤ fig * 2147483587 := Int.mul_nonneg f0 (by decide)
            show 0 ≤ fig * 2147483587 + z
            omega
      · rintro σ H' ⟨fig, o1, o2, rfl, x1, hp, sf, f0⟩
        refine ⟨_, rfl, _, rfl, _, _, rfl, rfl, Int.ne_of_gt hn, ?_⟩
        exact k _ _ x1 (hp.mono (by omega)) (fmod_bd hn).1 (fmod_bd hn).2
end
end My

namespace My
open PySem PySem.Spec PyProof.Rows L2
open C8 (Cal pe_c pe_gc)
section
variable {P : Program} {w : World} {K : PySem.W.Frag} {mg : Str → Option Value} {base : Heap}

abbrev s_Lwhole : Stmt := top 19
abbrev N_Lwhole : List Str := ["_law_found"]
abbrev P_Lwhole : List Str := ["_law_found"]
theorem sc_Lwhole : FnScope N_Lwhole ["_law_found"] (defScope s_Lwhole) := ⟨rfl, rfl, rfl, by decide +kernel, rfl, by decide +kernel, by decide +kernel⟩

def sp_Lwhole : Sp := fun vs H Q _ => ∃ i : Int, vs = [.int i] ∧ Q (.bl true) H
theorem ok_Lwhole (T : Txt K mg) {f : Addr} {fd : FuncData} (F : L2.Fun K "_law_whole" "_law_whole" s_Lwhole f fd) : FnOk P w K mg base CX0 1 f fd P_Lwhole sp_Lwhole := by
  refine F.ok sc_Lwhole (fun vs H Q E h => ?_) (fun cdv A outer s H vs Q E hr h => ?_)
  · obtain ⟨i, rfl, _⟩ := h
    rfl
  · obtain ⟨i, rfl, k⟩ := h
    refine ⟨_, (pss_one (ps_ret (pe_and (pe_callB call_isi (by rfl) T.z_isinstance (by decide +kernel) (pa_cons (pv 0) (pa_cons (pe_bltn (v := .ty "int") (by rfl) T.z_int (by decide +kernel) rfl) pa_nil))) (pe_one (pe_not (pe_callB call_isi (by rfl) T.z_isinstance (by decide +kernel) (pa_cons (pv 0) (pa_cons (pe_bltn (v := .ty "bool") (by rfl) T.z_bool (by decide +kernel) rfl) pa_nil)))))))), ?_⟩
    refine ⟨_, rfl, _, _, _, _, true, rfl, .ty _, .base (.int i), kit_ty (by decide +kernel), _, rfl, ?_⟩
    refine iteT ?_
    refine ⟨_, rfl, _, _, _, _, false, rfl, .ty _, .base (.int i), kit_ty (by decide +kernel), _, rfl, k⟩

abbrev s_Lmade : Stmt := top 20
abbrev N_Lmade : List Str := ["_law_hi", "_law_lo", "_law_one", "_law_its"]
abbrev P_Lmade : List Str := ["_law_hi", "_law_lo"]
theorem sc_Lmade : FnScope N_Lmade ["_law_hi", "_law_lo"] (defScope s_Lmade) := ⟨rfl, rfl, rfl, by decide +kernel, rfl, by decide +kernel, by decide +kernel⟩

theorem ok_Lmade (T : Txt K mg) {f : Addr} {fd : FuncData} (F : L2.Fun K "_law_made" "_law_made" s_Lmade f fd) : FnOk P w K mg base CX0 1 f fd P_Lmade (sp_lowest K) := by
  refine F.ok sc_Lmade (fun vs H Q E h => ?_) (fun cdv A outer s H vs Q E hr h => ?_)
  · obtain ⟨q, rfl, _⟩ := h
    rfl
  · obtain ⟨⟨t, b⟩, rfl, hb, hz, k⟩ := h
    have hb : b ≠ 0 := hb
    refine ⟨_, (pss_cons (ps_set (i := 2) sc_Lmade.nd rfl (by first | exact Or.inl rfl | exact Or.inr rfl) (pe_callB call_abs (by rfl) T.z_abs (by decide +kernel) (pa_cons (pv 0) pa_nil)))
      (pss_cons (ps_set (i := 3) sc_Lmade.nd rfl (by first | exact Or.inl rfl | exact Or.inr rfl) (pe_callB call_abs (by rfl) T.z_abs (by decide +kernel) (pa_cons (pv 1) pa_nil)))
      (pss_cons (ps_while PassesOwn.never (pt_cmpR op_ne (pv 3) pe_int (nomark _)) (pss_one (ps_par (i := 2) (j := 3) (by rfl) sc_Lmade.nd rfl rfl (by decide) rfl rfl (pa_cons (pv 3) (pa_cons (pe_op op_modN (pv 2) (pv 3)) pa_nil)) (by rfl))))
      (pss_cons (ps_if (pt_cmpR op_lt (pv 1) pe_int (nomark _)) (pss_one (ps_set (i := 2) sc_Lmade.nd rfl (by first | exact Or.inl rfl | exact Or.inr rfl) (pe_op op_sub pe_int (pv 2)))) pss_nil)
      (pss_one (ps_ret (pe_tup (pa_cons (pe_op op_fdivA (pv 0) (pv 2)) (pa_cons (pe_op op_fdivA (pv 1) (pv 2)) pa_nil))))))))), ?_⟩
    refine ⟨_, rfl, _, rfl, _, rfl, _, rfl, ?_⟩
    have sgo : shr t b ≠ 0 ∧ (shr t b).natAbs.log2 < 9000 := by
      refine ⟨shr_ne hb, ?_⟩
      have : Sz 8000 (shr t b) := by
        unfold Sz
        rw [shr_abs]
        have : Int.gcd t b ≤ b.natAbs := Nat.le_of_dvd (by omega) (Int.gcd_dvd_natAbs_right t b)
        exact Nat.lt_of_le_of_lt this hz
      exact this.log (by decide) (by decide)
    have eab : ∀ x : Int, (if x < 0 then -x else x) = (x.natAbs : Int) := fun x => by split <;> omega
    refine while_by (fun σ H' => H' = H ∧ ∃ x y : Int, σ = [some (.int t), some (.int b), some (.int x), some (.int y)] ∧ 0 ≤ x ∧ 0 ≤ y ∧ Int.gcd x y = Int.gcd t b) (fun σ _ => match σ with | [_, _, _, some (.int y)] => y.natAbs | _ => 0) ⟨rfl, _, _, rfl, ?_, ?_, ?_⟩ ?_ ?_
    · show (0 : Int) ≤ (if t < 0 then -t else t)
      rw [eab]; omega
    · show (0 : Int) ≤ (if b < 0 then -b else b)
      rw [eab]; omega
    · show Int.gcd (if t < 0 then -t else t) (if b < 0 then -b else b) = _
      rw [eab, eab]
      rfl
    · rintro σ H' ⟨rfl, x, y, rfl, hx, hy0, hg⟩
      refine ⟨_, rfl, rfl, _, rfl, ?_⟩
      refine ite2 (fun hc => ?_) (fun hc => ?_)
      · have hy : y ≠ 0 := by simpa using hc
        refine ⟨_, rfl, _, rfl, _, rfl, _, _, rfl, rfl, hy, _, _, rfl, ?_⟩
        exact ⟨⟨rfl, _, _, rfl, hy0, (fmod_bd (by omega)).1, (gcd_fmod x y).trans hg⟩, fmod_lt hy⟩
      · have hy : y = 0 := by simpa using hc
        subst hy
        have ex : x = (Int.gcd t b : Nat) := by rw [← hg, Int.gcd_zero_right]; omega
        subst ex
        refine ⟨_, rfl, _, _, rfl, rfl, _, rfl, ?_⟩
        refine ite2 (fun hc => ?_) (fun hc => ?_)
        · have hn : b < 0 := by simpa using hc
          have e : (0 : Int) - ((Int.gcd t b : Nat) : Int) = shr t b := by unfold shr sg; rw [if_pos hn]; omega
          have c : ∀ i, CFd i ((0 : Int) - ((Int.gcd t b : Nat) : Int)) := fun i => by rw [e]; exact sgo
          refine ⟨_, rfl, _, _, rfl, rfl, ?_⟩
          refine ⟨_, rfl, _, rfl, _, _, rfl, rfl, c _, _, rfl, _, rfl, _, _, rfl, rfl, c _, sz2, fun p hp => ?_⟩
          refine k _ p (same_new hp) ?_ hp
          rw [upd_same]
          unfold frV low lowT lowB
          rw [← e]
        · have hn : ¬ b < 0 := by simpa using hc
          have e : ((Int.gcd t b : Nat) : Int) = shr t b := by unfold shr sg; rw [if_neg hn]; omega
          have c : ∀ i, CFd i ((Int.gcd t b : Nat) : Int) := fun i => by rw [e]; exact sgo
          refine ⟨_, rfl, _, rfl, _, _, rfl, rfl, c _, _, rfl, _, rfl, _, _, rfl, rfl, c _, sz2, fun p hp => ?_⟩
          refine k _ p (same_new hp) ?_ hp
          rw [upd_same]
          unfold frV low lowT lowB
          rw [← e]
    · rintro σ H Q Q' hq ⟨v, h1, h2, k, h3, h4⟩
      exact ⟨v, h1, h2, k, h3, hq _ _ h4⟩

abbrev s_Lsum : Stmt := top 21
abbrev N_Lsum : List Str := ["_law_one", "_law_its"]
abbrev P_Lsum : List Str := ["_law_one", "_law_its"]
theorem sc_Lsum : FnScope N_Lsum ["_law_one", "_law_its"] (defScope s_Lsum) := ⟨rfl, rfl, rfl, by decide +kernel, rfl, by decide +kernel, by decide +kernel⟩

theorem ok_Lsum (T : Txt K mg) {f : Addr} {fd : FuncData} (F : L2.Fun K "_law_sum" "_law_sum" s_Lsum f fd) (h_Lmade : Cal P w K mg base 1 "_law_made" (sp_lowest K) []) : FnOk P w K mg base CX0 2 f fd P_Lsum (sp_plus_of K) := by
  refine F.ok sc_Lsum (fun vs H Q E h => ?_) (fun cdv A outer s H vs Q E hr h => ?_)
  · obtain ⟨v, u, q, r, n, m, rfl, _⟩ := h
    rfl
  · obtain ⟨v, u, q, r, n, m, rfl, ⟨pa, rfl, ha⟩, ⟨pb, rfl, hb⟩, oq, or, nm, n0, m0, k⟩ := h
    refine ⟨_, (pss_one (ps_ret (pe_c h_Lmade hr (by decide) rfl (pa_cons (pe_op op_add (pe_op op_mulW (pe_ix ix_tup (pv 0) pe_int (fun _ _ => rfl)) (pe_ix ix_tup (pv 1) pe_int (fun _ _ => rfl))) (pe_op op_mulW (pe_ix ix_tup (pv 1) pe_int (fun _ _ => rfl)) (pe_ix ix_tup (pv 0) pe_int (fun _ _ => rfl)))) (pa_cons (pe_op op_mulW (pe_ix ix_tup (pv 0) pe_int (fun _ _ => rfl)) (pe_ix ix_tup (pv 1) pe_int (fun _ _ => rfl))) pa_nil))))), ?_⟩
    have ix0 : ∀ z : Int × Int, atI (frV z) 0 = some (V.int z.1) := fun z => rfl
    have ix1 : ∀ z : Int × Int, atI (frV z) 1 = some (V.int z.2) := fun z => rfl
    have ha := SqT.of (K := K) ha
    have hb := SqT.of (K := K) hb
    have c1 : CMulW q.1 r.2 := oq.t.cmul or.b n0 m0 (by omega)
    have c2 : CMulW r.1 q.2 := or.t.cmul oq.b m0 n0 (by omega)
    have c3 : CMulW q.2 r.2 := oq.b.cmul or.b n0 m0 (by omega)
    refine ⟨_, rfl, pa, _, _, _, rfl, rfl, ha, ix0 q, _, rfl, pb, _, _, _, rfl, rfl, hb, ix1 r, _, _, rfl, rfl, c1, _, rfl, pb, _, _, _, rfl, rfl, hb, ix0 r, _, rfl, pa, _, _, _, rfl, rfl, ha, ix1 q, _, _, rfl, rfl, c2, _, _, rfl, rfl,
      _, rfl, pa, _, _, _, rfl, rfl, ha, ix1 q, _, rfl, pb, _, _, _, rfl, rfl, hb, ix1 r, _, _, rfl, rfl, c3, ?_⟩
    exact ⟨(q.1 * r.2 + r.1 * q.2, q.2 * r.2), rfl, Int.ne_of_gt (Int.mul_pos oq.pos or.pos), (oq.b.mul or.b).mono (by omega), fun H' p sm hp hn => k H' p sm hp hn⟩

abbrev s_Lproduct : Stmt := top 22
abbrev N_Lproduct : List Str := ["_law_one", "_law_its"]
abbrev P_Lproduct : List Str := ["_law_one", "_law_its"]
theorem sc_Lproduct : FnScope N_Lproduct ["_law_one", "_law_its"] (defScope s_Lproduct) := ⟨rfl, rfl, rfl, by decide +kernel, rfl, by decide +kernel, by decide +kernel⟩

theorem ok_Lproduct (T : Txt K mg) {f : Addr} {fd : FuncData} (F : L2.Fun K "_law_product" "_law_product" s_Lproduct f fd) (h_Lmade : Cal P w K mg base 1 "_law_made" (sp_lowest K) []) : FnOk P w K mg base CX0 2 f fd P_Lproduct (sp_times_of K) := by
  refine F.ok sc_Lproduct (fun vs H Q E h => ?_) (fun cdv A outer s H vs Q E hr h => ?_)
  · obtain ⟨v, u, q, r, n, m, rfl, _⟩ := h
    rfl
  · obtain ⟨v, u, q, r, n, m, rfl, ⟨pa, rfl, ha⟩, ⟨pb, rfl, hb⟩, oq, or, nm, n0, m0, k⟩ := h
    refine ⟨_, (pss_one (ps_ret (pe_c h_Lmade hr (by decide) rfl (pa_cons (pe_op op_mulW (pe_ix ix_tup (pv 0) pe_int (fun _ _ => rfl)) (pe_ix ix_tup (pv 1) pe_int (fun _ _ => rfl))) (pa_cons (pe_op op_mulW (pe_ix ix_tup (pv 0) pe_int (fun _ _ => rfl)) (pe_ix ix_tup (pv 1) pe_int (fun _ _ => rfl))) pa_nil))))), ?_⟩
    have ix0 : ∀ z : Int × Int, atI (frV z) 0 = some (V.int z.1) := fun z => rfl
    have ix1 : ∀ z : Int × Int, atI (frV z) 1 = some (V.int z.2) := fun z => rfl
    have ha := SqT.of (K := K) ha
    have hb := SqT.of (K := K) hb
    have c1 : CMulW q.1 r.1 := oq.t.cmul or.t n0 m0 (by omega)
    have c3 : CMulW q.2 r.2 := oq.b.cmul or.b n0 m0 (by omega)
    refine ⟨_, rfl, pa, _, _, _, rfl, rfl, ha, ix0 q, _, rfl, pb, _, _, _, rfl, rfl, hb, ix0 r, _, _, rfl, rfl, c1, _, rfl, pa, _, _, _, rfl, rfl, ha, ix1 q, _, rfl, pb, _, _, _, rfl, rfl, hb, ix1 r, _, _, rfl, rfl, c3, ?_⟩
    exact ⟨(q.1 * r.1, q.2 * r.2), rfl, Int.ne_of_gt (Int.mul_pos oq.pos or.pos), (oq.b.mul or.b).mono (by omega), fun H' p sm hp hn => k H' p sm hp hn⟩

abbrev s_Lnumber : Stmt := top 28
abbrev N_Lnumber : List Str := ["_law_purse_here", "_law_most", "_law_far"]
abbrev P_Lnumber : List Str := ["_law_purse_here", "_law_most"]
theorem sc_Lnumber : FnScope N_Lnumber ["_law_purse_here", "_law_most"] (defScope s_Lnumber) := ⟨rfl, rfl, rfl, by decide +kernel, rfl, by decide +kernel, by decide +kernel⟩

def sp_Lnumber : Sp := fun vs H Q _ => ∃ (a : Addr) (n : Int) (m : Nat), vs = [.ref a, .int n] ∧ 1 ≤ n ∧ n ≤ 10 ^ 30 ∧ Pur H a m ∧ m ≤ 2 ^ 29 ∧
  ∀ H' (z : Int), Xt a H H' → Pur H' a (m + 40) → Bd (10 ^ 31) z → Q (.int z) H'
theorem ok_Lnumber (T : Txt K mg) {f : Addr} {fd : FuncData} (F : L2.Fun K "_law_number" "_law_number" s_Lnumber f fd) (h_Ldraw : Cal P w K mg base 2 "_law_draw" sp_Ldraw []) : FnOk P w K mg base CX0 3 f fd P_Lnumber sp_Lnumber := by
  refine F.ok sc_Lnumber (fun vs H Q E h => ?_) (fun cdv A outer s H vs Q E hr h => ?_)
  · obtain ⟨a, n, m, rfl, _⟩ := h
    rfl
  · obtain ⟨a, n, m, rfl, n1, n2, hp, hm, k⟩ := h
    refine ⟨_, (pss_cons (ps_set (i := 2) sc_Lnumber.nd rfl (by first | exact Or.inl rfl | exact Or.inr rfl) (pe_ix ix_list (pe_lst (pa_cons pe_int (pa_cons pe_int (pa_cons pe_int (pa_cons (pv 1) pa_nil))))) (pe_c h_Ldraw hr (by decide) rfl (pa_cons (pv 0) (pa_cons pe_int pa_nil))) (fun _ _ => rfl)))
      (pss_one (ps_ret (pe_op op_sub (pe_c h_Ldraw hr (by decide) rfl (pa_cons (pv 0) (pa_cons (pe_op op_add (pe_op op_mulW pe_int (pv 2)) pe_int) pa_nil))) (pv 2))))), ?_⟩
    refine ⟨_, rfl, sz4, fun l hl => ?_⟩
    have hp1 := hp.same (same_new (o := .lst [V.int 1, V.int 3, V.int 12, V.int n]) hl)
    obtain ⟨o, ho⟩ := hp.at
    have nla : l ≠ a := (ne_of_none ho hl).symm
    refine ⟨_, rfl, a, 4, m, rfl, by decide, by decide, hp1, by omega, fun H1 z x1 hp2 z0 z4 => ?_⟩
    have hL : H1 l = some (.lst [V.int 1, V.int 3, V.int 12, V.int n]) := x1 _ _ nla upd_same
    have key : ∃ far : Int, atI [V.int 1, V.int 3, V.int 12, V.int n] z = some (V.int far) ∧ 1 ≤ far ∧ far ≤ 10 ^ 30 := by
      have : z = 0 ∨ z = 1 ∨ z = 2 ∨ z = 3 := by omega
      rcases this with rfl | rfl | rfl | rfl
      · exact ⟨1, rfl, by decide, by decide⟩
      · exact ⟨3, rfl, by decide, by decide⟩
      · exact ⟨12, rfl, by decide, by decide⟩
      · exact ⟨n, rfl, n1, n2⟩
    obtain ⟨far, hf, f1, f2⟩ := key
    refine ⟨l, _, _, _, rfl, rfl, SqL.of hL, hf, ?_⟩
    have szf : Sz 200 far := by unfold Sz; omega
    refine ⟨_, rfl, _, rfl, _, _, rfl, rfl, wide_mul (a := 2) (b := 200) (by decide) szf (by decide) (by decide) (by decide), _, _, rfl, rfl, a, 2 * far + 1, m + 20, rfl, by omega, by omega, hp2, by omega, fun H2 y x2 hp3 y0 y1 => ?_⟩
    refine ⟨_, rfl, _, _, rfl, rfl, ?_⟩
    refine k _ _ ((Xt.of (same_new hl)).trans (x1.trans x2)) hp3 ?_
    unfold Bd
    omega
end
end My

namespace My
open PySem PySem.Spec PyProof.Rows L2
open C8 (Cal pe_c pe_gc)
section
variable {P : Program} {w : World} {K : PySem.W.Frag} {mg : Str → Option Value} {base : Heap}

abbrev s_Lfraction : Stmt := top 23
abbrev N_Lfraction : List Str := ["_law_purse_here", "_law_most", "_law_lo", "_law_by"]
abbrev P_Lfraction : List Str := ["_law_purse_here", "_law_most"]
theorem sc_Lfraction : FnScope N_Lfraction ["_law_purse_here", "_law_most"] (defScope s_Lfraction) := ⟨rfl, rfl, rfl, by decide +kernel, rfl, by decide +kernel, by decide +kernel⟩

def sp_Lfraction (K : PySem.W.Frag) : Sp := fun vs H Q _ => ∃ (a : Addr) (n : Int) (m : Nat), vs = [.ref a, .int n] ∧ 1 ≤ n ∧ n ≤ 10 ^ 30 ∧ Pur H a m ∧ m ≤ 2 ^ 28 ∧
  ∀ H' (p : Addr) (q : Int × Int), Xt a H H' → Pur H' a (m + 200) → p ≠ a → H' p = some (.tup (frV q)) → q.2 ≠ 0 → Bd (10 ^ 32) q.1 → Bd 100 q.2 → Q (.ref p) H'
theorem ok_Lfraction (T : Txt K mg) {f : Addr} {fd : FuncData} (F : L2.Fun K "_law_fraction" "_law_fraction" s_Lfraction f fd) (h_Ldraw : Cal P w K mg base 2 "_law_draw" sp_Ldraw []) (h_Lnumber : Cal P w K mg base 3 "_law_number" sp_Lnumber []) : FnOk P w K mg base CX0 4 f fd P_Lfraction (sp_Lfraction K) := by
  refine F.ok sc_Lfraction (fun vs H Q E h => ?_) (fun cdv A outer s H vs Q E hr h => ?_)
  · obtain ⟨a, n, m, rfl, _⟩ := h
    rfl
  · obtain ⟨a, n, m, rfl, n1, n2, hp, hm, k⟩ := h
    refine ⟨_, (pss_cons (ps_set (i := 2) sc_Lfraction.nd rfl (by first | exact Or.inl rfl | exact Or.inr rfl) (pe_ix ix_list (pe_lst (pa_cons pe_int (pa_cons pe_int (pa_cons (pe_op op_add pe_int (pe_c h_Ldraw hr (by decide) rfl (pa_cons (pv 0) (pa_cons pe_int pa_nil)))) (pa_cons (pe_op op_sub (pe_op op_sub pe_int pe_int) (pe_c h_Ldraw hr (by decide) rfl (pa_cons (pv 0) (pa_cons pe_int pa_nil)))) pa_nil))))) (pe_c h_Ldraw hr (by decide) rfl (pa_cons (pv 0) (pa_cons pe_int pa_nil))) (fun _ _ => rfl)))
      (pss_cons (ps_set (i := 3) sc_Lfraction.nd rfl (by first | exact Or.inl rfl | exact Or.inr rfl) (pe_ix ix_list (pe_lst (pa_cons pe_int (pa_cons pe_int (pa_cons pe_int (pa_cons pe_int (pa_cons (pe_un un_neg pe_int) pa_nil)))))) (pe_c h_Ldraw hr (by decide) rfl (pa_cons (pv 0) (pa_cons pe_int pa_nil))) (fun _ _ => rfl)))
      (pss_one (ps_ret (pe_tup (pa_cons (pe_op op_mulW (pe_c h_Lnumber hr (by decide) rfl (pa_cons (pv 0) (pa_cons (pv 1) pa_nil))) (pv 3)) (pa_cons (pe_op op_mulW (pv 2) (pv 3)) pa_nil))))))), ?_⟩
    refine ⟨_, rfl, a, 9, m, rfl, by decide, by decide, hp, by omega, fun H1 z1 x1 hp1 a0 a1 => ?_⟩
    refine ⟨_, _, rfl, rfl, _, _, rfl, rfl, _, rfl, a, 4, m + 20, rfl, by decide, by decide, hp1, by omega, fun H2 z2 x2 hp2 b0 b1 => ?_⟩
    refine ⟨_, _, rfl, rfl, sz4, fun l hl => ?_⟩
    obtain ⟨o, ho⟩ := hp2.at
    have nla : l ≠ a := (ne_of_none ho hl).symm
    refine ⟨_, rfl, a, 4, m + 40, rfl, by decide, by decide, hp2.same (same_new hl), by omega, fun H3 z3 x3 hp3 c0 c1 => ?_⟩
    have hL : H3 l = some (.lst [V.int 1, V.int 1, V.int (1 + z1), V.int (0 - 1 - z2)]) := x3 _ _ nla upd_same
    have key : ∃ lo : Int, atI [V.int 1, V.int 1, V.int (1 + z1), V.int (0 - 1 - z2)] z3 = some (V.int lo) ∧ lo ≠ 0 ∧ Bd 9 lo := by
      have : z3 = 0 ∨ z3 = 1 ∨ z3 = 2 ∨ z3 = 3 := by omega
      rcases this with rfl | rfl | rfl | rfl
      · exact ⟨1, rfl, by decide, bd_lit⟩
      · exact ⟨1, rfl, by decide, bd_lit⟩
      · exact ⟨1 + z1, rfl, by omega, by unfold Bd; omega⟩
      · exact ⟨0 - 1 - z2, rfl, by omega, by unfold Bd; omega⟩
    obtain ⟨lo, hlo, lo0, lo9⟩ := key
    refine ⟨l, _, _, _, rfl, rfl, SqL.of hL, hlo, ?_⟩
    refine ⟨_, rfl, sz5, fun l2 hl2 => ?_⟩
    obtain ⟨o', ho'⟩ := hp3.at
    have nla2 : l2 ≠ a := (ne_of_none ho' hl2).symm
    refine ⟨_, rfl, a, 5, m + 60, rfl, by decide, by decide, hp3.same (same_new hl2), by omega, fun H4 z4 x4 hp4 d0 d1 => ?_⟩
    have hL2 : H4 l2 = some (.lst [V.int 1, V.int 1, V.int 1, V.int 2, V.int (-3)]) := x4 _ _ nla2 upd_same
    have key2 : ∃ by_ : Int, atI [V.int 1, V.int 1, V.int 1, V.int 2, V.int (-3)] z4 = some (V.int by_) ∧ by_ ≠ 0 ∧ Bd 3 by_ := by
      have : z4 = 0 ∨ z4 = 1 ∨ z4 = 2 ∨ z4 = 3 ∨ z4 = 4 := by omega
      rcases this with rfl | rfl | rfl | rfl | rfl
      · exact ⟨1, rfl, by decide, bd_lit⟩
      · exact ⟨1, rfl, by decide, bd_lit⟩
      · exact ⟨1, rfl, by decide, bd_lit⟩
      · exact ⟨2, rfl, by decide, bd_lit⟩
      · exact ⟨-3, rfl, by decide, bd_lit⟩
    obtain ⟨by_, hby, by0, by3⟩ := key2
    refine ⟨l2, _, _, _, rfl, rfl, SqL.of hL2, hby, ?_⟩
    refine ⟨_, rfl, _, rfl, a, n, m + 80, rfl, n1, n2, hp4, by omega, fun H5 z x5 hp5 bz => ?_⟩
    have szz : Sz 200 z := by unfold Sz; unfold Bd at bz; omega
    have szb : Sz 5 by_ := by unfold Sz; unfold Bd at by3; omega
    refine ⟨_, rfl, _, _, rfl, rfl, wide_mul szz szb (by decide) (by decide) (by decide), _, rfl, _, rfl, _, _, rfl, rfl, lo9.cm by3, sz2, fun p hp' => ?_⟩
    obtain ⟨o'', ho''⟩ := hp5.at
    have npa : p ≠ a := (ne_of_none ho'' hp').symm
    refine k _ p (z * by_, lo * by_) ?_ ((hp5.same (same_new hp')).mono (by omega)) npa upd_same ?_ ?_ ?_
    · exact x1.trans (x2.trans ((Xt.of (same_new hl)).trans (x3.trans ((Xt.of (same_new hl2)).trans (x4.trans (x5.trans (Xt.of (same_new hp'))))))))
    · exact Int.mul_ne_zero lo0 by0
    · have := bz.mul by3
      unfold Bd at *
      show (z * by_).natAbs ≤ 10 ^ 32
      omega
    · have := lo9.mul by3
      unfold Bd at *
      show (lo * by_).natAbs ≤ 100
      omega

abbrev s_Lalike_roots : Stmt := top 24
abbrev N_Lalike_roots : List Str := ["_law_poly_here", "_law_told", "_law_c", "_law_b", "_law_a"]
abbrev P_Lalike_roots : List Str := ["_law_poly_here"]
theorem sc_Lalike_roots : FnScope N_Lalike_roots ["_law_poly_here"] (defScope s_Lalike_roots) := ⟨rfl, rfl, rfl, by decide +kernel, rfl, by decide +kernel, by decide +kernel⟩

def sp_Lalike_roots : Sp := fun vs H Q _ => ∃ (a : Addr) (ns : List Int), vs = [.ref a] ∧ H a = some (.lst (ns.map V.int)) ∧ 2 ≤ ns.length ∧ ns.length ≤ 5 ∧ (∀ x ∈ ns, Bd 100 x) ∧ ∀ H', Same H H' → Q (.bl (decide (toldOf ns = 0))) H'
theorem dec_int {x y : Int} {p : Prop} [Decidable p] (h : x = y ↔ p) : decide (V.int x = V.int y) = decide p := by
  apply decide_eq_decide.mpr
  constructor
  · intro e
    injection e with e
    exact h.mp e
  · intro e
    rw [h.mpr e]
theorem ok_Lalike_roots (T : Txt K mg) {f : Addr} {fd : FuncData} (F : L2.Fun K "_law_alike_roots" "_law_alike_roots" s_Lalike_roots f fd) : FnOk P w K mg base CX0 1 f fd P_Lalike_roots sp_Lalike_roots := by
  refine F.ok sc_Lalike_roots (fun vs H Q E h => ?_) (fun cdv A outer s H vs Q E hr h => ?_)
  · obtain ⟨a, ns, rfl, _⟩ := h
    rfl
  · obtain ⟨p, ns, rfl, hL, l2, l5, sm, k⟩ := h
    have hS : SqL K H p (ns.map V.int) := SqL.of hL
    refine ⟨_, (pss_cons (ps_if (pt_cmpR op_eq (pe_callB call_len_seq (by rfl) T.z_len (by decide +kernel) (pa_cons (pv 0) pa_nil)) pe_int (nomark _)) (pss_one (ps_ret (pe_cmpR op_eq (pe_op op_mulW (pe_ix ix_list (pv 0) pe_int (fun _ _ => rfl)) (pe_ix ix_list (pv 0) pe_int (fun _ _ => rfl))) (pe_op op_mulW pe_int (pe_ix ix_list (pv 0) pe_int (fun _ _ => rfl))) (nomark _)))) pss_nil)
      (pss_cons (ps_asg (pe_slice sl_list (pe_op op_cat (pv 0) (pe_lst (pa_cons pe_int pa_nil))) po_none (po_some pe_int)) (pg_unl rfl (pgs_cons (pg_name (i := 2) sc_Lalike_roots.nd rfl (by first | exact Or.inl rfl | exact Or.inr rfl)) (pgs_cons (pg_name (i := 3) sc_Lalike_roots.nd rfl (by first | exact Or.inl rfl | exact Or.inr rfl)) (pgs_cons (pg_name (i := 4) sc_Lalike_roots.nd rfl (by first | exact Or.inl rfl | exact Or.inr rfl)) pgs_nil)))))
      (pss_cons (ps_if (pt_cmpR op_eq (pe_callB call_len_seq (by rfl) T.z_len (by decide +kernel) (pa_cons (pv 0) pa_nil)) pe_int (nomark _)) (pss_one (ps_ret (pe_or (pe_cmpR op_eq (pv 2) pe_int (nomark _)) (pe_one (pe_cmpR op_eq (pe_op op_mulW (pv 4) (pv 4)) (pe_op op_mulW pe_int (pv 2)) (nomark _)))))) pss_nil)
      (pss_cons (ps_set (i := 1) sc_Lalike_roots.nd rfl (by first | exact Or.inl rfl | exact Or.inr rfl) (pe_op op_sub (pe_op op_mulW (pe_op op_mulW (pe_op op_mulW pe_int (pv 4)) (pv 3)) (pv 2)) (pe_op op_mulW (pe_op op_mulW (pe_op op_mulW (pe_op op_mulW pe_int (pv 4)) (pv 4)) (pv 4)) (pv 2))))
      (pss_cons (ps_set (i := 1) sc_Lalike_roots.nd rfl (by first | exact Or.inl rfl | exact Or.inr rfl) (pe_op op_sub (pe_op op_add (pv 1) (pe_op op_mulW (pe_op op_mulW (pe_op op_mulW (pv 4) (pv 4)) (pv 3)) (pv 3))) (pe_op op_mulW (pe_op op_mulW (pe_op op_mulW pe_int (pv 3)) (pv 3)) (pv 3))))
      (pss_one (ps_ret (pe_and (pe_cmpR op_eq (pe_callB call_len_seq (by rfl) T.z_len (by decide +kernel) (pa_cons (pv 0) pa_nil)) pe_int (nomark _)) (pe_one (pe_cmpR op_eq (pv 1) (pe_op op_mulW (pe_op op_mulW pe_int (pv 2)) (pv 2)) (nomark _))))))))))), ?_⟩
    refine ⟨_, rfl, p, _, rfl, .inl hS, rfl, _, rfl, ?_⟩
    have b4 : Bd 4 4 := bd_lit
    rcases ns with _ | ⟨c, _ | ⟨b, _ | ⟨a, _ | ⟨d, _ | ⟨e, _ | ⟨g, r⟩⟩⟩⟩⟩⟩
    · simp at l2
    · simp at l2
    · -- two numbers
      have bc : Bd 100 c := sm _ (by simp)
      have bb : Bd 100 b := sm _ (by simp)
      refine ite2 (fun hc => absurd hc (by simp)) (fun hc => ?_)
      refine ⟨_, rfl, (by show 1 ≤ sizeLine; decide), fun l hl => ?_⟩
      refine ⟨p, l, _, _, rfl, rfl, same_new hl _ _ hL, upd_same, (by show 3 ≤ sizeLine; decide), fun l3 hl3 => ?_⟩
      have s1 : Same H (upd (upd H l (.lst [V.int 0])) l3 (.lst (List.map V.int [c, b] ++ [V.int 0]))) := (same_new hl).trans (same_new hl3)
      refine ⟨_, rfl, l3, _, rfl, SqL.of upd_same, fun l4 hl4 => ?_⟩
      refine ⟨l4, _, rfl, SqL.of upd_same, rfl, _, _, rfl, _, _, rfl, _, _, rfl, rfl, ?_⟩
      have s2 := s1.trans (same_new (o := .lst (cutV (List.map V.int [c, b] ++ [V.int 0]) none (some 3))) hl4)
      refine ⟨_, rfl, p, _, rfl, .inl (s2.seq hS), rfl, _, rfl, ?_⟩
      refine ite2 (fun hc => absurd hc (by simp)) (fun hc => ?_)
      have b18 : Bd 18 18 := bd_lit
      have b0 : Bd 0 0 := bd_lit
      have b27 : Bd 27 27 := bd_lit
      refine ⟨_, rfl, _, _, rfl, rfl, b18.cm b0, _, rfl, _, _, rfl, rfl, (b18.mul b0).cm bb, _, rfl, _, _, rfl, rfl, ((b18.mul b0).mul bb).cm bc,
        _, rfl, _, _, rfl, rfl, b4.cm b0, _, rfl, _, _, rfl, rfl, (b4.mul b0).cm b0, _, rfl, _, _, rfl, rfl, ((b4.mul b0).mul b0).cm b0, _, rfl, _, _, rfl, rfl, (((b4.mul b0).mul b0).mul b0).cm bc, _, _, rfl, rfl, ?_⟩
      refine ⟨_, rfl, _, rfl, _, rfl, _, _, rfl, rfl, b0.cm b0, _, rfl, _, _, rfl, rfl, (b0.mul b0).cm bb, _, rfl, _, _, rfl, rfl, ((b0.mul b0).mul bb).cm bb, _, _, rfl, rfl,
        _, rfl, _, _, rfl, rfl, b4.cm bb, _, rfl, _, _, rfl, rfl, (b4.mul bb).cm bb, _, rfl, _, _, rfl, rfl, ((b4.mul bb).mul bb).cm bb, _, _, rfl, rfl, ?_⟩
      refine ⟨_, rfl, p, _, rfl, .inl (s2.seq hS), rfl, _, rfl, ?_⟩
      refine ite2 (fun hc => absurd hc (by simp)) (fun hc => ?_)
      have e : (decide (V.int ((List.map V.int [c, b]).length : Nat) = V.int 4)) = decide (toldOf [c, b] = 0) := by
        rw [decide_eq_false (by simp), decide_eq_false (show ¬ toldOf [c, b] = 0 from (by decide : ¬ (1 : Int) = 0))]
      show Q (.bl (decide (V.int ((List.map V.int [c, b]).length : Nat) = V.int 4))) _
      rw [e]
      exact k _ s2
    · have bc : Bd 100 c := sm _ (by simp)
      have bb : Bd 100 b := sm _ (by simp)
      refine ite2 (fun hc => ?_) (fun hc => absurd (by simp) hc)
      refine ⟨_, rfl, p, _, _, _, rfl, rfl, hS, rfl, _, rfl, p, _, _, _, rfl, rfl, hS, rfl, _, _, rfl, rfl, bb.cm bb, _, rfl, p, _, _, _, rfl, rfl, hS, rfl, _, _, rfl, rfl, b4.cm bc, rfl, ?_⟩
      have e : decide (V.int (b * b) = V.int (4 * c)) = decide (toldOf [c, b, a] = 0) := dec_int (by show _ ↔ b * b - 4 * c = 0; omega)
      show Q (.bl (decide (V.int (b * b) = V.int (4 * c)))) _
      rw [e]
      exact k _ (Same.refl H)
    · have bc : Bd 100 c := sm _ (by simp)
      have bb : Bd 100 b := sm _ (by simp)
      have ba : Bd 100 a := sm _ (by simp)
      refine ite2 (fun hc => absurd hc (by simp)) (fun hc => ?_)
      refine ⟨_, rfl, (by show 1 ≤ sizeLine; decide), fun l hl => ?_⟩
      refine ⟨p, l, _, _, rfl, rfl, same_new hl _ _ hL, upd_same, (by show 5 ≤ sizeLine; decide), fun l3 hl3 => ?_⟩
      have s1 : Same H (upd (upd H l (.lst [V.int 0])) l3 (.lst (List.map V.int [c, b, a, d] ++ [V.int 0]))) := (same_new hl).trans (same_new hl3)
      refine ⟨_, rfl, l3, _, rfl, SqL.of upd_same, fun l4 hl4 => ?_⟩
      refine ⟨l4, _, rfl, SqL.of upd_same, rfl, _, _, rfl, _, _, rfl, _, _, rfl, rfl, ?_⟩
      have s2 := s1.trans (same_new (o := .lst (cutV (List.map V.int [c, b, a, d] ++ [V.int 0]) none (some 3))) hl4)
      refine ⟨_, rfl, p, _, rfl, .inl (s2.seq hS), rfl, _, rfl, ?_⟩
      refine ite2 (fun hc => absurd hc (by simp)) (fun hc => ?_)
      have b18 : Bd 18 18 := bd_lit
      have b27 : Bd 27 27 := bd_lit
      refine ⟨_, rfl, _, _, rfl, rfl, b18.cm ba, _, rfl, _, _, rfl, rfl, (b18.mul ba).cm bb, _, rfl, _, _, rfl, rfl, ((b18.mul ba).mul bb).cm bc,
        _, rfl, _, _, rfl, rfl, b4.cm ba, _, rfl, _, _, rfl, rfl, (b4.mul ba).cm ba, _, rfl, _, _, rfl, rfl, ((b4.mul ba).mul ba).cm ba, _, rfl, _, _, rfl, rfl, (((b4.mul ba).mul ba).mul ba).cm bc, _, _, rfl, rfl, ?_⟩
      refine ⟨_, rfl, _, rfl, _, rfl, _, _, rfl, rfl, ba.cm ba, _, rfl, _, _, rfl, rfl, (ba.mul ba).cm bb, _, rfl, _, _, rfl, rfl, ((ba.mul ba).mul bb).cm bb, _, _, rfl, rfl,
        _, rfl, _, _, rfl, rfl, b4.cm bb, _, rfl, _, _, rfl, rfl, (b4.mul bb).cm bb, _, rfl, _, _, rfl, rfl, ((b4.mul bb).mul bb).cm bb, _, _, rfl, rfl, ?_⟩
      refine ⟨_, rfl, p, _, rfl, .inl (s2.seq hS), rfl, _, rfl, ?_⟩
      refine ite2 (fun hc => ?_) (fun hc => absurd (by simp) hc)
      refine ⟨_, rfl, _, rfl, _, _, rfl, rfl, b27.cm bc, _, rfl, _, _, rfl, rfl, (b27.mul bc).cm bc, rfl, ?_⟩
      have e : decide (V.int (18 * a * b * c - 4 * a * a * a * c + a * a * b * b - 4 * b * b * b) = V.int (27 * c * c)) = decide (toldOf [c, b, a, d] = 0) := dec_int (by
        show _ ↔ 18 * a * b * c - 4 * a * a * a * c + a * a * b * b - 4 * b * b * b - 27 * c * c = 0
        generalize 18 * a * b * c - 4 * a * a * a * c + a * a * b * b - 4 * b * b * b = x
        generalize 27 * c * c = y
        omega)
      show Q (.bl (decide (V.int (18 * a * b * c - 4 * a * a * a * c + a * a * b * b - 4 * b * b * b) = V.int (27 * c * c)))) _
      rw [e]
      exact k _ s2
    · have bc : Bd 100 c := sm _ (by simp)
      have ba : Bd 100 a := sm _ (by simp)
      refine ite2 (fun hc => absurd hc (by simp)) (fun hc => ?_)
      refine ⟨_, rfl, (by show 1 ≤ sizeLine; decide), fun l hl => ?_⟩
      refine ⟨p, l, _, _, rfl, rfl, same_new hl _ _ hL, upd_same, (by show 6 ≤ sizeLine; decide), fun l3 hl3 => ?_⟩
      have s1 : Same H (upd (upd H l (.lst [V.int 0])) l3 (.lst (List.map V.int [c, b, a, d, e] ++ [V.int 0]))) := (same_new hl).trans (same_new hl3)
      refine ⟨_, rfl, l3, _, rfl, SqL.of upd_same, fun l4 hl4 => ?_⟩
      refine ⟨l4, _, rfl, SqL.of upd_same, rfl, _, _, rfl, _, _, rfl, _, _, rfl, rfl, ?_⟩
      have s2 := s1.trans (same_new (o := .lst (cutV (List.map V.int [c, b, a, d, e] ++ [V.int 0]) none (some 3))) hl4)
      refine ⟨_, rfl, p, _, rfl, .inl (s2.seq hS), rfl, _, rfl, ?_⟩
      refine ite2 (fun hc => ?_) (fun hc => absurd (by simp) hc)
      refine ⟨_, rfl, rfl, _, rfl, ?_⟩
      refine ite2 (fun hc => ?_) (fun hc => ?_)
      · have : c = 0 := by have := of_decide_eq_true hc; injection this
        have e : true = decide (toldOf [c, b, a, d, e] = 0) := by
          symm; apply decide_eq_true
          show c * (a * a - 4 * c) = 0
          rw [this, Int.zero_mul]
        rw [e]
        exact k _ s2
      · have hc0 : c ≠ 0 := fun z => hc (decide_eq_true (by rw [z]))
        refine ⟨_, rfl, _, rfl, _, _, rfl, rfl, ba.cm ba, _, rfl, _, _, rfl, rfl, b4.cm bc, rfl, ?_⟩
        have e : decide (V.int (a * a) = V.int (4 * c)) = decide (toldOf [c, b, a, d, e] = 0) := dec_int (by
          show _ ↔ c * (a * a - 4 * c) = 0
          rw [Int.mul_eq_zero]
          constructor
          · intro h; right; omega
          · intro h
            rcases h with h | h
            · exact absurd h hc0
            · omega)
        show Q (.bl (decide (V.int (a * a) = V.int (4 * c)))) _
        rw [e]
        exact k _ s2
    · simp at l5

theorem Xt.same1 {a : Addr} {H H1 H2 : Hp} (x : Xt a H H1) (y : Same H1 H2) : Xt a H H2 := x.trans (Xt.of y)
theorem Xt.updNew {a D : Addr} {H H1 : Hp} {o : HO} (x : Xt a H H1) (h : H D = none) : Xt a H (L2.upd H1 D o) := fun b u nb hb => by
  rw [upd_ne (ne_of_none hb h)]
  exact x b u nb hb
theorem Pur.updNe {H : Hp} {a D : Addr} {m : Nat} {o : HO} (p : Pur H a m) (h : D ≠ a) : Pur (L2.upd H D o) a m := by
  obtain ⟨d, c, k, h1, h2⟩ := p
  exact ⟨d, c, k, by rw [upd_ne h.symm]; exact h1, h2⟩
theorem Xt.free {a D : Addr} {H H1 : Hp} (x : Xt a H H1) (n : D ≠ a) (h : H1 D = none) : H D = none := by
  cases e : H D with
  | none => rfl
  | some o => rw [x D o n e] at h; cases h
theorem modB {x : Int} (j : Int) {n : Nat} (h : 0 < j) (hn : j ≤ n) : Bd n (x.fmod j) := by
  have := fmod_bd (x := x) h
  unfold Bd; omega
abbrev s_Lthree : Stmt := top 25
abbrev N_Lthree : List Str := ["_law_purse_here", "_law_most", "_law_way", "_law_a", "_law_b", "_law_c", "_law_k", "_law_p", "_law_q", "_law_r"]
abbrev P_Lthree : List Str := ["_law_purse_here", "_law_most"]
theorem sc_Lthree : FnScope N_Lthree ["_law_purse_here", "_law_most"] (defScope s_Lthree) := ⟨rfl, rfl, rfl, by decide +kernel, rfl, by decide +kernel, by decide +kernel⟩

def sp_Lthree : Sp := fun vs H Q _ => ∃ (a : Addr) (n : Int) (m : Nat), vs = [.ref a, .int n] ∧ 1 ≤ n ∧ n ≤ 100 ∧ Pur H a m ∧ m ≤ 2 ^ 28 ∧
  ∀ H' (p : Addr) (x y z : Int), Xt a H H' → Pur H' a (m + 100) → p ≠ a → H p = none → H' p = some (.lst ([x, y, z, 1].map V.int)) → Q (.ref p) H'
theorem ok_Lthree (T : Txt K mg) {f : Addr} {fd : FuncData} (F : L2.Fun K "_law_three" "_law_three" s_Lthree f fd) (h_Ldraw : Cal P w K mg base 2 "_law_draw" sp_Ldraw []) : FnOk P w K mg base CX0 3 f fd P_Lthree sp_Lthree := by
  refine F.ok sc_Lthree (fun vs H Q E h => ?_) (fun cdv A outer s H vs Q E hr h => ?_)
  · obtain ⟨a, n, m, rfl, _⟩ := h
    rfl
  · obtain ⟨a, n, m, rfl, n1, n2, hp, hm, k⟩ := h
    refine ⟨_, (pss_cons (ps_set (i := 2) sc_Lthree.nd rfl (by first | exact Or.inl rfl | exact Or.inr rfl) (pe_c h_Ldraw hr (by decide) rfl (pa_cons (pv 0) (pa_cons pe_int pa_nil))))
      (pss_cons (ps_asg (pe_lc (own := [("_law_k", 6)]) (g := gName 6) (by rfl) sc_Lthree.nd (pi_range1 rfl T.z_range (pa_cons pe_int pa_nil)) (blkOk_by (own := [("_law_k", 6)]) (N := N_Lthree) (sc := defScope s_Lthree) (by decide +kernel)) (fun _ _ _ _ _ => (pg_name (i := 6) sc_Lthree.nd rfl (by first | exact Or.inl rfl | exact Or.inr rfl))) (fun _ _ _ _ _ => pts_nil) (fun _ _ _ _ _ => (pe_op op_sub (pe_c h_Ldraw hr (by decide) rfl (pa_cons (pv 0) (pa_cons (pe_op op_add (pe_op op_mulW pe_int (pv 1)) pe_int) pa_nil))) (pv 1)))) (pg_unl rfl (pgs_cons (pg_name (i := 3) sc_Lthree.nd rfl (by first | exact Or.inl rfl | exact Or.inr rfl)) (pgs_cons (pg_name (i := 4) sc_Lthree.nd rfl (by first | exact Or.inl rfl | exact Or.inr rfl)) (pgs_cons (pg_name (i := 5) sc_Lthree.nd rfl (by first | exact Or.inl rfl | exact Or.inr rfl)) pgs_nil)))))
      (pss_cons (ps_if (pt_cmpR op_eq (pv 2) pe_int (nomark _)) (pss_cons (ps_set (i := 3) sc_Lthree.nd rfl (by first | exact Or.inl rfl | exact Or.inr rfl) (pe_op op_modN (pv 3) pe_int))
      (pss_one (ps_ret (pe_lst (pa_cons (pe_un un_neg pe_int) (pa_cons (pe_op op_sub (pe_op op_sub pe_int (pv 3)) pe_int) (pa_cons (pe_op op_sub pe_int (pv 3)) (pa_cons pe_int pa_nil)))))))) pss_nil)
      (pss_cons (ps_if (pt_cmpR op_eq (pv 2) pe_int (nomark _)) (pss_cons (ps_par3 (i := 7) (j := 8) (l := 9) (by rfl) sc_Lthree.nd rfl rfl rfl (by decide) (by decide) (by decide) rfl rfl rfl (pa_cons (pe_op op_modN (pv 3) pe_int) (pa_cons (pe_op op_modN (pv 4) pe_int) (pa_cons (pe_op op_modN (pv 5) pe_int) pa_nil))) (by rfl))
      (pss_one (ps_ret (pe_lst (pa_cons (pe_op op_sub pe_int (pe_op op_mulW (pe_op op_mulW (pv 7) (pv 8)) (pv 9))) (pa_cons (pe_op op_add (pe_op op_add (pe_op op_mulW (pv 7) (pv 8)) (pe_op op_mulW (pv 7) (pv 9))) (pe_op op_mulW (pv 8) (pv 9))) (pa_cons (pe_op op_sub (pe_op op_sub (pe_op op_sub pe_int (pv 7)) (pv 8)) (pv 9)) (pa_cons pe_int pa_nil)))))))) pss_nil)
      (pss_cons (ps_if (pt_cmpR op_eq (pv 2) pe_int (nomark _)) (pss_cons (ps_par3 (i := 7) (j := 8) (l := 9) (by rfl) sc_Lthree.nd rfl rfl rfl (by decide) (by decide) (by decide) rfl rfl rfl (pa_cons (pe_op op_modN (pv 3) pe_int) (pa_cons (pe_op op_modN (pv 4) pe_int) (pa_cons (pe_op op_modN (pv 5) pe_int) pa_nil))) (by rfl))
      (pss_one (ps_ret (pe_lst (pa_cons (pe_op op_sub pe_int (pe_op op_mulW (pv 7) (pv 8))) (pa_cons (pe_op op_sub (pv 8) (pe_op op_mulW (pv 7) (pv 9))) (pa_cons (pe_op op_sub (pv 9) (pv 7)) (pa_cons pe_int pa_nil)))))))) pss_nil)
      (pss_one (ps_ret (pe_lst (pa_cons (pv 5) (pa_cons (pe_ix ix_list (pe_lst (pa_cons (pv 4) (pa_cons pe_int pa_nil))) (pe_op op_sub (pv 2) pe_int) (fun _ _ => rfl)) (pa_cons (pe_ix ix_list (pe_lst (pa_cons (pv 3) (pa_cons pe_int pa_nil))) (pe_op op_sub (pv 2) pe_int) (fun _ _ => rfl)) (pa_cons pe_int pa_nil)))))))))))), ?_⟩
    refine ⟨_, rfl, a, 5, m, rfl, by decide, by decide, hp, by omega, fun H1 way x1 hp1 w0 w5 => ?_⟩
    refine ⟨3, rfl, by decide, by decide, fun D hD => ?_⟩
    obtain ⟨o, ho⟩ := hp1.at
    have nda : D ≠ a := (ne_of_none ho hD).symm
    have bn : Bd 100 n := by unfold Bd; omega
    have H1D : H D = none := x1.free nda hD
    refine lc_range (lo := 0) (n := 3) (fun i H' => ∃ ds : List Int, ds.length = i ∧ H' D = some (.lst (ds.map V.int)) ∧ Xt a H H' ∧ Pur H' a (m + 20 + 20 * i)) ⟨[], rfl, upd_same, x1.same1 (same_new hD), hp1.same (same_new hD)⟩ ?_ ?_
    · rintro i H' hi ⟨ds, hds, hD', x2, hp2⟩
      refine ⟨rfl, ?_⟩
      refine ⟨_, rfl, _, rfl, _, _, rfl, rfl, (bd_lit (n := 2)).cm bn, _, _, rfl, rfl, a, 2 * n + 1, m + 20 + 20 * i, rfl, by omega, by omega, hp2, by omega, fun H3 z x3 hp3 z0 z1 => ?_⟩
      refine ⟨_, rfl, _, _, rfl, rfl, ds.map V.int, x3 _ _ nda hD', by rw [List.length_map]; exact small1000 (by omega), ?_⟩
      refine ⟨ds ++ [z - n], by rw [List.length_append, hds]; rfl, ?_, ?_, ?_⟩
      · rw [upd_same, List.map_append]; rfl
      · exact (x2.trans x3).updNew H1D
      · exact (hp3.updNe nda).mono (by omega)
    · rintro H2 ⟨ds, hds, hD', x2, hp2⟩
      have fin : ∀ (x y z : Int) (H3 : Hp) (l : Addr), Same H2 H3 → H3 l = none → Q (.ref l) (upd H3 l (.lst ([x, y, z, 1].map V.int))) := fun x y z H3 l sm hl => by
        obtain ⟨o', ho'⟩ := (hp2.same sm).at
        exact k _ l x y z (x2.same1 (sm.trans (same_new hl))) ((hp2.same (sm.trans (same_new hl))).mono (by omega)) (ne_of_none ho' hl).symm (x2.free (ne_of_none ho' hl).symm (sm.free hl)) upd_same
      rcases ds with _ | ⟨da, _ | ⟨db, _ | ⟨dc, _ | ⟨dd, r⟩⟩⟩⟩
      · simp at hds
      · simp at hds
      · simp at hds
      · refine ⟨D, _, rfl, SqL.of hD', rfl, _, _, rfl, _, _, rfl, _, _, rfl, rfl, ?_⟩
        refine ⟨_, rfl, rfl, _, rfl, ?_⟩
        refine ite2 (fun hc => ?_) (fun hc => ?_)
        · refine ⟨_, rfl, _, _, rfl, rfl, (show (97 : Int) ≠ 0 by decide), ?_⟩
          refine ⟨_, rfl, _, rfl, _, _, rfl, rfl, _, _, rfl, rfl, _, rfl, _, _, rfl, rfl, sz4, fun l hl => ?_⟩
          exact fin _ _ _ _ l (Same.refl _) hl
        · refine ⟨_, rfl, rfl, _, rfl, ?_⟩
          refine ite2 (fun hc1 => ?_) (fun hc1 => ?_)
          · refine ⟨_, rfl, _, _, rfl, rfl, (show (5 : Int) ≠ 0 by decide), _, rfl, _, _, rfl, rfl, (show (5 : Int) ≠ 0 by decide), _, rfl, _, _, rfl, rfl, (show (4 : Int) ≠ 0 by decide), _, _, _, rfl, ?_⟩
            have p5 : Bd 5 (da.fmod 5) := modB 5 (by decide) (by decide)
            have q5 : Bd 5 (db.fmod 5) := modB 5 (by decide) (by decide)
            have r4 : Bd 4 (dc.fmod 4) := modB 4 (by decide) (by decide)
            refine ⟨_, rfl, _, rfl, _, _, rfl, rfl, p5.cm q5, _, rfl, _, _, rfl, rfl, (p5.mul q5).cm r4, _, _, rfl, rfl,
              _, rfl, _, rfl, _, _, rfl, rfl, p5.cm q5, _, rfl, _, rfl, _, _, rfl, rfl, p5.cm r4, _, _, rfl, rfl, _, rfl, _, rfl, _, _, rfl, rfl, q5.cm r4, _, _, rfl, rfl,
              _, rfl, _, _, rfl, rfl, _, rfl, _, _, rfl, rfl, _, rfl, _, _, rfl, rfl, sz4, fun l hl => ?_⟩
            exact fin _ _ _ _ l (Same.refl _) hl
          · refine ⟨_, rfl, rfl, _, rfl, ?_⟩
            refine ite2 (fun hc2 => ?_) (fun hc2 => ?_)
            · refine ⟨_, rfl, _, _, rfl, rfl, (show (5 : Int) ≠ 0 by decide), _, rfl, _, _, rfl, rfl, (show (19 : Int) ≠ 0 by decide), _, rfl, _, _, rfl, rfl, (show (9 : Int) ≠ 0 by decide), _, _, _, rfl, ?_⟩
              have p5 : Bd 5 (da.fmod 5) := modB 5 (by decide) (by decide)
              have q5 : Bd 19 (db.fmod 19) := modB 19 (by decide) (by decide)
              have r4 : Bd 9 (dc.fmod 9) := modB 9 (by decide) (by decide)
              refine ⟨_, rfl, _, rfl, _, _, rfl, rfl, p5.cm q5, _, _, rfl, rfl,
                _, rfl, _, rfl, _, rfl, _, _, rfl, rfl, p5.cm r4, _, _, rfl, rfl, _, rfl, _, rfl, _, _, rfl, rfl, sz4, fun l hl => ?_⟩
              exact fin _ _ _ _ l (Same.refl _) hl
            · have w34 : way = 3 ∨ way = 4 := by
                have h0 : way ≠ 0 := fun z => hc (decide_eq_true (by rw [z]))
                have h1 : way ≠ 1 := fun z => hc1 (decide_eq_true (by rw [z]))
                have h2 : way ≠ 2 := fun z => hc2 (decide_eq_true (by rw [z]))
                omega
              have key : ∀ v : Int, ∃ u : Int, atI [V.int v, V.int 0] (way - 3) = some (V.int u) := fun v => by
                rcases w34 with rfl | rfl
                · exact ⟨v, rfl⟩
                · exact ⟨0, rfl⟩
              obtain ⟨u1, hu1⟩ := key db
              obtain ⟨u2, hu2⟩ := key da
              refine ⟨_, rfl, _, rfl, sz2, fun l1 hl1 => ?_⟩
              refine ⟨_, rfl, _, _, rfl, rfl, l1, _, _, _, rfl, rfl, SqL.of upd_same, hu1, _, rfl, sz2, fun l2 hl2 => ?_⟩
              refine ⟨_, rfl, _, _, rfl, rfl, l2, _, _, _, rfl, rfl, SqL.of upd_same, hu2, sz4, fun l hl => ?_⟩
              exact fin _ _ _ _ l ((same_new hl1).trans (same_new hl2)) hl
      · simp at hds

abbrev s_Lfour : Stmt := top 26
abbrev N_Lfour : List Str := ["_law_purse_here", "_law_most", "_law_way", "_law_a", "_law_b", "_law_many", "_law_k", "_law_low", "_law_high"]
abbrev P_Lfour : List Str := ["_law_purse_here", "_law_most"]
theorem sc_Lfour : FnScope N_Lfour ["_law_purse_here", "_law_most"] (defScope s_Lfour) := ⟨rfl, rfl, rfl, by decide +kernel, rfl, by decide +kernel, by decide +kernel⟩

def sp_Lfour : Sp := fun vs H Q _ => ∃ (a : Addr) (n : Int) (m : Nat), vs = [.ref a, .int n] ∧ 1 ≤ n ∧ n ≤ 100 ∧ Pur H a m ∧ m ≤ 2 ^ 28 ∧
  ∀ H' (p : Addr) (x y : Int), Xt a H H' → Pur H' a (m + 100) → p ≠ a → H p = none → H' p = some (.lst ([x, 0, y, 0, 1].map V.int)) → Q (.ref p) H'
theorem ok_Lfour (T : Txt K mg) {f : Addr} {fd : FuncData} (F : L2.Fun K "_law_four" "_law_four" s_Lfour f fd) (h_Ldraw : Cal P w K mg base 2 "_law_draw" sp_Ldraw []) : FnOk P w K mg base CX0 3 f fd P_Lfour sp_Lfour := by
  refine F.ok sc_Lfour (fun vs H Q E h => ?_) (fun cdv A outer s H vs Q E hr h => ?_)
  · obtain ⟨a, n, m, rfl, _⟩ := h
    rfl
  · obtain ⟨a, n, m, rfl, n1, n2, hp, hm, k⟩ := h
    refine ⟨_, (pss_cons (ps_set (i := 2) sc_Lfour.nd rfl (by first | exact Or.inl rfl | exact Or.inr rfl) (pe_c h_Ldraw hr (by decide) rfl (pa_cons (pv 0) (pa_cons pe_int pa_nil))))
      (pss_cons (ps_asg (pe_lc (own := [("_law_k", 6)]) (g := gName 6) (by rfl) sc_Lfour.nd (pi_range1 rfl T.z_range (pa_cons pe_int pa_nil)) (blkOk_by (own := [("_law_k", 6)]) (N := N_Lfour) (sc := defScope s_Lfour) (by decide +kernel)) (fun _ _ _ _ _ => (pg_name (i := 6) sc_Lfour.nd rfl (by first | exact Or.inl rfl | exact Or.inr rfl))) (fun _ _ _ _ _ => pts_nil) (fun _ _ _ _ _ => (pe_op op_sub (pe_c h_Ldraw hr (by decide) rfl (pa_cons (pv 0) (pa_cons (pe_op op_add (pe_op op_mulW pe_int (pv 1)) pe_int) pa_nil))) (pv 1)))) (pg_unl rfl (pgs_cons (pg_name (i := 3) sc_Lfour.nd rfl (by first | exact Or.inl rfl | exact Or.inr rfl)) (pgs_cons (pg_name (i := 4) sc_Lfour.nd rfl (by first | exact Or.inl rfl | exact Or.inr rfl)) pgs_nil))))
      (pss_cons (ps_if (pt_cmpR op_eq (pv 2) pe_int (nomark _)) (pss_one (ps_ret (pe_lst (pa_cons (pe_op op_mulW (pe_op op_modN (pv 3) pe_int) (pe_op op_modN (pv 4) pe_int)) (pa_cons pe_int (pa_cons (pe_op op_sub (pe_op op_sub pe_int (pe_op op_modN (pv 3) pe_int)) (pe_op op_modN (pv 4) pe_int)) (pa_cons pe_int (pa_cons pe_int pa_nil)))))))) pss_nil)
      (pss_cons (ps_if (pt_cmpR op_eq (pv 2) pe_int (nomark _)) (pss_one (ps_ret (pe_lst (pa_cons (pe_op op_mulW (pe_op op_modN (pv 4) pe_int) (pe_op op_modN (pv 4) pe_int)) (pa_cons pe_int (pa_cons (pv 3) (pa_cons pe_int (pa_cons pe_int pa_nil)))))))) pss_nil)
      (pss_cons (ps_if (pt_cmpR op_eq (pv 2) pe_int (nomark _)) (pss_cons (ps_set (i := 5) sc_Lfour.nd rfl (by first | exact Or.inl rfl | exact Or.inr rfl) (pe_op op_add pe_int (pe_op op_modN (pv 3) pe_int)))
      (pss_cons (ps_asg (pe_ix ix_list (pe_lst (pa_cons (pe_lst (pa_cons (pe_op op_mulW (pe_op op_mulW pe_int (pv 5)) (pv 5)) (pa_cons (pe_op op_sub pe_int (pe_op op_mulW pe_int (pv 5))) pa_nil))) (pa_cons (pe_lst (pa_cons pe_int (pa_cons pe_int pa_nil))) (pa_cons (pe_lst (pa_cons pe_int (pa_cons (pe_un un_neg pe_int) pa_nil))) (pa_cons (pe_lst (pa_cons pe_int (pa_cons (pe_un un_neg pe_int) pa_nil))) pa_nil))))) (pe_op op_modN (pv 4) pe_int) (fun _ _ => rfl)) (pg_unl rfl (pgs_cons (pg_name (i := 7) sc_Lfour.nd rfl (by first | exact Or.inl rfl | exact Or.inr rfl)) (pgs_cons (pg_name (i := 8) sc_Lfour.nd rfl (by first | exact Or.inl rfl | exact Or.inr rfl)) pgs_nil))))
      (pss_one (ps_ret (pe_lst (pa_cons (pv 7) (pa_cons pe_int (pa_cons (pv 8) (pa_cons pe_int (pa_cons pe_int pa_nil)))))))))) pss_nil)
      (pss_cons (ps_if (pt_cmpR op_eq (pv 2) pe_int (nomark _)) (pss_one (ps_ret (pe_lst (pa_cons (pv 4) (pa_cons pe_int (pa_cons (pe_op op_modN (pe_op op_mulW pe_int (pv 3)) pe_int) (pa_cons pe_int (pa_cons pe_int pa_nil)))))))) pss_nil)
      (pss_one (ps_ret (pe_lst (pa_cons (pv 4) (pa_cons pe_int (pa_cons (pv 3) (pa_cons pe_int (pa_cons pe_int pa_nil)))))))))))))), ?_⟩
    refine ⟨_, rfl, a, 5, m, rfl, by decide, by decide, hp, by omega, fun H1 way x1 hp1 w0 w5 => ?_⟩
    refine ⟨2, rfl, by decide, by decide, fun D hD => ?_⟩
    obtain ⟨o, ho⟩ := hp1.at
    have nda : D ≠ a := (ne_of_none ho hD).symm
    have bn : Bd 100 n := by unfold Bd; omega
    have H1D : H D = none := x1.free nda hD
    refine lc_range (lo := 0) (n := 2) (fun i H' => ∃ ds : List Int, ds.length = i ∧ H' D = some (.lst (ds.map V.int)) ∧ Xt a H H' ∧ Pur H' a (m + 20 + 20 * i) ∧ ∀ d ∈ ds, Bd 300 d) ⟨[], rfl, upd_same, x1.same1 (same_new hD), hp1.same (same_new hD), fun _ h => nomatch h⟩ ?_ ?_
    · rintro i H' hi ⟨ds, hds, hD', x2, hp2, hbd⟩
      refine ⟨rfl, ?_⟩
      refine ⟨_, rfl, _, rfl, _, _, rfl, rfl, (bd_lit (n := 2)).cm bn, _, _, rfl, rfl, a, 2 * n + 1, m + 20 + 20 * i, rfl, by omega, by omega, hp2, by omega, fun H3 z x3 hp3 z0 z1 => ?_⟩
      refine ⟨_, rfl, _, _, rfl, rfl, ds.map V.int, x3 _ _ nda hD', by rw [List.length_map]; exact small1000 (by omega), ?_⟩
      refine ⟨ds ++ [z - n], by rw [List.length_append, hds]; rfl, ?_, ?_, ?_, ?_⟩
      · rw [upd_same, List.map_append]; rfl
      · exact (x2.trans x3).updNew H1D
      · exact (hp3.updNe nda).mono (by omega)
      · intro d hd
        rcases List.mem_append.mp hd with h | h
        · exact hbd d h
        · rw [List.mem_singleton.mp h]; unfold Bd; omega
    · rintro H2 ⟨ds, hds, hD', x2, hp2, hbd⟩
      have fin : ∀ (x y : Int) (H3 : Hp) (l : Addr), Same H2 H3 → H3 l = none → Q (.ref l) (upd H3 l (.lst ([x, 0, y, 0, 1].map V.int))) := fun x y H3 l sm hl => by
        obtain ⟨o', ho'⟩ := (hp2.same sm).at
        exact k _ l x y (x2.same1 (sm.trans (same_new hl))) ((hp2.same (sm.trans (same_new hl))).mono (by omega)) (ne_of_none ho' hl).symm (x2.free (ne_of_none ho' hl).symm (sm.free hl)) upd_same
      rcases ds with _ | ⟨da, _ | ⟨db, _ | ⟨dd, r⟩⟩⟩
      · simp at hds
      · simp at hds
      · have bda : Bd 300 da := hbd _ (by simp)
        refine ⟨D, _, rfl, SqL.of hD', rfl, _, _, rfl, _, _, rfl, rfl, ?_⟩
        refine ⟨_, rfl, rfl, _, rfl, ?_⟩
        have a10 : Bd 10 (da.fmod 10) := modB 10 (by decide) (by decide)
        have b11 : Bd 11 (db.fmod 11) := modB 11 (by decide) (by decide)
        have n10 : (10 : Int) ≠ 0 := by decide
        have n11 : (11 : Int) ≠ 0 := by decide
        have n4 : (4 : Int) ≠ 0 := by decide
        refine ite2 (fun hc => ?_) (fun hc => ?_)
        · refine ⟨_, rfl, _, _, rfl, rfl, n10, _, rfl, _, _, rfl, rfl, n11, _, _, rfl, rfl, a10.cm b11, _, rfl, _, _, rfl, rfl, n10, _, _, rfl, rfl, _, rfl, _, _, rfl, rfl, n11, _, _, rfl, rfl, sz5, fun l hl => ?_⟩
          exact fin _ _ _ l (Same.refl _) hl
        · refine ⟨_, rfl, rfl, _, rfl, ?_⟩
          refine ite2 (fun hc1 => ?_) (fun hc1 => ?_)
          · refine ⟨_, rfl, _, _, rfl, rfl, n11, _, rfl, _, _, rfl, rfl, n11, _, _, rfl, rfl, b11.cm b11, _, rfl, sz5, fun l hl => ?_⟩
            exact fin _ _ _ l (Same.refl _) hl
          · refine ⟨_, rfl, rfl, _, rfl, ?_⟩
            refine ite2 (fun hc2 => ?_) (fun hc2 => ?_)
            · refine ⟨_, rfl, _, _, rfl, rfl, n4, _, _, rfl, rfl, ?_⟩
              have m5 : Bd 5 (1 + da.fmod 4) := by
                have := fmod_bd (x := da) (j := 4) (by decide)
                unfold Bd; omega
              refine ⟨_, rfl, _, _, rfl, rfl, (bd_lit (n := 2)).cm m5, _, rfl, _, _, rfl, rfl, ((bd_lit (n := 2)).mul m5).cm m5, _, rfl, _, _, rfl, rfl, (bd_lit (n := 4)).cm m5, _, _, rfl, rfl, sz2, fun l1 hl1 => ?_⟩
              refine ⟨sz2, fun l2 hl2 => ?_⟩
              refine ⟨_, rfl, sz2, fun l3 hl3 => ?_⟩
              refine ⟨_, rfl, sz2, fun l4 hl4 => ?_⟩
              refine ⟨sz4, fun l5 hl5 => ?_⟩
              refine ⟨_, rfl, _, _, rfl, rfl, n4, ?_⟩
              have r4 := fmod_bd (x := db) (j := 4) (by decide)
              obtain ⟨r, hr4⟩ : ∃ r, r = db.fmod 4 := ⟨_, rfl⟩
              rw [← hr4] at r4
              have t1 := same_new (o := .lst [V.int (2 * (1 + da.fmod 4) * (1 + da.fmod 4)), V.int (0 - 4 * (1 + da.fmod 4))]) hl1
              have t2 := same_new (o := .lst [V.int 5, V.int 5]) hl2
              have t3 := same_new (o := .lst [V.int 5, V.int (-5)]) hl3
              have t4 := same_new (o := .lst [V.int 18, V.int (-12)]) hl4
              have t5 := same_new (o := .lst [V.ref l1, V.ref l2, V.ref l3, V.ref l4]) hl5
              have key : ∃ (lp : Addr) (x y : Int), atI [V.ref l1, V.ref l2, V.ref l3, V.ref l4] r = some (.ref lp) ∧ SqL K (upd (upd (upd (upd (upd H2 l1 (.lst [V.int (2 * (1 + da.fmod 4) * (1 + da.fmod 4)), V.int (0 - 4 * (1 + da.fmod 4))])) l2 (.lst [V.int 5, V.int 5])) l3 (.lst [V.int 5, V.int (-5)])) l4 (.lst [V.int 18, V.int (-12)])) l5 (.lst [V.ref l1, V.ref l2, V.ref l3, V.ref l4])) lp [.int x, .int y] := by
                have : r = 0 ∨ r = 1 ∨ r = 2 ∨ r = 3 := by omega
                rcases this with rfl | rfl | rfl | rfl
                · exact ⟨l1, _, _, rfl, SqL.of (t5 _ _ (t4 _ _ (t3 _ _ (t2 _ _ upd_same))))⟩
                · exact ⟨l2, _, _, rfl, SqL.of (t5 _ _ (t4 _ _ (t3 _ _ upd_same)))⟩
                · exact ⟨l3, _, _, rfl, SqL.of (t5 _ _ (t4 _ _ upd_same))⟩
                · exact ⟨l4, _, _, rfl, SqL.of (t5 _ _ upd_same)⟩
              obtain ⟨lp, x, y, hat, hlp⟩ := key
              refine ⟨l5, _, _, _, rfl, rfl, SqL.of upd_same, hr4 ▸ hat, lp, _, rfl, hlp, rfl, _, _, rfl, _, _, rfl, rfl, ?_⟩
              refine ⟨_, rfl, _, rfl, sz5, fun l hl => ?_⟩
              exact fin _ _ _ l (((t1.trans t2).trans (t3.trans t4)).trans t5) hl
            · refine ⟨_, rfl, rfl, _, rfl, ?_⟩
              refine ite2 (fun hc3 => ?_) (fun hc3 => ?_)
              · refine ⟨_, rfl, _, rfl, _, _, rfl, rfl, (bd_lit (n := 2)).cm bda, _, _, rfl, rfl, (show (101 : Int) ≠ 0 by decide), sz5, fun l hl => ?_⟩
                exact fin _ _ _ l (Same.refl _) hl
              · refine ⟨_, rfl, _, rfl, sz5, fun l hl => ?_⟩
                exact fin _ _ _ l (Same.refl _) hl
      · simp at hds

abbrev s_Lpoly : Stmt := top 27
abbrev N_Lpoly : List Str := ["_law_purse_here", "_law_most", "_law_way", "_law_found", "_law_some", "_law_figure"]
abbrev P_Lpoly : List Str := ["_law_purse_here"]
theorem sc_Lpoly : FnScope N_Lpoly ["_law_purse_here"] (defScope s_Lpoly) := ⟨rfl, rfl, rfl, by decide +kernel, rfl, by decide +kernel, by decide +kernel⟩

def sp_Lpoly : Sp := fun vs H Q _ => ∃ (a : Addr) (m : Nat), vs = [.ref a] ∧ Pur H a m ∧ m ≤ 2 ^ 27 ∧
  ∀ H' (p : Addr) (ns : List Int), Xt a H H' → Pur H' a (m + 300) → p ≠ a → H p = none → H' p = some (.lst (ns.map V.int)) → GoodP ns → Q (.ref p) H'
theorem good_2 : GoodP [-2, 0, 1] := ⟨by decide, by decide, fun x h => (by decide : ∀ x ∈ [(-2 : Int), 0, 1], x.natAbs ≤ 100) x h, rfl, fun h => absurd h (by decide), fun h => absurd h (by decide), by decide⟩
theorem good_3 : GoodP [-2, 0, 0, 1] := ⟨by decide, by decide, fun x h => (by decide : ∀ x ∈ [(-2 : Int), 0, 0, 1], x.natAbs ≤ 100) x h, rfl, fun h => absurd h (by decide), fun h => absurd h (by decide), by decide⟩
theorem good_4 : GoodP [2, 0, -4, 0, 1] := ⟨by decide, by decide, fun x h => (by decide : ∀ x ∈ [(2 : Int), 0, -4, 0, 1], x.natAbs ≤ 100) x h, rfl, fun _ => rfl, fun _ => rfl, by decide⟩
theorem good_5 : GoodP [-2, 0, 0, 0, 1] := ⟨by decide, by decide, fun x h => (by decide : ∀ x ∈ [(-2 : Int), 0, 0, 0, 1], x.natAbs ≤ 100) x h, rfl, fun _ => rfl, fun _ => rfl, by decide⟩
/-- what a drawn list is ahead of its look: the forms -/
def Shape (ns : List Int) : Prop := (∃ c, ns = [c, 1]) ∨ (∃ c b, ns = [c, b, 1]) ∨ (∃ x y z, ns = [x, y, z, 1]) ∨ (∃ x y, ns = [x, 0, y, 0, 1])
theorem Shape.good {ns : List Int} (h : Shape ns) (b : ∀ x ∈ ns, Bd 100 x) (t : toldOf ns ≠ 0) : GoodP ns := by
  rcases h with ⟨c, rfl⟩ | ⟨c, d, rfl⟩ | ⟨x, y, z, rfl⟩ | ⟨x, y, rfl⟩
  · exact ⟨by simp, by simp, b, rfl, fun h => by simp at h, fun h => by simp at h, t⟩
  · exact ⟨by simp, by simp, b, rfl, fun h => by simp at h, fun h => by simp at h, t⟩
  · exact ⟨by simp, by simp, b, rfl, fun h => by simp at h, fun h => by simp at h, t⟩
  · exact ⟨by simp, by simp, b, rfl, fun _ => rfl, fun _ => rfl, t⟩
theorem Shape.len {ns : List Int} (h : Shape ns) : 2 ≤ ns.length ∧ ns.length ≤ 5 := by
  rcases h with ⟨c, rfl⟩ | ⟨c, d, rfl⟩ | ⟨x, y, z, rfl⟩ | ⟨x, y, rfl⟩ <;> simp
def absI (x : Int) : Int := if x < 0 then -x else x
/-- some = [..]; return some[way % 4] -/
def t_fb (K : PySem.W.Frag) : TS := tSeq (tAsg (tLst (tCons (tLst (tCons (tUn (rU fun i => V.int (-i)) (tC (V.int 2))) (tCons (tC (V.int 0)) (tCons (tC (V.int 1)) tNil))))
  (tCons (tLst (tCons (tUn (rU fun i => V.int (-i)) (tC (V.int 2))) (tCons (tC (V.int 0)) (tCons (tC (V.int 0)) (tCons (tC (V.int 1)) tNil)))))
  (tCons (tLst (tCons (tC (V.int 2)) (tCons (tC (V.int 0)) (tCons (tUn (rU fun i => V.int (-i)) (tC (V.int 4))) (tCons (tC (V.int 0)) (tCons (tC (V.int 1)) tNil))))))
  (tCons (tLst (tCons (tUn (rU fun i => V.int (-i)) (tC (V.int 2))) (tCons (tC (V.int 0)) (tCons (tC (V.int 0)) (tCons (tC (V.int 0)) (tCons (tC (V.int 1)) tNil)))))) tNil))))) (gName 4))
  (tRet (tOp (rIxL K) (tVar 4) (tOp (rI (fun x j => j ≠ 0) fun i j => V.int (i.fmod j)) (tVar 2) (tC (V.int 4)))))
/-- if max(..) > 100 or alike: .. return found -/
def t_polytail (K : PySem.W.Frag) : TS := tSeq (tIfS (tOr (tTest (tOp (rI0 fun i j => V.bl (decide (j < i))) (tCB (rMax K) (tCons (tLc (iList K (tVar 3)) (gName 5) tYes (tCB (fun xs H Q => ∃ i, xs = [V.int i] ∧ Q (V.int (if i < 0 then -i else i)) H) (tCons (tVar 5) tNil)) [5]) tNil)) (tC (V.int 100))))
  (tB (tCall sp_Lalike_roots [] C8.E0 (tCons (tVar 3) tNil)))) (t_fb K) tNext) (tRet (tVar 3))
theorem poly_tail {Q : VK} {H4 : Hp} {a p : Addr} {most way : Int} {ns : List Int} (w0 : 0 ≤ way) (w8 : way < 8) (hL : H4 p = some (.lst (ns.map V.int))) (sh : Shape ns)
    (k1 : ∀ H', Same H4 H' → GoodP ns → Q (.ref p) H') (k2 : ∀ H' q ms, Same H4 H' → H4 q = none → H' q = some (.lst (ms.map V.int)) → GoodP ms → Q (.ref q) H') :
    t_polytail K { nx := fun _ H' => Q .non H', rt := Q } [some (.ref a), some (.int most), some (.int way), some (.ref p), none, none] H4 := by
  have fb : ∀ H5, Same H4 H5 → t_fb K { nx := fun _ H' => Q .non H', rt := Q } [some (.ref a), some (.int most), some (.int way), some (.ref p), none, none] H5 := fun H5 s5 => by
    refine ⟨_, rfl, sz3, fun l1 hl1 => ⟨_, rfl, sz4, fun l2 hl2 => ⟨_, rfl, sz5, fun l3 hl3 => ⟨_, rfl, sz5, fun l4 hl4 => ⟨sz4, fun l5 hl5 => ?_⟩⟩⟩⟩⟩
    refine ⟨_, rfl, _, rfl, _, _, rfl, rfl, (show (4 : Int) ≠ 0 by decide), ?_⟩
    have r4 := fmod_bd (x := way) (j := 4) (by decide)
    obtain ⟨r, hr4⟩ : ∃ r, r = way.fmod 4 := ⟨_, rfl⟩
    rw [← hr4] at r4
    have t1 := same_new (o := .lst ([-2, 0, 1].map V.int)) hl1
    have t2 := same_new (o := .lst ([-2, 0, 0, 1].map V.int)) hl2
    have t3 := same_new (o := .lst ([2, 0, -4, 0, 1].map V.int)) hl3
    have t4 := same_new (o := .lst ([-2, 0, 0, 0, 1].map V.int)) hl4
    have t5 := same_new (o := .lst [V.ref l1, V.ref l2, V.ref l3, V.ref l4]) hl5
    have sm := s5.trans ((((t1.trans t2).trans t3).trans t4).trans t5)
    have fr : ∀ {q : Addr}, H5 q = none → H4 q = none := fun {q} h => s5.free h
    have : r = 0 ∨ r = 1 ∨ r = 2 ∨ r = 3 := by omega
    rcases this with rfl | rfl | rfl | rfl
    · refine ⟨l5, _, _, .ref l1, rfl, rfl, SqL.of upd_same, by rw [← hr4]; rfl, k2 _ l1 _ sm (fr hl1) (t5 _ _ (t4 _ _ (t3 _ _ (t2 _ _ upd_same)))) good_2⟩
    · refine ⟨l5, _, _, .ref l2, rfl, rfl, SqL.of upd_same, by rw [← hr4]; rfl, k2 _ l2 _ sm (fr (t1.free hl2)) (t5 _ _ (t4 _ _ (t3 _ _ upd_same))) good_3⟩
    · refine ⟨l5, _, _, .ref l3, rfl, rfl, SqL.of upd_same, by rw [← hr4]; rfl, k2 _ l3 _ sm (fr (t1.free (t2.free hl3))) (t5 _ _ (t4 _ _ upd_same)) good_4⟩
    · refine ⟨l5, _, _, .ref l4, rfl, rfl, SqL.of upd_same, by rw [← hr4]; rfl, k2 _ l4 _ sm (fr (t1.free (t2.free (t3.free hl4)))) (t5 _ _ upd_same) good_5⟩
  have hlen := sh.len
  refine ⟨_, rfl, p, rfl, ⟨_, SqL.of hL⟩, fun D hD => lc_list (K := K) (a := p) (xs := ns.map V.int) (fun i H' => H' D = some (.lst (((ns.take i).map absI).map V.int)) ∧ Same H4 H') ⟨upd_same, same_new hD⟩ (fun i H' _ h => SqL.of (h.2 _ _ hL)) ?_ ?_⟩
  · rintro i x H' hi ⟨hD', sm⟩
    obtain ⟨z, hz, rfl⟩ := item_of hi
    refine ⟨rfl, ?_⟩
    refine ⟨_, rfl, _, rfl, _, hD', ?_, ?_, ?_⟩
    · rw [List.length_map, List.length_map, List.length_take]
      exact small1000 (by omega)
    · rw [upd_same, take_more hz, List.map_append, List.map_append]
      rfl
    · intro b u hb
      rw [upd_ne (ne_of_none hb hD)]
      exact sm b u hb
  · rintro H' ⟨hD', sm⟩
    rw [List.length_map, List.take_of_length_le (Nat.le_refl _)] at hD'
    refine ⟨D, ns.map absI, rfl, SqL.of hD', by rw [List.length_map]; omega, fun mx hmx hall => ?_⟩
    refine ⟨_, _, rfl, rfl, _, rfl, ?_⟩
    refine ite2 (fun hc => ?_) (fun hc => ?_)
    · exact fb _ sm
    · have hm100 : ¬ 100 < mx := fun z => hc (decide_eq_true z)
      have bd : ∀ x ∈ ns, Bd 100 x := fun x hx => by
        have := hall (absI x) (List.mem_map_of_mem hx)
        unfold absI at this
        unfold Bd
        split at this <;> omega
      refine ⟨_, rfl, p, ns, rfl, sm _ _ hL, hlen.1, hlen.2, bd, fun H6 s6 => ?_⟩
      refine ⟨_, rfl, ?_⟩
      refine ite2 (fun hc2 => ?_) (fun hc2 => ?_)
      · exact fb _ (sm.trans s6)
      · have ht : toldOf ns ≠ 0 := fun z => hc2 (decide_eq_true z)
        exact ⟨_, rfl, k1 _ (sm.trans s6) (sh.good bd ht)⟩
theorem ok_Lpoly (T : Txt K mg) {f : Addr} {fd : FuncData} (F : L2.Fun K "_law_poly" "_law_poly" s_Lpoly f fd) (h_Ldraw : Cal P w K mg base 2 "_law_draw" sp_Ldraw []) (h_Lfour : Cal P w K mg base 3 "_law_four" sp_Lfour [])
    (h_Lthree : Cal P w K mg base 3 "_law_three" sp_Lthree []) (h_Lalike_roots : Cal P w K mg base 1 "_law_alike_roots" sp_Lalike_roots []) : FnOk P w K mg base CX0 4 f fd P_Lpoly sp_Lpoly := by
  refine F.ok sc_Lpoly (fun vs H Q E h => ?_) (fun cdv A outer s H vs Q E hr h => ?_)
  · obtain ⟨a, m, rfl, _⟩ := h
    rfl
  · obtain ⟨a, m, rfl, hp, hm, k⟩ := h
    refine ⟨_, (pss_cons (ps_set (i := 1) sc_Lpoly.nd rfl (by first | exact Or.inl rfl | exact Or.inr rfl) (pe_ix ix_list (pe_lst (pa_cons pe_int (pa_cons pe_int (pa_cons pe_int pa_nil)))) (pe_c h_Ldraw hr (by decide) rfl (pa_cons (pv 0) (pa_cons pe_int pa_nil))) (fun _ _ => rfl)))
      (pss_cons (ps_set (i := 2) sc_Lpoly.nd rfl (by first | exact Or.inl rfl | exact Or.inr rfl) (pe_c h_Ldraw hr (by decide) rfl (pa_cons (pv 0) (pa_cons pe_int pa_nil))))
      (pss_cons (ps_set (i := 3) sc_Lpoly.nd rfl (by first | exact Or.inl rfl | exact Or.inr rfl) (pe_lst (pa_cons (pe_op op_sub (pe_c h_Ldraw hr (by decide) rfl (pa_cons (pv 0) (pa_cons (pe_op op_add (pe_op op_mulW pe_int (pv 1)) pe_int) pa_nil))) (pv 1)) (pa_cons pe_int pa_nil))))
      (pss_cons (ps_if (PW.pt (pw_or (pt_cmpR op_eq (pv 2) pe_int (nomark _)) (pw_or1 (pt_cmpR op_eq (pv 2) pe_int (nomark _))))) (pss_one (ps_set (i := 3) sc_Lpoly.nd rfl (by first | exact Or.inl rfl | exact Or.inr rfl) (pe_op op_cat (pe_slice sl_list (pv 3) po_none (po_some pe_int)) (pe_lst (pa_cons (pe_op op_sub (pe_c h_Ldraw hr (by decide) rfl (pa_cons (pv 0) (pa_cons (pe_op op_add (pe_op op_mulW pe_int (pv 1)) pe_int) pa_nil))) (pv 1)) (pa_cons pe_int pa_nil)))))) pss_nil)
      (pss_cons (ps_if (pt_cmpR op_gt (pv 2) pe_int (nomark _)) (pss_one (ps_set (i := 3) sc_Lpoly.nd rfl (by first | exact Or.inl rfl | exact Or.inr rfl) (pe_c h_Lfour hr (by decide) rfl (pa_cons (pv 0) (pa_cons (pv 1) pa_nil))))) pss_nil)
      (pss_cons (ps_if (PW.pt (pw_and (pt_cmpR op_gt (pv 2) pe_int (nomark _)) (pw_and1 (pt_cmpR op_eq (pe_op op_modN (pv 2) pe_int) pe_int (nomark _))))) (pss_one (ps_set (i := 3) sc_Lpoly.nd rfl (by first | exact Or.inl rfl | exact Or.inr rfl) (pe_c h_Lthree hr (by decide) rfl (pa_cons (pv 0) (pa_cons (pv 1) pa_nil))))) pss_nil)
      (pss_cons (ps_if (PW.pt (pw_or (pt_cmpR op_gt (pe_callB (cr_max rfl) (by rfl) T.z_max (by decide +kernel) (pa_cons (pe_lc (own := [("_law_figure", 5)]) (g := gName 5) (by rfl) sc_Lpoly.nd (pi_list (pv 3)) (blkOk_by (own := [("_law_figure", 5)]) (N := N_Lpoly) (sc := defScope s_Lpoly) (by decide +kernel)) (fun _ _ _ _ _ => (pg_name (i := 5) sc_Lpoly.nd rfl (by first | exact Or.inl rfl | exact Or.inr rfl))) (fun _ _ _ _ _ => pts_nil) (fun _ _ _ _ _ => (pe_callB call_abs (by rfl) T.z_abs (by decide +kernel) (pa_cons (pv 5) pa_nil)))) pa_nil)) pe_int (nomark _)) (pw_or1 (pt_val (pe_c h_Lalike_roots hr (by decide) rfl (pa_cons (pv 3) pa_nil)))))) (pss_cons (ps_set (i := 4) sc_Lpoly.nd rfl (by first | exact Or.inl rfl | exact Or.inr rfl) (pe_lst (pa_cons (pe_lst (pa_cons (pe_un un_neg pe_int) (pa_cons pe_int (pa_cons pe_int pa_nil)))) (pa_cons (pe_lst (pa_cons (pe_un un_neg pe_int) (pa_cons pe_int (pa_cons pe_int (pa_cons pe_int pa_nil))))) (pa_cons (pe_lst (pa_cons pe_int (pa_cons pe_int (pa_cons (pe_un un_neg pe_int) (pa_cons pe_int (pa_cons pe_int pa_nil)))))) (pa_cons (pe_lst (pa_cons (pe_un un_neg pe_int) (pa_cons pe_int (pa_cons pe_int (pa_cons pe_int (pa_cons pe_int pa_nil)))))) pa_nil))))))
      (pss_one (ps_ret (pe_ix ix_list (pv 4) (pe_op op_modN (pv 2) pe_int) (fun _ _ => rfl))))) pss_nil)
      (pss_one (ps_ret (pv 3)))))))))), ?_⟩
    refine ⟨sz3, fun l hl => ?_⟩
    obtain ⟨o, ho⟩ := hp.at
    have nla : l ≠ a := (ne_of_none ho hl).symm
    refine ⟨_, rfl, a, 3, m, rfl, by decide, by decide, hp.same (same_new hl), by omega, fun H1 z x1 hp1 z0 z3 => ?_⟩
    have hL : H1 l = some (.lst [V.int 3, V.int 10, V.int 100]) := x1 _ _ nla upd_same
    have x01 : Xt a H H1 := (Xt.of (same_new hl)).trans x1
    have key : ∃ most : Int, atI [V.int 3, V.int 10, V.int 100] z = some (V.int most) ∧ 1 ≤ most ∧ most ≤ 100 := by
      have : z = 0 ∨ z = 1 ∨ z = 2 := by omega
      rcases this with rfl | rfl | rfl
      · exact ⟨3, rfl, by decide, by decide⟩
      · exact ⟨10, rfl, by decide, by decide⟩
      · exact ⟨100, rfl, by decide, by decide⟩
    obtain ⟨most, hmo, mo1, mo2⟩ := key
    have bmo : Bd 100 most := by unfold Bd; omega
    refine ⟨l, _, _, _, rfl, rfl, SqL.of hL, hmo, ?_⟩
    refine ⟨_, rfl, a, 8, m + 20, rfl, by decide, by decide, hp1, by omega, fun H2 way x2 hp2 w0 w8 => ?_⟩
    refine ⟨_, rfl, _, rfl, _, _, rfl, rfl, (bd_lit (n := 2)).cm bmo, _, _, rfl, rfl, a, 2 * most + 1, m + 40, rfl, by omega, by omega, hp2, by omega, fun H3 c x3 hp3 c0 c1 => ?_⟩
    refine ⟨_, rfl, _, _, rfl, rfl, sz2, fun l2 hl2 => ?_⟩
    have x03 : Xt a H H3 := x01.trans (x2.trans x3)
    obtain ⟨o3, ho3⟩ := hp3.at
    have nl2a : l2 ≠ a := (ne_of_none ho3 hl2).symm
    have Hl2 : H l2 = none := x03.free nl2a hl2
    have tail : ∀ (H4 : Hp) (p : Addr) (ns : List Int), Xt a H H4 → Pur H4 a (m + 280) → p ≠ a → H p = none → H4 p = some (.lst (ns.map V.int)) → Shape ns →
        t_polytail K { nx := fun _ H' => Q .non H', rt := Q } [some (.ref a), some (.int most), some (.int way), some (.ref p), none, none] H4 := fun H4 p ns x4 hp4 npa hpn hL4 sh => by
      refine poly_tail w0 w8 hL4 sh (fun H' sm G => k _ p ns (x4.same1 sm) ((hp4.same sm).mono (by omega)) npa hpn (sm _ _ hL4) G) (fun H' q ms sm hq hq2 G => ?_)
      obtain ⟨o4, ho4⟩ := hp4.at
      have nqa : q ≠ a := (ne_of_none ho4 hq).symm
      exact k _ q ms (x4.same1 sm) ((hp4.same sm).mono (by omega)) nqa (x4.free nqa hq) hq2 G
    have hL2_ : upd H3 l2 (.lst ([c - most, 1].map V.int)) l2 = some (.lst ([c - most, 1].map V.int)) := upd_same
    have x04 : Xt a H (upd H3 l2 (.lst ([c - most, 1].map V.int))) := x03.same1 (same_new hl2)
    have hp4 : Pur (upd H3 l2 (.lst ([c - most, 1].map V.int))) a (m + 60) := hp3.same (same_new hl2)
    have cases8 : way = 0 ∨ (way = 1 ∨ way = 2) ∨ (way = 3 ∨ way = 5 ∨ way = 7) ∨ (way = 4 ∨ way = 6) := by omega
    refine ⟨_, rfl, rfl, _, rfl, ?_⟩
    rcases cases8 with rfl | h12 | h357 | h46
    · refine iteF ?_
      refine ⟨_, rfl, rfl, _, rfl, ?_⟩
      refine iteF ?_
      refine ⟨_, rfl, _, _, rfl, rfl, _, rfl, ?_⟩
      refine iteF ?_
      refine ⟨_, rfl, _, _, rfl, rfl, _, rfl, ?_⟩
      refine iteF ?_
      exact tail _ l2 [c - most, 1] x04 (hp4.mono (by omega)) nl2a Hl2 hL2_ (.inl ⟨_, rfl⟩)
    · rcases h12 with rfl | rfl
      · refine iteT ?_
        refine ⟨_, rfl, _, rfl, l2, _, rfl, SqL.of hL2_, fun q hq => ?_⟩
        obtain ⟨o5, ho5⟩ := hp4.at
        have nqa : q ≠ a := (ne_of_none ho5 hq).symm
        refine ⟨_, rfl, _, rfl, _, _, rfl, rfl, (bd_lit (n := 2)).cm bmo, _, _, rfl, rfl, a, 2 * most + 1, m + 60, rfl, by omega, by omega, hp4.same (same_new hq), by omega, fun H5 d x5 hp5 d0 d1 => ?_⟩
        refine ⟨_, rfl, _, _, rfl, rfl, sz2, fun l3 hl3 => ?_⟩
        have hq5 : H5 q = some (.lst (cutV ([c - most, 1].map V.int) none (some 1))) := x5 _ _ nqa upd_same
        refine ⟨q, l3, _, _, rfl, rfl, same_new hl3 _ _ hq5, upd_same, (by show 3 ≤ sizeLine; decide), fun l4 hl4 => ?_⟩
        obtain ⟨o6, ho6⟩ := (hp5.same (same_new (o := .lst [V.int (d - most), V.int 1]) hl3)).at
        have nl4 : l4 ≠ a := (ne_of_none ho6 hl4).symm
        have xx : Xt a H (upd H5 l3 (.lst [V.int (d - most), V.int 1])) := (x04.same1 (same_new hq)).trans (x5.same1 (same_new hl3))
        refine ⟨_, rfl, _, _, rfl, rfl, _, rfl, ?_⟩
        refine iteF ?_
        refine ⟨_, rfl, _, _, rfl, rfl, _, rfl, ?_⟩
        refine iteF ?_
        exact tail _ l4 [c - most, d - most, 1] (xx.same1 (same_new hl4)) (((hp5.same (same_new hl3)).same (same_new hl4)).mono (by omega)) nl4 (xx.free nl4 hl4) upd_same (.inr (.inl ⟨_, _, rfl⟩))
      · refine iteF ?_
        refine ⟨_, rfl, rfl, _, rfl, ?_⟩
        refine iteT ?_
        refine ⟨_, rfl, _, rfl, l2, _, rfl, SqL.of hL2_, fun q hq => ?_⟩
        obtain ⟨o5, ho5⟩ := hp4.at
        have nqa : q ≠ a := (ne_of_none ho5 hq).symm
        refine ⟨_, rfl, _, rfl, _, _, rfl, rfl, (bd_lit (n := 2)).cm bmo, _, _, rfl, rfl, a, 2 * most + 1, m + 60, rfl, by omega, by omega, hp4.same (same_new hq), by omega, fun H5 d x5 hp5 d0 d1 => ?_⟩
        refine ⟨_, rfl, _, _, rfl, rfl, sz2, fun l3 hl3 => ?_⟩
        have hq5 : H5 q = some (.lst (cutV ([c - most, 1].map V.int) none (some 1))) := x5 _ _ nqa upd_same
        refine ⟨q, l3, _, _, rfl, rfl, same_new hl3 _ _ hq5, upd_same, (by show 3 ≤ sizeLine; decide), fun l4 hl4 => ?_⟩
        obtain ⟨o6, ho6⟩ := (hp5.same (same_new (o := .lst [V.int (d - most), V.int 1]) hl3)).at
        have nl4 : l4 ≠ a := (ne_of_none ho6 hl4).symm
        have xx : Xt a H (upd H5 l3 (.lst [V.int (d - most), V.int 1])) := (x04.same1 (same_new hq)).trans (x5.same1 (same_new hl3))
        refine ⟨_, rfl, _, _, rfl, rfl, _, rfl, ?_⟩
        refine iteF ?_
        refine ⟨_, rfl, _, _, rfl, rfl, _, rfl, ?_⟩
        refine iteF ?_
        exact tail _ l4 [c - most, d - most, 1] (xx.same1 (same_new hl4)) (((hp5.same (same_new hl3)).same (same_new hl4)).mono (by omega)) nl4 (xx.free nl4 hl4) upd_same (.inr (.inl ⟨_, _, rfl⟩))
    · rcases h357 with rfl | rfl | rfl
      · refine iteF ?_
        refine ⟨_, rfl, rfl, _, rfl, ?_⟩
        refine iteF ?_
        refine ⟨_, rfl, _, _, rfl, rfl, _, rfl, ?_⟩
        refine iteT ?_
        refine ⟨_, rfl, _, rfl, a, most, m + 60, rfl, mo1, mo2, hp4, by omega, fun H5 p x y x5 hp5 npa hn5 hL5 => ?_⟩
        refine ⟨_, rfl, _, _, rfl, rfl, _, rfl, ?_⟩
        refine iteT ?_
        refine ⟨_, rfl, _, _, rfl, rfl, (show (2 : Int) ≠ 0 by decide), rfl, _, rfl, ?_⟩
        refine iteF ?_
        exact tail H5 p [x, 0, y, 0, 1] (x04.trans x5) (hp5.mono (by omega)) npa (x04.free npa hn5) hL5 (.inr (.inr (.inr ⟨_, _, rfl⟩)))
      · refine iteF ?_
        refine ⟨_, rfl, rfl, _, rfl, ?_⟩
        refine iteF ?_
        refine ⟨_, rfl, _, _, rfl, rfl, _, rfl, ?_⟩
        refine iteT ?_
        refine ⟨_, rfl, _, rfl, a, most, m + 60, rfl, mo1, mo2, hp4, by omega, fun H5 p x y x5 hp5 npa hn5 hL5 => ?_⟩
        refine ⟨_, rfl, _, _, rfl, rfl, _, rfl, ?_⟩
        refine iteT ?_
        refine ⟨_, rfl, _, _, rfl, rfl, (show (2 : Int) ≠ 0 by decide), rfl, _, rfl, ?_⟩
        refine iteF ?_
        exact tail H5 p [x, 0, y, 0, 1] (x04.trans x5) (hp5.mono (by omega)) npa (x04.free npa hn5) hL5 (.inr (.inr (.inr ⟨_, _, rfl⟩)))
      · refine iteF ?_
        refine ⟨_, rfl, rfl, _, rfl, ?_⟩
        refine iteF ?_
        refine ⟨_, rfl, _, _, rfl, rfl, _, rfl, ?_⟩
        refine iteT ?_
        refine ⟨_, rfl, _, rfl, a, most, m + 60, rfl, mo1, mo2, hp4, by omega, fun H5 p x y x5 hp5 npa hn5 hL5 => ?_⟩
        refine ⟨_, rfl, _, _, rfl, rfl, _, rfl, ?_⟩
        refine iteT ?_
        refine ⟨_, rfl, _, _, rfl, rfl, (show (2 : Int) ≠ 0 by decide), rfl, _, rfl, ?_⟩
        refine iteF ?_
        exact tail H5 p [x, 0, y, 0, 1] (x04.trans x5) (hp5.mono (by omega)) npa (x04.free npa hn5) hL5 (.inr (.inr (.inr ⟨_, _, rfl⟩)))
    · rcases h46 with rfl | rfl
      · refine iteF ?_
        refine ⟨_, rfl, rfl, _, rfl, ?_⟩
        refine iteF ?_
        refine ⟨_, rfl, _, _, rfl, rfl, _, rfl, ?_⟩
        refine iteT ?_
        refine ⟨_, rfl, _, rfl, a, most, m + 60, rfl, mo1, mo2, hp4, by omega, fun H5 p x y x5 hp5 npa hn5 hL5 => ?_⟩
        refine ⟨_, rfl, _, _, rfl, rfl, _, rfl, ?_⟩
        refine iteT ?_
        refine ⟨_, rfl, _, _, rfl, rfl, (show (2 : Int) ≠ 0 by decide), rfl, _, rfl, ?_⟩
        refine iteT ?_
        refine ⟨_, rfl, _, rfl, a, most, m + 160, rfl, mo1, mo2, hp5.mono (by omega), by omega, fun H6 p2 x y z x6 hp6 npa6 hn6 hL6 => ?_⟩
        exact tail H6 p2 [x, y, z, 1] ((x04.trans x5).trans x6) (hp6.mono (by omega)) npa6 ((x04.trans x5).free npa6 hn6) hL6 (.inr (.inr (.inl ⟨_, _, _, rfl⟩)))
      · refine iteF ?_
        refine ⟨_, rfl, rfl, _, rfl, ?_⟩
        refine iteF ?_
        refine ⟨_, rfl, _, _, rfl, rfl, _, rfl, ?_⟩
        refine iteT ?_
        refine ⟨_, rfl, _, rfl, a, most, m + 60, rfl, mo1, mo2, hp4, by omega, fun H5 p x y x5 hp5 npa hn5 hL5 => ?_⟩
        refine ⟨_, rfl, _, _, rfl, rfl, _, rfl, ?_⟩
        refine iteT ?_
        refine ⟨_, rfl, _, _, rfl, rfl, (show (2 : Int) ≠ 0 by decide), rfl, _, rfl, ?_⟩
        refine iteT ?_
        refine ⟨_, rfl, _, rfl, a, most, m + 160, rfl, mo1, mo2, hp5.mono (by omega), by omega, fun H6 p2 x y z x6 hp6 npa6 hn6 hL6 => ?_⟩
        exact tail H6 p2 [x, y, z, 1] ((x04.trans x5).trans x6) (hp6.mono (by omega)) npa6 ((x04.trans x5).free npa6 hn6) hL6 (.inr (.inr (.inl ⟨_, _, _, rfl⟩)))
end
end My

namespace My
open PySem PySem.Spec PyProof.Rows L2
open C8 (Cal pe_c pe_gc)
/-! ### data that is compared -/
def dInts (ns : List Int) : PyData := .list (ns.map PyData.int)
def dFr (q : Int × Int) : PyData := .tuple [.int q.1, .int q.2]
theorem canInts : ∀ ns : List Int, PyData.canLayAll0 (ns.map PyData.int) = true ∧ PyData.depthAll (ns.map PyData.int) ≤ 1
  | [] => ⟨rfl, by decide⟩
  | n :: r => by
    have h := canInts r
    refine ⟨?_, ?_⟩
    · show (PyData.canLay0 (.int n) && PyData.canLayAll0 (r.map PyData.int)) = true
      rw [h.1]; rfl
    · show max (PyData.depth (.int n)) (PyData.depthAll (r.map PyData.int)) ≤ 1
      have : PyData.depth (.int n) ≤ 1 := by unfold PyData.depth; omega
      omega
theorem shInts (ns : List Int) : SeqAt.shaped (dInts ns) = true := by
  unfold SeqAt.shaped dInts
  have h := canInts ns
  have d : PyData.depth (.list (ns.map PyData.int)) ≤ 64 := by
    show PyData.depthAll (ns.map PyData.int) + 1 ≤ 64
    omega
  rw [show PyData.canLay0 (.list (ns.map PyData.int)) = true from h.1, decide_eq_true d]; rfl
theorem dpAllInts {K : PySem.W.Frag} {H : Hp} : ∀ ns : List Int, DpAll K H (ns.map V.int) (ns.map PyData.int)
  | [] => .nil
  | n :: r => .cons (.int n) (dpAllInts r)
theorem dpInts {K : PySem.W.Frag} {H : Hp} {a : Addr} {ns : List Int} (h : SqL K H a (ns.map V.int)) : Dp K H (.ref a) (dInts ns) := .lst h (dpAllInts ns)
theorem dpFr {K : PySem.W.Frag} {H : Hp} {v : V} {q : Int × Int} (h : FrAt K H v q) : Dp K H v (dFr q) := by
  obtain ⟨p, rfl, hp⟩ := h
  exact .tup (SqT.of hp) (.cons (.int _) (.cons (.int _) .nil))
theorem eqInts (ns : List Int) : PyData.eqv (dInts ns) (dInts ns) = true := SeqAt.eqv_refl _ (SeqAt.canLay_of_shaped (shInts ns))
section
variable {P : Program} {w : World} {K : PySem.W.Frag} {mg : Str → Option Value} {base : Heap}

abbrev s_Ldue : Stmt := top 29
abbrev N_Ldue : List Str := ["_law_poly_here", "_law_value", "_law_found", "_law_by", "_law_one"]
abbrev P_Ldue : List Str := ["_law_poly_here", "_law_value"]
theorem sc_Ldue : FnScope N_Ldue ["_law_poly_here", "_law_value"] (defScope s_Ldue) := ⟨rfl, rfl, rfl, by decide +kernel, rfl, by decide +kernel, by decide +kernel⟩

def sp_Ldue (K : PySem.W.Frag) : Sp := fun vs H Q _ => ∃ (a : Addr) (v : V) (ns : List Int) (q : Int × Int), vs = [.ref a, v] ∧ SqL K H a (ns.map V.int) ∧ (∀ x ∈ ns, Bd 100 x) ∧ ns.length ≤ 5 ∧ FrAt K H v q ∧ q.2 ≠ 0 ∧ Sz 300 q.1 ∧ Sz 300 q.2 ∧
  ∀ H' u, Same H H' → FrAt K H' u (worthQ ns (low q)) → Q u H'
theorem ok_Ldue (T : Txt K mg) {f : Addr} {fd : FuncData} (F : L2.Fun K "_law_due" "_law_due" s_Ldue f fd) (h_Lmade : Cal P w K mg base 1 "_law_made" (sp_lowest K) [])
    (h_Lsum : Cal P w K mg base 2 "_law_sum" (sp_plus_of K) []) (h_Lproduct : Cal P w K mg base 2 "_law_product" (sp_times_of K) []) : FnOk P w K mg base CX0 3 f fd P_Ldue (sp_Ldue K) := by
  refine F.ok sc_Ldue (fun vs H Q E h => ?_) (fun cdv A outer s H vs Q E hr h => ?_)
  · obtain ⟨a, v, ns, q, rfl, _⟩ := h
    rfl
  · obtain ⟨a, v, ns, q, rfl, hS, hbd, hl5, ⟨pv_, rfl, hv⟩, hb, hz1, hz2, k⟩ := h
    refine ⟨_, (pss_cons (ps_set (i := 2) sc_Ldue.nd rfl (by first | exact Or.inl rfl | exact Or.inr rfl) (pe_tup (pa_cons pe_int (pa_cons pe_int pa_nil))))
      (pss_cons (ps_set (i := 3) sc_Ldue.nd rfl (by first | exact Or.inl rfl | exact Or.inr rfl) (pe_c h_Lmade hr (by decide) rfl (pa_cons (pe_ix ix_tup (pv 1) pe_int (fun _ _ => rfl)) (pa_cons (pe_ix ix_tup (pv 1) pe_int (fun _ _ => rfl)) pa_nil))))
      (pss_cons (ps_for PassesOwn.never rfl (pi_list (pe_revL (pv 0))) (pg_name (i := 4) sc_Ldue.nd rfl (by first | exact Or.inl rfl | exact Or.inr rfl)) (pss_one (ps_set (i := 2) sc_Ldue.nd rfl (by first | exact Or.inl rfl | exact Or.inr rfl) (pe_c h_Lsum hr (by decide) rfl (pa_cons (pe_c h_Lproduct hr (by decide) rfl (pa_cons (pv 2) (pa_cons (pv 3) pa_nil))) (pa_cons (pe_tup (pa_cons (pv 4) (pa_cons pe_int pa_nil))) pa_nil))))))
      (pss_one (ps_ret (pv 2)))))), ?_⟩
    refine ⟨sz2, fun pf hf => ?_⟩
    have s3 := same_new (o := .tup [V.int 0, V.int 1]) hf
    have hv' := SqT.of (K := K) (s3 _ _ hv)
    refine ⟨_, rfl, pv_, _, _, _, rfl, rfl, hv', rfl, _, rfl, pv_, _, _, _, rfl, rfl, hv', rfl, q, rfl, hb, hz2.mono (by decide), fun H2 pb s2 hpb _ => ?_⟩
    have s12 := s3.trans s2
    refine ⟨_, rfl, a, _, rfl, s12.seq hS, fun l hl => ?_⟩
    have s4 := s12.trans (same_new (o := .lst (List.map V.int ns).reverse) hl)
    have er : (List.map V.int ns).reverse = List.map V.int ns.reverse := by rw [List.map_reverse]
    have hby : FrAt K H2 (.ref pb) (low q) := FrAt.new hpb
    have oby : OkQ 300 (low q) := low_ok hb hz1 hz2
    have gl : ns.reverse.length ≤ 5 := by rw [List.length_reverse]; exact hl5
    refine ⟨l, rfl, ⟨_, SqL.of upd_same⟩, for_list (K := K) (a := l) (xs := List.map V.int ns.reverse) (fun i σ H' => ∃ (o : Option V) (p : Addr), σ = [some (.ref a), some (.ref pv_), some (.ref p), some (.ref pb), o] ∧ Same (upd H2 l (.lst (List.map V.int ns).reverse)) H' ∧
      FrAt K H' (.ref p) ((ns.reverse.take i).foldl (fun f n => addQ (mulQ f (low q)) (n, 1)) (0, 1)) ∧ OkQ (1 + 400 * i) ((ns.reverse.take i).foldl (fun f n => addQ (mulQ f (low q)) (n, 1)) (0, 1))) ?_ ?_ ?_ ?_⟩
    · refine ⟨none, pf, rfl, Same.refl _, FrAt.mono (FrAt.new (s2 _ _ upd_same)) (same_new hl), ok_01⟩
    · rintro i σ H' _ ⟨_, _, _, sm, _⟩
      refine sm.seq (SqL.of ?_)
      rw [upd_same, er]
    · rintro i x σ H' hi ⟨o, p, rfl, sm, hp, op⟩
      obtain ⟨z, hz, rfl⟩ := item_of hi
      have hil : i < 5 := Nat.lt_of_lt_of_le (List.getElem?_eq_some_iff.mp hz).1 gl
      have bz : Bd 100 z := hbd z (List.mem_reverse.mp (List.mem_of_getElem? hz))
      have sB := (same_new (o := .lst (List.map V.int ns).reverse) hl).trans sm
      refine ⟨_, rfl, _, rfl, _, _, _, _, _, _, rfl, hp, hby.mono sB, op, oby, by omega, by omega, by decide, fun H3 p3 s5 hp3 hn3 => ?_⟩
      refine ⟨_, rfl, sz2, fun p4 hp4 => ?_⟩
      refine ⟨_, _, _, (z, 1), _, 10, rfl, (FrAt.new hp3).mono (same_new hp4), FrAt.new upd_same, mul_ok op oby, ok_n1 bz (by decide), by omega, by omega, by decide, fun H5 p5 s6 hp5 hn5 => ?_⟩
      refine ⟨_, p5, rfl, (sm.trans s5).trans ((same_new hp4).trans s6), ?_, ?_⟩
      · rw [take_more hz, List.foldl_append]
        exact FrAt.new hp5
      · rw [take_more hz, List.foldl_append]
        exact (add_ok (mul_ok op oby) (ok_n1 (b := 10) bz (by decide))).mono (by omega)
    · rintro σ H' ⟨o, p, rfl, sm, hp, op⟩
      rw [List.length_map, List.take_of_length_le (Nat.le_refl _)] at hp
      exact ⟨_, rfl, k _ _ (s4.trans sm) hp⟩

abbrev s_law : Stmt := top 30
abbrev N_law : List Str := ["_law_script", "_law_cell", "_law_purse_here", "_law_poly_here", "_law_kept", "_law_turn", "_law_value", "_law_by", "_law_due_here", "_law_found", "_law_one"]
abbrev P_law : List Str := ["_law_script"]
theorem sc_law : FnScope N_law ["_law_script"] (defScope s_law) := ⟨rfl, rfl, rfl, by decide +kernel, rfl, by decide +kernel, by decide +kernel⟩

def spLaw (K : PySem.W.Frag) : Sp := fun vs H Q _ => ∃ (a : Addr) (ns : List Int), vs = [.ref a] ∧ SqL K H a (ns.map V.int) ∧ ns.length ≤ 63 ∧ ∀ H', Q (.bl true) H'
theorem low_times {q : Int × Int} {b : Int} (hq : q.2 ≠ 0) (hb : b ≠ 0) : low (q.1 * b, q.2 * b) = low q := by
  have h := low_congr (t := q.1 * b) (b := q.2 * b) (c := q.1) (d := q.2) (Int.mul_ne_zero hq hb) hq (by
    rw [Int.mul_right_comm, Int.mul_assoc])
  unfold low
  rw [h.1, h.2]
theorem Xt.back {a : Addr} {H H1 H2 : Hp} (s : Same H H1) (x : Xt a H1 H2) (h : H a = none) : Same H H2 := fun b o hb => x b o (ne_of_none hb h) (s b o hb)
theorem ok_law (T : Txt K mg) {f : Addr} {fd : FuncData} (F : L2.Fun K "law" "law" s_law f fd) (h_Lpurse : Cal P w K mg base 2 "_law_purse" (sp_Lpurse K) []) (h_Lpoly : Cal P w K mg base 4 "_law_poly" sp_Lpoly [])
    (h_Lfraction : Cal P w K mg base 4 "_law_fraction" (sp_Lfraction K) []) (h_Ldraw : Cal P w K mg base 2 "_law_draw" sp_Ldraw []) (h_Ldue : Cal P w K mg base 3 "_law_due" (sp_Ldue K) []) (h_worth : Cal P w K mg base 4 "worth" (sp_worth K) [])
    (k_worth : KCal P w K mg base 4 "worth" (sp_worth K) 0 ["polynomial", "fraction"] (fun _ zs => zs)) (h_Lwhole : Cal P w K mg base 1 "_law_whole" sp_Lwhole []) : FnOk P w K mg base CX0 5 f fd P_law (spLaw K) := by
  refine F.ok sc_law (fun vs H Q E h => ?_) (fun cdv A outer s H vs Q E hr h => ?_)
  · obtain ⟨a, ns, rfl, _⟩ := h
    rfl
  · obtain ⟨a, ns, rfl, hS, hl, k⟩ := h
    refine ⟨_, (pss_cons (ps_for PassesOwn.never rfl (pi_range1 rfl T.z_range (pa_cons pe_int pa_nil)) (pg_name (i := 1) sc_law.nd rfl (by first | exact Or.inl rfl | exact Or.inr rfl)) (pss_cons (ps_set (i := 2) sc_law.nd rfl (by first | exact Or.inl rfl | exact Or.inr rfl) (pe_c h_Lpurse hr (by decide) rfl (pa_cons (pv 0) (pa_cons (pv 1) pa_nil))))
      (pss_cons (ps_set (i := 3) sc_law.nd rfl (by first | exact Or.inl rfl | exact Or.inr rfl) (pe_c h_Lpoly hr (by decide) rfl (pa_cons (pv 2) pa_nil)))
      (pss_cons (ps_set (i := 4) sc_law.nd rfl (by first | exact Or.inl rfl | exact Or.inr rfl) (pe_callTy call_list_of (by rfl) T.z_list (by decide +kernel) (pa_cons (pv 3) pa_nil)))
      (pss_one (ps_for PassesOwn.never rfl (pi_range1 rfl T.z_range (pa_cons pe_int pa_nil)) (pg_name (i := 5) sc_law.nd rfl (by first | exact Or.inl rfl | exact Or.inr rfl)) (pss_cons (ps_set (i := 6) sc_law.nd rfl (by first | exact Or.inl rfl | exact Or.inr rfl) (pe_c h_Lfraction hr (by decide) rfl (pa_cons (pv 2) (pa_cons (pe_op op_powW pe_int pe_int) pa_nil))))
      (pss_cons (ps_set (i := 7) sc_law.nd rfl (by first | exact Or.inl rfl | exact Or.inr rfl) (pe_op op_add (pe_op op_sub pe_int (pe_op op_mulW pe_int (pe_c h_Ldraw hr (by decide) rfl (pa_cons (pv 2) (pa_cons pe_int pa_nil))))) (pe_op op_mulW pe_int (pe_c h_Ldraw hr (by decide) rfl (pa_cons (pv 2) (pa_cons pe_int pa_nil))))))
      (pss_cons (ps_set (i := 8) sc_law.nd rfl (by first | exact Or.inl rfl | exact Or.inr rfl) (pe_c h_Ldue hr (by decide) rfl (pa_cons (pv 3) (pa_cons (pv 6) pa_nil))))
      (pss_cons (ps_set (i := 9) sc_law.nd rfl (by first | exact Or.inl rfl | exact Or.inr rfl) (pe_lst (pa_cons (pe_c h_worth hr (by decide) rfl (pa_cons (pv 3) (pa_cons (pv 6) pa_nil))) (pa_cons (pe_ck0 k_worth hr (by decide) rfl (pk_cons (pv 3) (pk_cons (pe_tup (pa_cons (pe_op op_mulW (pe_ix ix_tup (pv 6) pe_int (fun _ _ => rfl)) (pv 7)) (pa_cons (pe_op op_mulW (pe_ix ix_tup (pv 6) pe_int (fun _ _ => rfl)) (pv 7)) pa_nil))) pk_nil))) pa_nil))))
      (pss_cons (ps_if (PW.pt (pw_or (pt_cmpR (op_neD hr.units) (pv 9) (pe_lst (pa_cons (pv 8) (pa_cons (pv 8) pa_nil))) (nomark _)) (pw_or1 (pt_cmpR (op_neD hr.units) (pv 3) (pv 4) (nomark _))))) (pss_one (ps_ret pe_bl)) pss_nil)
      (pss_one (ps_for PassesOwn.never rfl (pi_list (pv 9)) (pg_name (i := 10) sc_law.nd rfl (by first | exact Or.inl rfl | exact Or.inr rfl)) (pss_one (ps_if (PW.pt (pw_or (pt_not (pt_val (pe_callB call_isi (by rfl) T.z_isinstance (by decide +kernel) (pa_cons (pv 10) (pa_cons (pe_bltn (v := .ty "tuple") (by rfl) T.z_tuple (by decide +kernel) rfl) pa_nil))))) (pw_or (pt_not (pt_val (pe_c h_Lwhole hr (by decide) rfl (pa_cons (pe_ix ix_tup (pv 10) pe_int (fun _ _ => rfl)) pa_nil)))) (pw_or1 (pt_not (pt_val (pe_c h_Lwhole hr (by decide) rfl (pa_cons (pe_ix ix_tup (pv 10) pe_int (fun _ _ => rfl)) pa_nil)))))))) (pss_one (ps_ret pe_bl)) pss_nil)))))))))))))))
      (pss_one (ps_ret pe_bl))), ?_⟩
    refine ⟨6, rfl, by decide, by decide, for_range (lo := 0) (n := 6) (fun i σ H' => ∃ o1 o2 o3 o4 o5 o6 o7 o8 o9 o10 : Option V, σ = [some (.ref a), o1, o2, o3, o4, o5, o6, o7, o8, o9, o10] ∧ Same H H') ⟨_, _, _, _, _, _, _, _, _, _, rfl, Same.refl H⟩ ?_ ?_⟩
    · rintro i σ H0 hi ⟨o1, o2, o3, o4, o5, o6, o7, o8, o9, o10, rfl, s0⟩
      refine ⟨_, rfl, _, rfl, a, ns, i, by rw [Int.zero_add]; rfl, s0.seq hS, by omega, fun H1 pu s1 hpu0 hpu => ?_⟩
      refine ⟨_, rfl, pu, _, rfl, hpu, by omega, fun H2 pp ms x2 hpu2 npp hpp0 hpp G => ?_⟩
      refine ⟨_, rfl, pp, _, rfl, .inl (SqL.of hpp), fun kp hkp => ?_⟩
      obtain ⟨ou, hou⟩ := hpu2.at
      have nkp : kp ≠ pu := (ne_of_none hou hkp).symm
      have t2 := same_new (o := .lst (ms.map V.int)) hkp
      have s02 : Same H0 (upd H2 kp (.lst (ms.map V.int))) := (Xt.back s1 x2 hpu0).trans t2
      refine ⟨4, rfl, by decide, by decide, for_range (lo := 0) (n := 4) (fun j σ H' => ∃ o5 o6 o7 o8 o9 o10 : Option V, σ = [some (.ref a), some (.int (0 + (i : Int))), some (.ref pu), some (.ref pp), some (.ref kp), o5, o6, o7, o8, o9, o10] ∧ Xt pu (upd H2 kp (.lst (ms.map V.int))) H' ∧ Pur H' pu (1000 * i + 300 + 300 * j)) ⟨_, _, _, _, _, _, rfl, Xt.refl _ _, hpu2.same t2⟩ ?_ ?_⟩
      · rintro j σ H3 hj ⟨o5, o6, o7, o8, o9, o10, rfl, x3, hpu3⟩
        refine ⟨_, rfl, _, _, rfl, rfl, ⟨by decide, by decide +kernel⟩, pu, _, _, rfl, (by decide : (1 : Int) ≤ 10 ^ (9 : Int).toNat), (by decide : (10 : Int) ^ (9 : Int).toNat ≤ 10 ^ 30), hpu3, by omega, fun H4 vp q x4 hpu4 nvp hvp hq2 bq1 bq2 => ?_⟩
        refine ⟨_, rfl, pu, 2, _, rfl, by decide, by decide, hpu4, by omega, fun H5 z1 x5 hpu5 a0 a1 => ?_⟩
        have bz1 : Bd 2 z1 := by unfold Bd; omega
        refine ⟨_, _, rfl, rfl, (bd_lit (n := 2)).cm bz1, _, _, rfl, rfl, _, rfl, pu, 2, _, rfl, by decide, by decide, hpu5, by omega, fun H6 z2 x6 hpu6 b0 b1 => ?_⟩
        have bz2 : Bd 2 z2 := by unfold Bd; omega
        refine ⟨_, _, rfl, rfl, (bd_lit (n := 3)).cm bz2, _, _, rfl, rfl, ?_⟩
        obtain ⟨by_, hby⟩ : ∃ by_, by_ = 1 - 2 * z1 + 3 * z2 := ⟨_, rfl⟩
        have hby0 : by_ ≠ 0 := by omega
        have bby : Bd 4 by_ := by unfold Bd; omega
        have x36 : Xt pu H3 H6 := x4.trans (x5.trans x6)
        have hpp3 : H3 pp = some (.lst (ms.map V.int)) := x3 _ _ npp (t2 _ _ hpp)
        have hkp3 : H3 kp = some (.lst (ms.map V.int)) := x3 _ _ nkp upd_same
        have hpp6 : H6 pp = some (.lst (ms.map V.int)) := x36 _ _ npp hpp3
        have hvp6 : H6 vp = some (.tup (frV q)) := x6 _ _ nvp (x5 _ _ nvp hvp)
        have z1q : Sz 300 q.1 := by unfold Sz; unfold Bd at bq1; omega
        have z2q : Sz 300 q.2 := by unfold Sz; unfold Bd at bq2; omega
        refine ⟨_, rfl, _, rfl, pp, _, ms, q, rfl, SqL.of hpp6, G.sm, G.l5, ⟨vp, rfl, hvp6⟩, hq2, z1q, z2q, fun H7 du s7 hdu => ?_⟩
        refine ⟨_, rfl, _, rfl, pp, _, ms, q, rfl, SqL.of (s7 _ _ hpp6), G, ⟨vp, rfl, s7 _ _ hvp6⟩, hq2, z1q, z2q, fun H8 w1 s8 hw1 => ?_⟩
        have hvp8 := SqT.of (K := K) (s8 _ _ (s7 _ _ hvp6))
        refine ⟨_, rfl, _, rfl, vp, _, _, _, rfl, rfl, hvp8, rfl, _, rfl, _, _, rfl, rfl, wide_mul (a := 300) (b := 10) z1q (by unfold Bd at bby; rw [hby] at bby; omega) (by decide) (by decide) (by decide), _, rfl, vp, _, _, _, rfl, rfl, hvp8, rfl, _, rfl, _, _, rfl, rfl, wide_mul (a := 300) (b := 10) z2q (by unfold Bd at bby; rw [hby] at bby; omega) (by decide) (by decide) (by decide), sz2, fun fp hfp => ?_⟩
        rw [← hby]
        have t9 := same_new (o := .tup [V.int (q.1 * by_), V.int (q.2 * by_)]) hfp
        refine ⟨rfl, rfl, pp, _, ms, (q.1 * by_, q.2 * by_), rfl, SqL.of (t9 _ _ (s8 _ _ (s7 _ _ hpp6))), G, ⟨fp, rfl, upd_same⟩, Int.mul_ne_zero hq2 hby0, ?_, ?_, fun H9 w2 s9 hw2 => ?_⟩
        · have := bq1.mul bby
          unfold Sz; unfold Bd at this
          show (q.1 * by_).natAbs < 2 ^ 300
          omega
        · have := bq2.mul bby
          unfold Sz; unfold Bd at this
          show (q.2 * by_).natAbs < 2 ^ 300
          omega
        rw [low_times hq2 hby0] at hw2
        refine ⟨sz2, fun fl hfl => ?_⟩
        have t10 := same_new (o := .lst [w1, w2]) hfl
        obtain ⟨r, hr_⟩ : ∃ r, r = worthQ ms (low q) := ⟨_, rfl⟩
        rw [← hr_] at hdu hw1 hw2
        refine ⟨_, rfl, _, rfl, _, rfl, sz2, fun dl hdl => ?_⟩
        have t11 := same_new (o := .lst [du, du]) hdl
        have s811 := (t9.trans s9).trans (t10.trans t11)
        have fdu := hdu.mono (s8.trans s811)
        have fw1 := hw1.mono s811
        have fw2 := hw2.mono (t10.trans t11)
        have dd : ∀ x : Int × Int, PyData.eqv (.list [dFr x, dFr x]) (.list [dFr x, dFr x]) = true := fun x => SeqAt.eqv_refl _ (by rfl)
        have ds : ∀ x : Int × Int, SeqAt.shaped (.list [dFr x, dFr x]) = true := fun x => by rfl
        refine ⟨.list [dFr r, dFr r], .list [dFr r, dFr r], .lst (SqL.of (t11 _ _ upd_same)) (.cons (dpFr fw1) (.cons (dpFr fw2) .nil)), .lst (SqL.of upd_same) (.cons (dpFr fdu) (.cons (dpFr fdu) .nil)), ds r, ds r, _, rfl, ?_⟩
        refine ite_ff (by rw [dd]; rfl) ?_
        have s611 := (s7.trans s8).trans s811
        have hkp6 : H6 kp = some (.lst (ms.map V.int)) := x36 _ _ nkp hkp3
        refine ⟨_, rfl, _, rfl, dInts ms, dInts ms, dpInts (SqL.of (s611 _ _ hpp6)), dpInts (SqL.of (s611 _ _ hkp6)), shInts ms, shInts ms, _, rfl, ?_⟩
        refine ite_ff (by rw [eqInts]; rfl) ?_
        refine ⟨_, rfl, fl, rfl, ⟨_, SqL.of (t11 _ _ upd_same)⟩, for_list (K := K) (a := fl) (xs := [w1, w2]) (fun n σ H' => ∃ o10 : Option V, σ = [some (.ref a), some (.int (0 + (i : Int))), some (.ref pu), some (.ref pp), some (.ref kp), some (.int (0 + (j : Int))), some (.ref vp), some (.int (1 - 2 * z1 + 3 * z2)), some du, some (.ref fl), o10] ∧
          Same (upd (upd H9 fl (.lst [w1, w2])) dl (.lst [du, du])) H') ⟨_, rfl, Same.refl _⟩ (fun n σ H' _ ⟨_, _, sm⟩ => SqL.of (sm _ _ (t11 _ _ upd_same))) ?_ ?_⟩
        · rintro n x σ H' hn ⟨o10, rfl, sm⟩
          have fx : FrAt K H' x r := by
            rcases n with _ | _ | n
            · obtain rfl : w1 = x := Option.some.inj hn
              exact fw1.mono sm
            · obtain rfl : w2 = x := Option.some.inj hn
              exact fw2.mono sm
            · simp at hn
          obtain ⟨xp, rfl, hxp⟩ := fx
          refine ⟨_, rfl, _, _, _, _, true, rfl, .ty _, .base (.tup hxp), kit_ty (by decide +kernel), _, rfl, ?_⟩
          refine iteF ?_
          refine ⟨_, rfl, xp, _, _, _, rfl, rfl, SqT.of hxp, rfl, r.1, rfl, _, rfl, ?_⟩
          refine iteF ?_
          refine ⟨_, rfl, xp, _, _, _, rfl, rfl, SqT.of hxp, rfl, r.2, rfl, _, rfl, ?_⟩
          refine iteF ?_
          exact ⟨_, rfl, sm⟩
        · rintro σ H' ⟨o10, rfl, sm⟩
          have x9 : Xt pu H3 H' := (x36.same1 (s611)).same1 sm
          exact ⟨_, _, _, _, _, _, rfl, x3.trans x9, ((hpu6.same s611).same sm).mono (by omega)⟩
      · rintro σ H3 ⟨o5, o6, o7, o8, o9, o10, rfl, x3, hpu3⟩
        exact ⟨_, _, _, _, _, _, _, _, _, _, rfl, s0.trans (Xt.back s02 x3 hpu0)⟩
    · rintro σ H' ⟨o1, o2, o3, o4, o5, o6, o7, o8, o9, o10, rfl, s0⟩
      exact k _
end
end My

namespace My
open PySem PySem.Spec PyProof.Rows L2
open C8 (Cal pe_c pe_gc)
theorem all_mk {l : PySem.W.OpenLaw} {w : World} {K : PySem.W.Frag} {h : Heap} {mg : Str → Option Value} {fa : Addr} (X : K.In h) (G : h.Ns mainGlobals mg) (hfa : mg "law" = some (.ref fa))
    {f0 : Addr} {od0 an0 : Option Addr} {sl0 : Array (Option Value)} {oc0 kV0 dc0 pm0 cd0 ct0 : Value}
    (a0 : PySem.W.nsIn K mainGlobals "divisor" = some (some (.ref f0))) (l0 : K.lookup f0 = some ⟨oc0, od0, .func (PySem.W.fnOf "divisor" "divisor" (defArgs s_divisor) (defBody s_divisor) (defScope s_divisor) .none kV0 dc0 pm0 an0 cd0 ct0), sl0⟩) (c0 : PySem.W.codeIn K cd0 "divisor" = true) (k0 : PySem.W.keepIn K (.ref f0) = true)
    {f1 : Addr} {od1 an1 : Option Addr} {sl1 : Array (Option Value)} {oc1 kV1 dc1 pm1 cd1 ct1 : Value}
    (a1 : PySem.W.nsIn K mainGlobals "lowest" = some (some (.ref f1))) (l1 : K.lookup f1 = some ⟨oc1, od1, .func (PySem.W.fnOf "lowest" "lowest" (defArgs s_lowest) (defBody s_lowest) (defScope s_lowest) .none kV1 dc1 pm1 an1 cd1 ct1), sl1⟩) (c1 : PySem.W.codeIn K cd1 "lowest" = true) (k1 : PySem.W.keepIn K (.ref f1) = true)
    {f2 : Addr} {od2 an2 : Option Addr} {sl2 : Array (Option Value)} {oc2 kV2 dc2 pm2 cd2 ct2 : Value}
    (a2 : PySem.W.nsIn K mainGlobals "plus_of" = some (some (.ref f2))) (l2 : K.lookup f2 = some ⟨oc2, od2, .func (PySem.W.fnOf "plus_of" "plus_of" (defArgs s_plus_of) (defBody s_plus_of) (defScope s_plus_of) .none kV2 dc2 pm2 an2 cd2 ct2), sl2⟩) (c2 : PySem.W.codeIn K cd2 "plus_of" = true) (k2 : PySem.W.keepIn K (.ref f2) = true)
    {f3 : Addr} {od3 an3 : Option Addr} {sl3 : Array (Option Value)} {oc3 kV3 dc3 pm3 cd3 ct3 : Value}
    (a3 : PySem.W.nsIn K mainGlobals "times_of" = some (some (.ref f3))) (l3 : K.lookup f3 = some ⟨oc3, od3, .func (PySem.W.fnOf "times_of" "times_of" (defArgs s_times_of) (defBody s_times_of) (defScope s_times_of) .none kV3 dc3 pm3 an3 cd3 ct3), sl3⟩) (c3 : PySem.W.codeIn K cd3 "times_of" = true) (k3 : PySem.W.keepIn K (.ref f3) = true)
    {f4 : Addr} {od4 an4 : Option Addr} {sl4 : Array (Option Value)} {oc4 kV4 dc4 pm4 cd4 ct4 : Value}
    (a4 : PySem.W.nsIn K mainGlobals "told_by" = some (some (.ref f4))) (l4 : K.lookup f4 = some ⟨oc4, od4, .func (PySem.W.fnOf "told_by" "told_by" (defArgs s_told_by) (defBody s_told_by) (defScope s_told_by) .none kV4 dc4 pm4 an4 cd4 ct4), sl4⟩) (c4 : PySem.W.codeIn K cd4 "told_by" = true) (k4 : PySem.W.keepIn K (.ref f4) = true)
    {f5 : Addr} {od5 an5 : Option Addr} {sl5 : Array (Option Value)} {oc5 kV5 dc5 pm5 cd5 ct5 : Value}
    (a5 : PySem.W.nsIn K mainGlobals "must_poly" = some (some (.ref f5))) (l5 : K.lookup f5 = some ⟨oc5, od5, .func (PySem.W.fnOf "must_poly" "must_poly" (defArgs s_must_poly) (defBody s_must_poly) (defScope s_must_poly) .none kV5 dc5 pm5 an5 cd5 ct5), sl5⟩) (c5 : PySem.W.codeIn K cd5 "must_poly" = true) (k5 : PySem.W.keepIn K (.ref f5) = true)
    {f6 : Addr} {od6 an6 : Option Addr} {sl6 : Array (Option Value)} {oc6 kV6 dc6 pm6 cd6 ct6 : Value}
    (a6 : PySem.W.nsIn K mainGlobals "must_fraction" = some (some (.ref f6))) (l6 : K.lookup f6 = some ⟨oc6, od6, .func (PySem.W.fnOf "must_fraction" "must_fraction" (defArgs s_must_fraction) (defBody s_must_fraction) (defScope s_must_fraction) .none kV6 dc6 pm6 an6 cd6 ct6), sl6⟩) (c6 : PySem.W.codeIn K cd6 "must_fraction" = true) (k6 : PySem.W.keepIn K (.ref f6) = true)
    {f7 : Addr} {od7 an7 : Option Addr} {sl7 : Array (Option Value)} {oc7 kV7 dc7 pm7 cd7 ct7 : Value}
    (a7 : PySem.W.nsIn K mainGlobals "worth" = some (some (.ref f7))) (l7 : K.lookup f7 = some ⟨oc7, od7, .func (PySem.W.fnOf "worth" "worth" (defArgs s_worth) (defBody s_worth) (defScope s_worth) .none kV7 dc7 pm7 an7 cd7 ct7), sl7⟩) (c7 : PySem.W.codeIn K cd7 "worth" = true) (k7 : PySem.W.keepIn K (.ref f7) = true)
    {f8 : Addr} {od8 an8 : Option Addr} {sl8 : Array (Option Value)} {oc8 kV8 dc8 pm8 cd8 ct8 : Value}
    (a8 : PySem.W.nsIn K mainGlobals "_law_at" = some (some (.ref f8))) (l8 : K.lookup f8 = some ⟨oc8, od8, .func (PySem.W.fnOf "_law_at" "_law_at" (defArgs s_Lat) (defBody s_Lat) (defScope s_Lat) .none kV8 dc8 pm8 an8 cd8 ct8), sl8⟩) (c8 : PySem.W.codeIn K cd8 "_law_at" = true) (k8 : PySem.W.keepIn K (.ref f8) = true)
    {f9 : Addr} {od9 an9 : Option Addr} {sl9 : Array (Option Value)} {oc9 kV9 dc9 pm9 cd9 ct9 : Value}
    (a9 : PySem.W.nsIn K mainGlobals "_law_mixed" = some (some (.ref f9))) (l9 : K.lookup f9 = some ⟨oc9, od9, .func (PySem.W.fnOf "_law_mixed" "_law_mixed" (defArgs s_Lmixed) (defBody s_Lmixed) (defScope s_Lmixed) .none kV9 dc9 pm9 an9 cd9 ct9), sl9⟩) (c9 : PySem.W.codeIn K cd9 "_law_mixed" = true) (k9 : PySem.W.keepIn K (.ref f9) = true)
    {f10 : Addr} {od10 an10 : Option Addr} {sl10 : Array (Option Value)} {oc10 kV10 dc10 pm10 cd10 ct10 : Value}
    (a10 : PySem.W.nsIn K mainGlobals "_law_purse" = some (some (.ref f10))) (l10 : K.lookup f10 = some ⟨oc10, od10, .func (PySem.W.fnOf "_law_purse" "_law_purse" (defArgs s_Lpurse) (defBody s_Lpurse) (defScope s_Lpurse) .none kV10 dc10 pm10 an10 cd10 ct10), sl10⟩) (c10 : PySem.W.codeIn K cd10 "_law_purse" = true) (k10 : PySem.W.keepIn K (.ref f10) = true)
    {f11 : Addr} {od11 an11 : Option Addr} {sl11 : Array (Option Value)} {oc11 kV11 dc11 pm11 cd11 ct11 : Value}
    (a11 : PySem.W.nsIn K mainGlobals "_law_draw" = some (some (.ref f11))) (l11 : K.lookup f11 = some ⟨oc11, od11, .func (PySem.W.fnOf "_law_draw" "_law_draw" (defArgs s_Ldraw) (defBody s_Ldraw) (defScope s_Ldraw) .none kV11 dc11 pm11 an11 cd11 ct11), sl11⟩) (c11 : PySem.W.codeIn K cd11 "_law_draw" = true) (k11 : PySem.W.keepIn K (.ref f11) = true)
    {f12 : Addr} {od12 an12 : Option Addr} {sl12 : Array (Option Value)} {oc12 kV12 dc12 pm12 cd12 ct12 : Value}
    (a12 : PySem.W.nsIn K mainGlobals "_law_whole" = some (some (.ref f12))) (l12 : K.lookup f12 = some ⟨oc12, od12, .func (PySem.W.fnOf "_law_whole" "_law_whole" (defArgs s_Lwhole) (defBody s_Lwhole) (defScope s_Lwhole) .none kV12 dc12 pm12 an12 cd12 ct12), sl12⟩) (c12 : PySem.W.codeIn K cd12 "_law_whole" = true) (k12 : PySem.W.keepIn K (.ref f12) = true)
    {f13 : Addr} {od13 an13 : Option Addr} {sl13 : Array (Option Value)} {oc13 kV13 dc13 pm13 cd13 ct13 : Value}
    (a13 : PySem.W.nsIn K mainGlobals "_law_made" = some (some (.ref f13))) (l13 : K.lookup f13 = some ⟨oc13, od13, .func (PySem.W.fnOf "_law_made" "_law_made" (defArgs s_Lmade) (defBody s_Lmade) (defScope s_Lmade) .none kV13 dc13 pm13 an13 cd13 ct13), sl13⟩) (c13 : PySem.W.codeIn K cd13 "_law_made" = true) (k13 : PySem.W.keepIn K (.ref f13) = true)
    {f14 : Addr} {od14 an14 : Option Addr} {sl14 : Array (Option Value)} {oc14 kV14 dc14 pm14 cd14 ct14 : Value}
    (a14 : PySem.W.nsIn K mainGlobals "_law_sum" = some (some (.ref f14))) (l14 : K.lookup f14 = some ⟨oc14, od14, .func (PySem.W.fnOf "_law_sum" "_law_sum" (defArgs s_Lsum) (defBody s_Lsum) (defScope s_Lsum) .none kV14 dc14 pm14 an14 cd14 ct14), sl14⟩) (c14 : PySem.W.codeIn K cd14 "_law_sum" = true) (k14 : PySem.W.keepIn K (.ref f14) = true)
    {f15 : Addr} {od15 an15 : Option Addr} {sl15 : Array (Option Value)} {oc15 kV15 dc15 pm15 cd15 ct15 : Value}
    (a15 : PySem.W.nsIn K mainGlobals "_law_product" = some (some (.ref f15))) (l15 : K.lookup f15 = some ⟨oc15, od15, .func (PySem.W.fnOf "_law_product" "_law_product" (defArgs s_Lproduct) (defBody s_Lproduct) (defScope s_Lproduct) .none kV15 dc15 pm15 an15 cd15 ct15), sl15⟩) (c15 : PySem.W.codeIn K cd15 "_law_product" = true) (k15 : PySem.W.keepIn K (.ref f15) = true)
    {f16 : Addr} {od16 an16 : Option Addr} {sl16 : Array (Option Value)} {oc16 kV16 dc16 pm16 cd16 ct16 : Value}
    (a16 : PySem.W.nsIn K mainGlobals "_law_number" = some (some (.ref f16))) (l16 : K.lookup f16 = some ⟨oc16, od16, .func (PySem.W.fnOf "_law_number" "_law_number" (defArgs s_Lnumber) (defBody s_Lnumber) (defScope s_Lnumber) .none kV16 dc16 pm16 an16 cd16 ct16), sl16⟩) (c16 : PySem.W.codeIn K cd16 "_law_number" = true) (k16 : PySem.W.keepIn K (.ref f16) = true)
    {f17 : Addr} {od17 an17 : Option Addr} {sl17 : Array (Option Value)} {oc17 kV17 dc17 pm17 cd17 ct17 : Value}
    (a17 : PySem.W.nsIn K mainGlobals "_law_fraction" = some (some (.ref f17))) (l17 : K.lookup f17 = some ⟨oc17, od17, .func (PySem.W.fnOf "_law_fraction" "_law_fraction" (defArgs s_Lfraction) (defBody s_Lfraction) (defScope s_Lfraction) .none kV17 dc17 pm17 an17 cd17 ct17), sl17⟩) (c17 : PySem.W.codeIn K cd17 "_law_fraction" = true) (k17 : PySem.W.keepIn K (.ref f17) = true)
    {f18 : Addr} {od18 an18 : Option Addr} {sl18 : Array (Option Value)} {oc18 kV18 dc18 pm18 cd18 ct18 : Value}
    (a18 : PySem.W.nsIn K mainGlobals "_law_alike_roots" = some (some (.ref f18))) (l18 : K.lookup f18 = some ⟨oc18, od18, .func (PySem.W.fnOf "_law_alike_roots" "_law_alike_roots" (defArgs s_Lalike_roots) (defBody s_Lalike_roots) (defScope s_Lalike_roots) .none kV18 dc18 pm18 an18 cd18 ct18), sl18⟩) (c18 : PySem.W.codeIn K cd18 "_law_alike_roots" = true) (k18 : PySem.W.keepIn K (.ref f18) = true)
    {f19 : Addr} {od19 an19 : Option Addr} {sl19 : Array (Option Value)} {oc19 kV19 dc19 pm19 cd19 ct19 : Value}
    (a19 : PySem.W.nsIn K mainGlobals "_law_three" = some (some (.ref f19))) (l19 : K.lookup f19 = some ⟨oc19, od19, .func (PySem.W.fnOf "_law_three" "_law_three" (defArgs s_Lthree) (defBody s_Lthree) (defScope s_Lthree) .none kV19 dc19 pm19 an19 cd19 ct19), sl19⟩) (c19 : PySem.W.codeIn K cd19 "_law_three" = true) (k19 : PySem.W.keepIn K (.ref f19) = true)
    {f20 : Addr} {od20 an20 : Option Addr} {sl20 : Array (Option Value)} {oc20 kV20 dc20 pm20 cd20 ct20 : Value}
    (a20 : PySem.W.nsIn K mainGlobals "_law_four" = some (some (.ref f20))) (l20 : K.lookup f20 = some ⟨oc20, od20, .func (PySem.W.fnOf "_law_four" "_law_four" (defArgs s_Lfour) (defBody s_Lfour) (defScope s_Lfour) .none kV20 dc20 pm20 an20 cd20 ct20), sl20⟩) (c20 : PySem.W.codeIn K cd20 "_law_four" = true) (k20 : PySem.W.keepIn K (.ref f20) = true)
    {f21 : Addr} {od21 an21 : Option Addr} {sl21 : Array (Option Value)} {oc21 kV21 dc21 pm21 cd21 ct21 : Value}
    (a21 : PySem.W.nsIn K mainGlobals "_law_poly" = some (some (.ref f21))) (l21 : K.lookup f21 = some ⟨oc21, od21, .func (PySem.W.fnOf "_law_poly" "_law_poly" (defArgs s_Lpoly) (defBody s_Lpoly) (defScope s_Lpoly) .none kV21 dc21 pm21 an21 cd21 ct21), sl21⟩) (c21 : PySem.W.codeIn K cd21 "_law_poly" = true) (k21 : PySem.W.keepIn K (.ref f21) = true)
    {f22 : Addr} {od22 an22 : Option Addr} {sl22 : Array (Option Value)} {oc22 kV22 dc22 pm22 cd22 ct22 : Value}
    (a22 : PySem.W.nsIn K mainGlobals "_law_due" = some (some (.ref f22))) (l22 : K.lookup f22 = some ⟨oc22, od22, .func (PySem.W.fnOf "_law_due" "_law_due" (defArgs s_Ldue) (defBody s_Ldue) (defScope s_Ldue) .none kV22 dc22 pm22 an22 cd22 ct22), sl22⟩) (c22 : PySem.W.codeIn K cd22 "_law_due" = true) (k22 : PySem.W.keepIn K (.ref f22) = true)
    {f23 : Addr} {od23 an23 : Option Addr} {sl23 : Array (Option Value)} {oc23 kV23 dc23 pm23 cd23 ct23 : Value}
    (a23 : PySem.W.nsIn K mainGlobals "law" = some (some (.ref f23))) (l23 : K.lookup f23 = some ⟨oc23, od23, .func (PySem.W.fnOf "law" "law" (defArgs s_law) (defBody s_law) (defScope s_law) .none kV23 dc23 pm23 an23 cd23 ct23), sl23⟩) (c23 : PySem.W.codeIn K cd23 "law" = true) (k23 : PySem.W.keepIn K (.ref f23) = true)
    (z_abs : PySem.W.nsIn K mainGlobals "abs" = some none)
    (z_len : PySem.W.nsIn K mainGlobals "len" = some none)
    (z_range : PySem.W.nsIn K mainGlobals "range" = some none)
    (z_max : PySem.W.nsIn K mainGlobals "max" = some none)
    (z_enumerate : PySem.W.nsIn K mainGlobals "enumerate" = some none)
    (z_isinstance : PySem.W.nsIn K mainGlobals "isinstance" = some none)
    (z_int : PySem.W.nsIn K mainGlobals "int" = some none)
    (z_bool : PySem.W.nsIn K mainGlobals "bool" = some none)
    (z_tuple : PySem.W.nsIn K mainGlobals "tuple" = some none)
    (z_list : PySem.W.nsIn K mainGlobals "list" = some none)
    {t_MOST : Tok} (m_MOST : PySem.W.nsIn K mainGlobals "MOST" = some (some (.int 100 t_MOST))) :
    ∃ fd : FuncData, (∀ (s : Shared) (v : Value), BindsTo s fd ⟨[v], []⟩ [("_law_script", v)]) ∧ ∀ base : Heap, K.In base → base.Ns mainGlobals mg → FnOk l.prog w K mg base CX0 5 fa fd ["_law_script"] (spLaw K) := by
  have T : Txt K mg := { z_abs := PySem.W.mg_none_of X G z_abs, z_len := PySem.W.mg_none_of X G z_len, z_range := PySem.W.mg_none_of X G z_range, z_max := PySem.W.mg_none_of X G z_max, z_enumerate := PySem.W.mg_none_of X G z_enumerate, z_isinstance := PySem.W.mg_none_of X G z_isinstance, z_int := PySem.W.mg_none_of X G z_int, z_bool := PySem.W.mg_none_of X G z_bool, z_tuple := PySem.W.mg_none_of X G z_tuple, z_list := PySem.W.mg_none_of X G z_list, mg_MOST := ⟨_, PySem.W.mg_of X G m_MOST, ⟨_, rfl⟩⟩ }
  have e := hfa.symm.trans (PySem.W.mg_of X G a23)
  cases e
  refine ⟨PySem.W.fnOf "law" "law" (defArgs s_law) (defBody s_law) (defScope s_law) .none kV23 dc23 pm23 an23 cd23 ct23, fun s v => .of_eq rfl, fun base _ _ => ?_⟩
  have F0 := L2.fun_mk (st := s_divisor) l0 c0 k0
  have b0 := F0.binds (ps := P_divisor) fun _ _ _ _ _ _ us hl => match us, hl with | [_, _], _ => rfl
  have h_divisor : Cal l.prog w K mg base 1 "divisor" sp_divisor [] := ⟨f0, _, P_divisor, [], ok_divisor T F0 , PySem.W.mg_of X G a0, k0, b0, .nil⟩
  have F1 := L2.fun_mk (st := s_lowest) l1 c1 k1
  have b1 := F1.binds (ps := P_lowest) fun _ _ _ _ _ _ us hl => match us, hl with | [_, _], _ => rfl
  have h_lowest : Cal l.prog w K mg base 2 "lowest" (sp_lowest K) [] := ⟨f1, _, P_lowest, [], ok_lowest T F1 h_divisor, PySem.W.mg_of X G a1, k1, b1, .nil⟩
  have F2 := L2.fun_mk (st := s_plus_of) l2 c2 k2
  have b2 := F2.binds (ps := P_plus_of) fun _ _ _ _ _ _ us hl => match us, hl with | [_, _], _ => rfl
  have h_plus_of : Cal l.prog w K mg base 3 "plus_of" (sp_plus_of K) [] := ⟨f2, _, P_plus_of, [], ok_plus_of T F2 h_lowest, PySem.W.mg_of X G a2, k2, b2, .nil⟩
  have F3 := L2.fun_mk (st := s_times_of) l3 c3 k3
  have b3 := F3.binds (ps := P_times_of) fun _ _ _ _ _ _ us hl => match us, hl with | [_, _], _ => rfl
  have h_times_of : Cal l.prog w K mg base 3 "times_of" (sp_times_of K) [] := ⟨f3, _, P_times_of, [], ok_times_of T F3 h_lowest, PySem.W.mg_of X G a3, k3, b3, .nil⟩
  have F4 := L2.fun_mk (st := s_told_by) l4 c4 k4
  have b4 := F4.binds (ps := P_told_by) fun _ _ _ _ _ _ us hl => match us, hl with | [_], _ => rfl
  have h_told_by : Cal l.prog w K mg base 1 "told_by" (sp_told_by K) [] := ⟨f4, _, P_told_by, [], ok_told_by T F4 , PySem.W.mg_of X G a4, k4, b4, .nil⟩
  have F5 := L2.fun_mk (st := s_must_poly) l5 c5 k5
  have b5 := F5.binds (ps := P_must_poly) fun _ _ _ _ _ _ us hl => match us, hl with | [_], _ => rfl
  have h_must_poly : Cal l.prog w K mg base 2 "must_poly" (sp_must_poly K) [] := ⟨f5, _, P_must_poly, [], ok_must_poly T F5 h_told_by, PySem.W.mg_of X G a5, k5, b5, .nil⟩
  have F6 := L2.fun_mk (st := s_must_fraction) l6 c6 k6
  have b6 := F6.binds (ps := P_must_fraction) fun _ _ _ _ _ _ us hl => match us, hl with | [_], _ => rfl
  have h_must_fraction : Cal l.prog w K mg base 3 "must_fraction" (sp_must_fraction K) [] := ⟨f6, _, P_must_fraction, [], ok_must_fraction T F6 h_lowest, PySem.W.mg_of X G a6, k6, b6, .nil⟩
  have F7 := L2.fun_mk (st := s_worth) l7 c7 k7
  have b7 := F7.binds (ps := P_worth) fun _ _ _ _ _ _ us hl => match us, hl with | [_, _], _ => rfl
  have h_worth : Cal l.prog w K mg base 4 "worth" (sp_worth K) [] := ⟨f7, _, P_worth, [], ok_worth T F7 h_must_poly h_must_fraction h_plus_of h_times_of, PySem.W.mg_of X G a7, k7, b7, .nil⟩
  have k_worth : KCal l.prog w K mg base 4 "worth" (sp_worth K) 0 ["polynomial", "fraction"] (fun _ zs => zs) := ⟨f7, _, P_worth, fun _ ws => ws, ok_worth T F7 h_must_poly h_must_fraction h_plus_of h_times_of, PySem.W.mg_of X G a7, k7, fun s us ws _ h1 h2 => match us, ws, h1, h2 with | [], [_, _], _, _ => .of_eq rfl, fun r1 r2 => r2⟩
  have F8 := L2.fun_mk (st := s_Lat) l8 c8 k8
  have b8 := F8.binds (ps := P_Lat) fun _ _ _ _ _ _ us hl => match us, hl with | [_, _], _ => rfl
  have h_Lat : Cal l.prog w K mg base 1 "_law_at" (sp_Lat K) [] := ⟨f8, _, P_Lat, [], ok_Lat T F8 , PySem.W.mg_of X G a8, k8, b8, .nil⟩
  have F9 := L2.fun_mk (st := s_Lmixed) l9 c9 k9
  have b9 := F9.binds (ps := P_Lmixed) fun _ _ _ _ _ _ us hl => match us, hl with | [_, _], _ => rfl
  have h_Lmixed : Cal l.prog w K mg base 1 "_law_mixed" sp_Lmixed [] := ⟨f9, _, P_Lmixed, [], ok_Lmixed T F9 , PySem.W.mg_of X G a9, k9, b9, .nil⟩
  have F10 := L2.fun_mk (st := s_Lpurse) l10 c10 k10
  have b10 := F10.binds (ps := P_Lpurse) fun _ _ _ _ _ _ us hl => match us, hl with | [_, _], _ => rfl
  have h_Lpurse : Cal l.prog w K mg base 2 "_law_purse" (sp_Lpurse K) [] := ⟨f10, _, P_Lpurse, [], ok_Lpurse T F10 h_Lat, PySem.W.mg_of X G a10, k10, b10, .nil⟩
  have F11 := L2.fun_mk (st := s_Ldraw) l11 c11 k11
  have b11 := F11.binds (ps := P_Ldraw) fun _ _ _ _ _ _ us hl => match us, hl with | [_, _], _ => rfl
  have h_Ldraw : Cal l.prog w K mg base 2 "_law_draw" sp_Ldraw [] := ⟨f11, _, P_Ldraw, [], ok_Ldraw T F11 h_Lmixed, PySem.W.mg_of X G a11, k11, b11, .nil⟩
  have F12 := L2.fun_mk (st := s_Lwhole) l12 c12 k12
  have b12 := F12.binds (ps := P_Lwhole) fun _ _ _ _ _ _ us hl => match us, hl with | [_], _ => rfl
  have h_Lwhole : Cal l.prog w K mg base 1 "_law_whole" sp_Lwhole [] := ⟨f12, _, P_Lwhole, [], ok_Lwhole T F12 , PySem.W.mg_of X G a12, k12, b12, .nil⟩
  have F13 := L2.fun_mk (st := s_Lmade) l13 c13 k13
  have b13 := F13.binds (ps := P_Lmade) fun _ _ _ _ _ _ us hl => match us, hl with | [_, _], _ => rfl
  have h_Lmade : Cal l.prog w K mg base 1 "_law_made" (sp_lowest K) [] := ⟨f13, _, P_Lmade, [], ok_Lmade T F13 , PySem.W.mg_of X G a13, k13, b13, .nil⟩
  have F14 := L2.fun_mk (st := s_Lsum) l14 c14 k14
  have b14 := F14.binds (ps := P_Lsum) fun _ _ _ _ _ _ us hl => match us, hl with | [_, _], _ => rfl
  have h_Lsum : Cal l.prog w K mg base 2 "_law_sum" (sp_plus_of K) [] := ⟨f14, _, P_Lsum, [], ok_Lsum T F14 h_Lmade, PySem.W.mg_of X G a14, k14, b14, .nil⟩
  have F15 := L2.fun_mk (st := s_Lproduct) l15 c15 k15
  have b15 := F15.binds (ps := P_Lproduct) fun _ _ _ _ _ _ us hl => match us, hl with | [_, _], _ => rfl
  have h_Lproduct : Cal l.prog w K mg base 2 "_law_product" (sp_times_of K) [] := ⟨f15, _, P_Lproduct, [], ok_Lproduct T F15 h_Lmade, PySem.W.mg_of X G a15, k15, b15, .nil⟩
  have F16 := L2.fun_mk (st := s_Lnumber) l16 c16 k16
  have b16 := F16.binds (ps := P_Lnumber) fun _ _ _ _ _ _ us hl => match us, hl with | [_, _], _ => rfl
  have h_Lnumber : Cal l.prog w K mg base 3 "_law_number" sp_Lnumber [] := ⟨f16, _, P_Lnumber, [], ok_Lnumber T F16 h_Ldraw, PySem.W.mg_of X G a16, k16, b16, .nil⟩
  have F17 := L2.fun_mk (st := s_Lfraction) l17 c17 k17
  have b17 := F17.binds (ps := P_Lfraction) fun _ _ _ _ _ _ us hl => match us, hl with | [_, _], _ => rfl
  have h_Lfraction : Cal l.prog w K mg base 4 "_law_fraction" (sp_Lfraction K) [] := ⟨f17, _, P_Lfraction, [], ok_Lfraction T F17 h_Ldraw h_Lnumber, PySem.W.mg_of X G a17, k17, b17, .nil⟩
  have F18 := L2.fun_mk (st := s_Lalike_roots) l18 c18 k18
  have b18 := F18.binds (ps := P_Lalike_roots) fun _ _ _ _ _ _ us hl => match us, hl with | [_], _ => rfl
  have h_Lalike_roots : Cal l.prog w K mg base 1 "_law_alike_roots" sp_Lalike_roots [] := ⟨f18, _, P_Lalike_roots, [], ok_Lalike_roots T F18 , PySem.W.mg_of X G a18, k18, b18, .nil⟩
  have F19 := L2.fun_mk (st := s_Lthree) l19 c19 k19
  have b19 := F19.binds (ps := P_Lthree) fun _ _ _ _ _ _ us hl => match us, hl with | [_, _], _ => rfl
  have h_Lthree : Cal l.prog w K mg base 3 "_law_three" sp_Lthree [] := ⟨f19, _, P_Lthree, [], ok_Lthree T F19 h_Ldraw, PySem.W.mg_of X G a19, k19, b19, .nil⟩
  have F20 := L2.fun_mk (st := s_Lfour) l20 c20 k20
  have b20 := F20.binds (ps := P_Lfour) fun _ _ _ _ _ _ us hl => match us, hl with | [_, _], _ => rfl
  have h_Lfour : Cal l.prog w K mg base 3 "_law_four" sp_Lfour [] := ⟨f20, _, P_Lfour, [], ok_Lfour T F20 h_Ldraw, PySem.W.mg_of X G a20, k20, b20, .nil⟩
  have F21 := L2.fun_mk (st := s_Lpoly) l21 c21 k21
  have b21 := F21.binds (ps := P_Lpoly) fun _ _ _ _ _ _ us hl => match us, hl with | [_], _ => rfl
  have h_Lpoly : Cal l.prog w K mg base 4 "_law_poly" sp_Lpoly [] := ⟨f21, _, P_Lpoly, [], ok_Lpoly T F21 h_Ldraw h_Lfour h_Lthree h_Lalike_roots, PySem.W.mg_of X G a21, k21, b21, .nil⟩
  have F22 := L2.fun_mk (st := s_Ldue) l22 c22 k22
  have b22 := F22.binds (ps := P_Ldue) fun _ _ _ _ _ _ us hl => match us, hl with | [_, _], _ => rfl
  have h_Ldue : Cal l.prog w K mg base 3 "_law_due" (sp_Ldue K) [] := ⟨f22, _, P_Ldue, [], ok_Ldue T F22 h_Lmade h_Lsum h_Lproduct, PySem.W.mg_of X G a22, k22, b22, .nil⟩
  have F23 := L2.fun_mk (st := s_law) l23 c23 k23
  exact ok_law T F23 h_Lpurse h_Lpoly h_Lfraction h_Ldraw h_Ldue h_worth k_worth h_Lwhole
theorem walk {l : PySem.W.OpenLaw} {q : Program} {loose : List Str} {XP : (Str → Option Value) → Heap → Prop} {YP : World → Heap → Prop} {d : DefRec} {K : Params → PySem.W.Frag} (hn : l.most = some 63) (hdf : d.params.defaults = [])
    (hY : ∀ (w : World) (h : Heap), YP w h → (K w.params).In h)
    (F : ∀ (w : World) (mg : Str → Option Value) (fa : Addr) (h : Heap), (K w.params).In h → h.Ns mainGlobals mg → mg d.name = some (.ref fa) →
      ∃ fd : FuncData, (∀ (s : Shared) (u : Value), BindsTo s fd ⟨[u], []⟩ [("_law_script", u)]) ∧ ∀ base : Heap, (K w.params).In base → base.Ns mainGlobals mg → FnOk l.prog w (K w.params) mg base CX0 5 fa fd ["_law_script"] (spLaw (K w.params))) :
    PySem.W.WalkO q loose XP YP l.row.toRowW d [] (fun f vs => PySem.call f vs) :=
  L2.walk_of (n := 63) (k := 5) (x := "_law_script") (CX := fun _ => CX0) (sp := fun w => spLaw (K w.params)) hn (by decide) hdf ⟨rfl, by decide, by decide⟩ hY F (fun _ _ a ns hl _ hS => ⟨a, ns, rfl, hS, hl, fun _ => rfl⟩) fun _ _ _ _ _ z => z
end My

open PySem PySem.W PyProof.Rows in
set_option maxRecDepth 100000 in
set_option maxHeartbeats 0 in
theorem PySem.Challenge.cw_rootmoves_k02_worths_holds : PySem.Challenge.rw_rootmoves_k02_worths.Holds := by
  w_on; o_law; k_head; (case hw => w_witness2)
  k_fill
  refine My.walk (l := PySem.Challenge.rw_rootmoves_k02_worths) rfl rfl (fun w h Y => PySem.W.kIn_of Y) ?F
  case F =>
    intro w mg fa h KX G hmg
    refine' My.all_mk KX G hmg ?a0 ?l0 ?c0 ?k0 ?a1 ?l1 ?c1 ?k1 ?a2 ?l2 ?c2 ?k2 ?a3 ?l3 ?c3 ?k3 ?a4 ?l4 ?c4 ?k4 ?a5 ?l5 ?c5 ?k5 ?a6 ?l6 ?c6 ?k6 ?a7 ?l7 ?c7 ?k7 ?a8 ?l8 ?c8 ?k8 ?a9 ?l9 ?c9 ?k9 ?a10 ?l10 ?c10 ?k10 ?a11 ?l11 ?c11 ?k11 ?a12 ?l12 ?c12 ?k12 ?a13 ?l13 ?c13 ?k13 ?a14 ?l14 ?c14 ?k14 ?a15 ?l15 ?c15 ?k15 ?a16 ?l16 ?c16 ?k16 ?a17 ?l17 ?c17 ?k17 ?a18 ?l18 ?c18 ?k18 ?a19 ?l19 ?c19 ?k19 ?a20 ?l20 ?c20 ?k20 ?a21 ?l21 ?c21 ?k21 ?a22 ?l22 ?c22 ?k22 ?a23 ?l23 ?c23 ?k23 ?z_abs ?z_len ?z_range ?z_max ?z_enumerate ?z_isinstance ?z_int ?z_bool ?z_tuple ?z_list ?m_MOST
    (case a0 => k_is)
    (case l0 => k_is)
    (case c0 => k_is)
    (case k0 => k_is)
    (case a1 => k_is)
    (case l1 => k_is)
    (case c1 => k_is)
    (case k1 => k_is)
    (case a2 => k_is)
    (case l2 => k_is)
    (case c2 => k_is)
    (case k2 => k_is)
    (case a3 => k_is)
    (case l3 => k_is)
    (case c3 => k_is)
    (case k3 => k_is)
    (case a4 => k_is)
    (case l4 => k_is)
    (case c4 => k_is)
    (case k4 => k_is)
    (case a5 => k_is)
    (case l5 => k_is)
    (case c5 => k_is)
    (case k5 => k_is)
    (case a6 => k_is)
    (case l6 => k_is)
    (case c6 => k_is)
    (case k6 => k_is)
    (case a7 => k_is)
    (case l7 => k_is)
    (case c7 => k_is)
    (case k7 => k_is)
    (case a8 => k_is)
    (case l8 => k_is)
    (case c8 => k_is)
    (case k8 => k_is)
    (case a9 => k_is)
    (case l9 => k_is)
    (case c9 => k_is)
    (case k9 => k_is)
    (case a10 => k_is)
    (case l10 => k_is)
    (case c10 => k_is)
    (case k10 => k_is)
    (case a11 => k_is)
    (case l11 => k_is)
    (case c11 => k_is)
    (case k11 => k_is)
    (case a12 => k_is)
    (case l12 => k_is)
    (case c12 => k_is)
    (case k12 => k_is)
    (case a13 => k_is)
    (case l13 => k_is)
    (case c13 => k_is)
    (case k13 => k_is)
    (case a14 => k_is)
    (case l14 => k_is)
    (case c14 => k_is)
    (case k14 => k_is)
    (case a15 => k_is)
    (case l15 => k_is)
    (case c15 => k_is)
    (case k15 => k_is)
    (case a16 => k_is)
    (case l16 => k_is)
    (case c16 => k_is)
    (case k16 => k_is)
    (case a17 => k_is)
    (case l17 => k_is)
    (case c17 => k_is)
    (case k17 => k_is)
    (case a18 => k_is)
    (case l18 => k_is)
    (case c18 => k_is)
    (case k18 => k_is)
    (case a19 => k_is)
    (case l19 => k_is)
    (case c19 => k_is)
    (case k19 => k_is)
    (case a20 => k_is)
    (case l20 => k_is)
    (case c20 => k_is)
    (case k20 => k_is)
    (case a21 => k_is)
    (case l21 => k_is)
    (case c21 => k_is)
    (case k21 => k_is)
    (case a22 => k_is)
    (case l22 => k_is)
    (case c22 => k_is)
    (case k22 => k_is)
    (case a23 => k_is)
    (case l23 => k_is)
    (case c23 => k_is)
    (case k23 => k_is)
    (case z_abs => k_is)
    (case z_len => k_is)
    (case z_range => k_is)
    (case z_max => k_is)
    (case z_enumerate => k_is)
    (case z_isinstance => k_is)
    (case z_int => k_is)
    (case z_bool => k_is)
    (case z_tuple => k_is)
    (case z_list => k_is)
    (case m_MOST => k_is)
#print axioms PySem.Challenge.cw_rootmoves_k02_worths_holds
