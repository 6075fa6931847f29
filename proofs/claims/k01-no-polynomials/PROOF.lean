import PyProof.Rows.All
import Wide.All
import OpenK.AllK
import Wide.FinOn
import HandS.ForMost
import HandS.Codes
import HandS.Wide
import HandS.WideBits
import HandS.WideMore
import HandS.Style
import HandS.NoneIn
import HandS.IsInst
import HandS.Deep
import HandS.Walk
import HandS.ForExc
import HandS.TryMany
import HandS.ExcIs
import HandS.ExcInit
import HandS.Defaults
import HandS.Zip
import PySem.Challenge.RW_rootmoves_k01_no_polynomials
set_option Elab.async false
set_option linter.all false
set_option maxRecDepth 100000
set_option maxHeartbeats 4000000
namespace My
open PySem
def top (i : Nat) : Stmt := PySem.Challenge.pw_rootmoves_k01_no_polynomials.main.body.getD i (.Pass ⟨0, 0, 0, 0⟩)
end My
set_option Elab.async false
set_option linter.all false
set_option maxRecDepth 100000
set_option maxHeartbeats 4000000
/-! ### own rules over the hand layer -/
namespace My
open PySem PySem.Spec PyProof.Rows L2
section
variable {X : Cx}
def CFd (_ j : Int) : Prop := j ≠ 0 ∧ j.natAbs.log2 < 9000
theorem op_fdivA : OpR X (binaryOp .FloorDiv) (rI CFd fun i j => .int (i.fdiv j)) := opI fun _ _ _ _ _ _ _ hc q => floordiv_int hc.1 q (.inl (PyProof.noPylong_of_log2 hc.2))
def CPw (i j : Int) : Prop := 0 ≤ j ∧ (Builtin.Int.intBits i : Int) * j ≤ 2 ^ 27
theorem op_powW : OpR X (binaryOp .Pow) (rI CPw fun i j => .int (i ^ j.toNat)) := opI fun _ _ _ _ _ _ _ hc q => pow_int hc.1 hc.2 q
end
section
variable {X : Cx}
theorem ip_fdiv : PIp X .FloorDiv (rI CDivW fun i j => .int (i / j)) := iop_fdivW
theorem ip_mul : PIp X .Mult (rI CMul fun i j => .int (i * j)) := iop_mul
end
theorem ite_tt {A B : Prop} {c : Bool} (hc : c = true) (h : A) : if c = true then A else B := by rw [if_pos hc]; exact h
theorem ite_ff {A B : Prop} {c : Bool} (hc : c = false) (h : B) : if c = true then A else B := by rw [hc, if_neg Bool.false_ne_true]; exact h
/-! ### calls by keywords alone -/
structure KCal (P : Program) (w : World) (K : PySem.W.Frag) (mg : Str → Option Value) (base : Heap) (k : Nat) (x : Str) (sp : Sp) (n : Nat) (ks : List Str) (gV : List V → List V → List V) : Prop where
  ex : ∃ (f : Addr) (fd : FuncData) (ps : List Str) (g : List Value → List Value → List Value), FnOk P w K mg base CX0 k f fd ps sp ∧ mg x = some (.ref f) ∧ PySem.W.keepIn K (.ref f) = true ∧
    (∀ (s : Shared) (us ws : List Value), K.In s.heap → us.length = n → ws.length = ks.length → BindsTo s fd ⟨us, ks.zip ws⟩ (ps.zip (g us ws))) ∧
    (∀ {vs : List V} {us : List Value} {zs : List V} {ws : List Value}, Vals vs us → Vals zs ws → Vals (gV vs zs) (g us ws))
def tCk (sp : Sp) (n m : Nat) (gV : List V → List V → List V) (E : XK) (t tk : TA) : TE := fun σ H Q => t σ H fun vs H1 => tk σ H1 fun zs H2 => vs.length = n ∧ zs.length = m ∧ sp (gV vs zs) H2 Q E
section
variable {X : Cx} {k j n : Nat} {x : Str} {ks : List Str} {sp : Sp} {gV : List V → List V → List V} {p pos : Pos} {e : Expr} {es : List Expr} {kws : List Keyword} {t tk : TA}
theorem run_ck {pins : List (Addr × Obj)} {σ : L2.St} {H : Hp} {s : Shared} {Q : VK} {us ws : List Value} {vs zs : List V} {f : Addr} {fd : FuncData} {ps : List Str} {g : List Value → List Value → List Value}
    (F : FnOk X.prog X.w X.K X.mg X.base CX0 k f fd ps sp) (hr : Room k X.A)
    (to : ∀ (s : Shared) (us ws : List Value), X.K.In s.heap → us.length = n → ws.length = ks.length → BindsTo s fd ⟨us, ks.zip ws⟩ (ps.zip (g us ws)))
    (rel : ∀ {vs : List V} {us : List Value} {zs : List V} {ws : List Value}, Vals vs us → Vals zs ws → Vals (gV vs zs) (g us ws))
    (I : Inv X pins σ H s) (r : Vals vs us) (rz : Vals zs ws) (l1 : vs.length = n) (l2 : zs.length = ks.length) (h : sp (gV vs zs) H Q E0) : wpAny (model X.prog X.w) X.A (call (.ref f) us (ks.zip ws)) (EP X pins σ Q) X.xe s := by
  have r2 := rel r rz
  refine wpAny_call (codeAny_mono (F.run X.A X.stack s H ⟨us, ks.zip ws⟩ (g us ws) (gV vs zs) Q E0 hr I.env0 (to s us ws I.kIn (by rw [← r.length]; exact l1) (by rw [← rz.length]; exact l2)) r2 h) fun r s' hq => ?_)
  cases r with
  | error e => exact hq.elim
  | ok fl =>
    cases fl with
    | ret u => exact I.after hq
    | next => exact False.elim hq
    | brk => exact False.elim hq
    | cont => exact False.elim hq
theorem pe_ck0 (c : KCal X.prog X.w X.K X.mg X.base k x sp 0 ks gV) (hr : Room j X.A) (hk : k ≤ j) (hg : Gl X x) (hkw : PK X kws tk)
    (hall : (backToKw pos (keywordEach kws X.env)).all (·.1.isSome) = true := by rfl) (hks : (backToKw pos (keywordEach kws X.env)).filterMap (·.1) = ks := by rfl) (hdb : (x == ("__debug__" : Str)) = false := by decide)
    (hpl : ((backTo pos (starEach [] X.env)).any (·.1) || (backToKw pos (keywordEach kws X.env)).any (·.1.isNone)) = false := by rfl) :
    PE X (.Call (.Name x p) [] kws pos) (tCk sp 0 ks.length gV E0 tNil tk) := by
  obtain ⟨f, fd, ps, g, F, hm, kp, to, rel⟩ := c.ex
  refine ⟨fun pins s σ H Q I h => ?_⟩
  refine wpAny_Call_Name_kw (ld_glob I hg hm ?_ hdb)
  refine PySem.W.callWith_KW0 (h₀ := X.base) I.ok.mod.kin kp hall ?_ hpl
  refine thn (hkw.run pos pins s σ H _ I h) fun ws s2 ⟨zs, H2, I2, rz, l1, l2, q2⟩ => ⟨I2.kIn, ?_⟩
  rw [hks]
  exact run_ck (us := []) (vs := []) F (hr.mono hk) to rel I2 .nil rz rfl l2 q2
theorem pe_ck (c : KCal X.prog X.w X.K X.mg X.base k x sp n ks gV) (hr : Room j X.A) (hk : k ≤ j) (hg : Gl X x) (ha : PA X (e :: es) t) (hkw : PK X kws tk)
    (hall : (backToKw pos (keywordEach kws X.env)).all (·.1.isSome) = true := by rfl) (hks : (backToKw pos (keywordEach kws X.env)).filterMap (·.1) = ks := by rfl) (hdb : (x == ("__debug__" : Str)) = false := by decide)
    (he : starEach (e :: es) X.env = (false, eval e X.env) :: starEach es X.env := by rfl) (hpl : ((backTo pos (starEach (e :: es) X.env)).any (·.1) || (backToKw pos (keywordEach kws X.env)).any (·.1.isNone)) = false := by rfl) :
    PE X (.Call (.Name x p) (e :: es) kws pos) (tCk sp n ks.length gV E0 t tk) := by
  obtain ⟨f, fd, ps, g, F, hm, kp, to, rel⟩ := c.ex
  refine ⟨fun pins s σ H Q I h => ?_⟩
  refine wpAny_Call_Name_kw (ld_glob I hg hm ?_ hdb)
  refine PySem.W.callWith_KW (h₀ := X.base) I.ok.mod.kin kp hall (thn (ha.run pos pins s σ H _ I h) fun us s1 ⟨vs, H1, I1, r, q⟩ => ?_) hpl he
  refine thn (hkw.run pos pins s1 σ H1 _ I1 q) fun ws s2 ⟨zs, H2, I2, rz, l1, l2, q2⟩ => ⟨I2.kIn, ?_⟩
  rw [hks]
  exact run_ck F (hr.mono hk) to rel I2 r rz l1 l2 q2
end
end My

/-! ### exceptions that are caught and kept -/
namespace My
open PySem PySem.Spec PyProof.Rows L2
/-- a caught exception that is kept: its class, its own dict -/
def ExV (cls : Value) (d : Option Addr) (a : Addr) : HO := .ext fun h => ∃ (o : Obj) (vs : Array Value), h.get? a = some o ∧ o.cls = cls ∧ o.dict = d ∧ o.data = .fields vs
section
variable {X : Cx} {pins : List (Addr × Obj)} {σ : L2.St} {H : Hp} {s : Shared}
theorem track {a : Addr} {cls : Value} {d : Option Addr} {oe : Obj} (I : Inv X pins σ H s) (he : s.heap.get? a = some oe) (hz : Zc cls d oe) (hd : ∃ vs, oe.data = .fields vs) (na : H a = none) (nL : a ≠ X.env.locals)
    (new : X.s_0.heap.get? a = none) (np : ∀ p ∈ X.pn ++ pins, p.1 ≠ a) : Inv X pins σ (upd H a (ExV cls d a)) s := by
  obtain ⟨vs, hv⟩ := hd
  have ne : ∀ {b : Addr} {o : HO}, H b = some o → b ≠ a := fun {b o} q z => by rw [z, na] at q; cases q
  refine ⟨I.ok, I.os, I.bare, ⟨I.base.keep, I.base.slot, fun b o q n hx => ?_, I.base.there, fun b xs q => ?_, fun b o u q => ?_, fun b ps q => ?_⟩, I.loc, I.cell, ?_, fun x c e => ?_, fun p hp => ?_, fun b o q => ?_, I.len⟩
  · have nb : b ≠ a := fun z => by rw [z, new] at q; cases q
    rw [upd_ne nb]
    exact I.base.free b o q n hx
  · have := I.base.tups b xs q
    rw [upd_ne (ne this)]; exact this
  · have := I.base.frzs b o u q
    rw [upd_ne (ne this)]; exact this
  · obtain ⟨m, this⟩ := I.base.tbls b ps q
    exact ⟨m, by rw [upd_ne (ne this)]; exact this⟩
  · rw [upd_ne nL.symm]; exact I.free
  · have nc : c ≠ a := fun z => by
      obtain ⟨v, o, ho, hdt⟩ := I.cell x c e
      rw [z, he] at ho
      cases ho
      rw [hv] at hdt
      cases hdt
    rw [upd_ne nc]; exact I.freeC x c e
  · obtain ⟨p1, p2, p3⟩ := I.pin p hp
    exact ⟨p1, by rw [upd_ne (np p hp)]; exact p2, p3⟩
  · by_cases hb : b = a
    · subst hb
      rw [upd_same] at q
      cases q
      exact ⟨⟨oe, vs, he, hz.1, hz.2, hv⟩, ⟨oe, he⟩, fun h1 h2 ⟨o, vs', e1, e2⟩ k => ⟨o, vs', k _ e1, e2⟩⟩
    · rw [upd_ne hb] at q
      exact (I.hok b o q).stay (fun _ _ _ z => z) (fun c z => by rw [upd_ne (ne z)]; exact z) fun c xs z => by rw [upd_ne (ne z)]; exact z
end
/-- the ends of a suite that keeps its exception: its name goes, the exception stays tracked -/
def DKeep (i : Nat) (a : Addr) (cls : Value) (d : Option Addr) (D : Ends) : Ends :=
  { nx := fun σ' H' => H' a = none → D.nx (σ'.set i none) (upd H' a (ExV cls d a)), rt := fun _ _ => False, bk := fun _ _ => False, ct := fun _ _ => False }
/-- what the clauses «except c as n: suite» wish of an exception, one after the other; n in slot i -/
def wKeep (K : PySem.W.Frag) (i : Nat) (Wout : WX) (D : Ends) : List (Value × (Addr → Value → Option Addr → TS)) → WX
  | [] => Wout
  | (c, ts) :: r => fun cls d σ H => ∃ b, PySem.W.exmOne K cls c = some b ∧ (b = true → ∀ a, H a = none → ts a cls d (DKeep i a cls d D) (σ.set i (some (.ref a))) H) ∧ (b = false → wKeep K i Wout D r cls d σ H)
inductive HdsKeep (X : Cx) (n : Str) : List ExceptHandler → List (Value × (Addr → Value → Option Addr → TS)) → Prop
  | nil : HdsKeep X n [] []
  | cons {x : Str} {c : Value} {ts : Addr → Value → Option Addr → TS} {b₀ : Stmt} {suite : List Stmt} {np pos' : Pos} {hds : List ExceptHandler} {l : List (Value × (Addr → Value → Option Addr → TS))} (hc : Names X x c)
      (hsu : ∀ (a : Addr) (oe : Obj) (cls : Value) (d : Option Addr) (pn : List (Addr × Obj)), PSs (X.suite a ((a, oe) :: pn)) (b₀ :: suite) (ts a cls d)) (r : HdsKeep X n hds l) :
      HdsKeep X n (.ExceptHandler (some (.Name x np)) (some n) (b₀ :: suite) pos' :: hds) ((c, ts) :: l)
section
variable {X : Cx} {n : Str} {i : Nat} {body : List Stmt} {h₀ : ExceptHandler} {hds : List ExceptHandler} {l : List (Value × (Addr → Value → Option Addr → TS))} {pos : Pos} {tb : WX → TS} {Wout : WX}
theorem ps_try_keep (hs : X.stack = X.env :: X.outer) (hf : X.env.frame = some X.env.locals) (hex : X.ex = []) (hN : X.N.Nodup) (hi : X.N[i]? = some n) (hln : X.env.kindOf n = some .local) (tk : Takes X Wout)
    (hb : ∀ (W : WX) (pn : List (Addr × Obj)) (xe : Value → Shared → Prop), Takes (X.tr pn xe) W → PassesOwn (model X.prog X.w) X.A X.env xe → PSs (X.tr pn xe) body (tb W))
    (hh : HdsKeep X n (h₀ :: hds) l) : PS X (.Try body (h₀ :: hds) [] [] pos) (fun D σ H => tb (wKeep X.K i Wout D l) D σ H) := by
  refine ⟨fun pins s σ H D I h => ?_⟩
  have ok := I.ok
  have hfr : X.A.frames = some (X.env :: X.outer) := by rw [ok.frames, hs]
  have hloc : Loc X.env.scope n := .inl hln
  refine wpAny_Try_except ?_
  refine wpAny_mono ((hb (wKeep X.K i Wout D l) (X.pn ++ pins) (fun e s₁ => wpAny (model X.prog X.w) X.A (noteFrame e X.env) (fun _ s₂ => wpAny (model X.prog X.w) X.A (setFlight e none) (fun _ s₃ =>
    wpAny (model X.prog X.w) X.A (handleBy e X.env (h₀ :: hds)) (SP X pins D) X.xe s₃) X.xe s₂) X.xe s₁) (fun u s' xx => ?_) PassesOwn.looking).run [] s σ H D (I.toTry _) h) (fun f s1 hsp => ?_) (fun _ _ z => z)
  · obtain ⟨a, B, sI, pins', σ', H', cls, d, rfl, J', nb, up, sky, na, os, ag, w⟩ := xx
    have J : Inv X pins σ' H' sI := J'.ofTry ok
    have sky' : Sky B (X.env :: X.outer) a (Zc cls d) X.env.locals s'.heap := by rw [← hs]; exact sky
    show wpAny (model X.prog X.w) X.A (noteFrame (.ref a) X.env) _ _ _
    refine Sky.land Zc.steady hfr hf sky' fun h3 fl3 up3 => ?_
    have J3 : Inv X pins σ' H' { s' with heap := h3 } := J.landed nb fl3.1 (up.trans up3) os ag
    obtain ⟨oe3, vs3, he3, hz3, hd3⟩ := fl3.there
    have Ba : B.get? a = none := fl3.2.1
    have nfr : a ∉ frs (X.env :: X.outer) := fun hm => by
      obtain ⟨_, o', e', hnf⟩ := (fl3.2.2.1).mem hm
      rw [he3] at e'; cases e'
      exact hnf _ hd3
    have nL : a ≠ X.env.locals := fun z => nfr (List.mem_filterMap.mpr ⟨X.env, List.mem_cons_self, by rw [hf, z]⟩)
    have nF : a ∉ X.fs := fun hm => by
      obtain ⟨e, he, q⟩ := List.mem_filterMap.mp hm
      exact nfr (List.mem_filterMap.mpr ⟨e, List.mem_cons_of_mem _ he, q⟩)
    have notI : sI.heap.get? a = none := by
      cases e : sI.heap.get? a with
      | none => rfl
      | some o =>
        have := nb a o e (by rw [hs]; exact nfr)
        rw [Ba] at this; cases this
    have new0 : X.s_0.heap.get? a = none := by
      cases e : X.s_0.heap.get? a with
      | none => rfl
      | some o =>
        obtain ⟨o', q⟩ := J.base.there a o e (by rw [hex]; simp)
        rw [notI] at q; cases q
    have np : ∀ p ∈ X.pn ++ pins, p.1 ≠ a := fun p hp z => by
      have q := (J.pin p hp).1
      rw [z, notI] at q; cases q
    have S3 := J3.suite he3 hd3 na nL nF
    have go : ∀ {hds' : List ExceptHandler} {l' : List (Value × (Addr → Value → Option Addr → TS))}, HdsKeep X n hds' l' → wKeep X.K i Wout D l' cls d σ' H' →
        wpAny (model X.prog X.w) X.A (handleBy (.ref a) X.env hds') (SP X pins D) X.xe { s' with heap := h3 } := by
      intro hds' l' hk
      induction hk with
      | nil =>
        intro w
        refine wpAny_handleBy_nil ?_
        obtain ⟨k1, k2, k3, oe, vs, T, oT, ts', he, hz, hd, h1, hr⟩ := id fl3
        unfold PySem.passOn
        refine wpAny_bind (wpAny_field he hd h1 ?_)
        rw [if_neg (show ¬ ((Value.ref T == Value.none) = true) from by simp)]
        have fin : wpAny (model X.prog X.w) X.A (setFlight (.ref a) X.env.frame) (fun _ s4 => wpAny (model X.prog X.w) X.A (throw (.ref a) : Sem Flow) (SP X pins D) X.xe s4) X.xe { s' with heap := h3 } := by
          rw [hf]
          refine HandSPX.setFlight_upZ fl3 fun h4 hh4 up4 => wpAny_throw (tk _ _ ?_)
          exact ⟨a, B, sI, pins, σ', H', cls, d, rfl, J, nb, (up.trans up3).trans up4, .inr (.inr (by rw [hs]; exact hh4)), na, os, ag, w⟩
        first
          | exact wpAny_bind (wpAny_pure (wpAny_bind fin))
          | exact wpAny_bind fin
      | @cons x c ts b₀ suite np' pos' hds2 l2 hc hsu r ih =>
        intro w
        obtain ⟨b, hb1, hyes, hno⟩ := w
        refine wpAny_handleBy_cons (codeAny_handlers_test ?_) (by intro q; cases q)
        have LT : PySem.W.Looks (model X.prog X.w) h3 (typeOf (.ref a)) cls := fun A Q E s k q => wpAny_typeOf_ref (k _ _ he3) (by rw [hz3.1]; exact q)
        have LM := PySem.W.exm_one (M := model X.prog X.w) (J3.kIn) LT hb1
        have test : ∀ {Q : Value → Shared → Prop} {E : Value → Shared → Prop}, Q c { s' with heap := h3 } → wpAny (model X.prog X.w) (X.A.mark (some (.ref a))) (eval (.Name x np') X.env) Q E { s' with heap := h3 } := fun {Q E} q => by
          obtain ⟨hg, hdbg, hm | ⟨hm, hv, hnn⟩⟩ := hc
          · exact ld_glob (X := X.suite a ((a, oe3) :: (X.pn ++ pins))) S3 hg hm q hdbg
          · exact ld_blt (X := X.suite a ((a, oe3) :: (X.pn ++ pins))) S3 hg hm hv q hnn hdbg
        refine test (LM.here ?_)
        cases b with
        | true =>
          refine codeAny_handlers_suite_as ?_
          refine HandSPX.lands_againZ fl3 fun h4 fl4 up4 => ?_
          have J4 : Inv X pins σ' H' { s' with heap := h4 } := J.landed nb fl4.1 ((up.trans up3).trans up4) os ag
          obtain ⟨oe4, vs4, he4, hz4, hd4⟩ := fl4.there
          have S4 := J4.suite he4 hd4 na nL nF
          refine store_ok (X := X.suite a ((a, oe4) :: (X.pn ++ pins))) (v := .ref a) S4 hN hi hloc rfl (fun s5 S5 => ?_) (.inr hln)
          refine wpAny_mono ((hsu a oe4 cls d (X.pn ++ pins)).run [] s5 _ H' _ S5 (hyes rfl a na)) (fun f s6 hsp => ?_) (fun _ _ z => False.elim z)
          cases f with
          | next =>
            obtain ⟨σ6, H6, S6, q6⟩ := hsp
            obtain ⟨pa, pb, _⟩ := S6.pin (a, oe4) (List.mem_append_left _ List.mem_cons_self)
            exact gone_ok (track (S6.unsuite ok) pa hz4 ⟨_, hd4⟩ pb nL new0 np) hN hi hln fun s7 J7 => ⟨_, _, J7, q6 pb⟩
          | brk =>
            obtain ⟨σ6, H6, S6, q6⟩ := hsp
            exact False.elim q6
          | cont =>
            obtain ⟨σ6, H6, S6, q6⟩ := hsp
            exact False.elim q6
          | ret u =>
            obtain ⟨v6, σ6, H6, S6, r6, q6⟩ := hsp
            exact False.elim q6
        | false =>
          show wpAny _ X.A (handleBy (.ref a) X.env hds2) _ _ _
          exact ih (hno rfl)
    exact go hh w
  · cases f with
    | next =>
      obtain ⟨σ', H', J', q⟩ := hsp
      exact wpAny_execs_nil ⟨σ', H', J'.ofTry ok, q⟩
    | brk =>
      obtain ⟨σ', H', J', q⟩ := hsp
      exact ⟨σ', H', J'.ofTry ok, q⟩
    | cont =>
      obtain ⟨σ', H', J', q⟩ := hsp
      exact ⟨σ', H', J'.ofTry ok, q⟩
    | ret u =>
      obtain ⟨v, σ', H', J', r, q⟩ := hsp
      exact ⟨v, σ', H', J'.ofTry ok, r, q⟩
end
end My

/-! ### isinstance of a kept exception, its field -/
namespace My
open PySem PySem.Spec PySem.Calls PyProof.Rows
open PySem.W in
theorem kept_class {prog : Program} {w : World} {A : Around} {E : Value → Shared → Prop} {s : Shared} {K : Frag} {x D : Addr} {ox : Obj} {od : Option Obj} {Q : Option Value → Shared → Prop} (hga : findIn K (.ref D) "__getattribute__" = some (some (.builtin "BaseException.__getattribute__"))) (hgt : findIn K (.ref D) "__getattr__" = some none)
    (hsub : subIn K (.ref D) (.type "BaseException") = some true) (hdct : hasDictIn K D = true) (ha : findIn K (.ref D) "__class__" = some (some (.builtin "object.__class__"))) (hn : specialIn K (.builtin "object.__class__") "__get__" = some (some (.builtin "getset_descriptor.__get__")))
    (htk : takesIn K (.builtin "object.__class__") = some true) (hm : mroIn K D (.type "object") = some true) (X : K.In s.heap) (I : InstAt s.heap x ox D od) (h : Q (some (.ref D)) { s with toks := s.toks + 1 }) : wpAny (model prog w) A (getAttr? (.ref x) "__class__") Q E s := by
  have hf : findObj K D od "__class__" = some (.bind (.builtin "getset_descriptor.__get__") (.builtin "object.__class__")) := by
    obtain ⟨cd, hc, _⟩ := any_some hdct
    unfold findObj
    rw [hc, Option.bind_some, ha, Option.bind_some]
    simp [hn, htk]
  obtain ⟨hp, g, d, t, os⟩ := s
  have L0 := I.type (M := model prog w)
  have L1 := looks_findIn (M := model prog w) X hga
  have L2 := looks_findIn (M := model prog w) X hgt
  have L3 := looks_find (M := model prog w) X I hf
  have sub : Looks (model prog w) hp (isInstance (.ref x) (.type "BaseException")) true := L0.andThen (looks_subIn X hsub)
  have hx0 : (false && onTheHeap (Value.builtin "BaseException.__getattribute__")) = false := rfl
  have hx2 : (Value.builtin "BaseException.__getattribute__" == Value.builtin "object.__getattribute__") = false := by decide +kernel
  have hx1 : (onTheHeap (Value.ref D) && Value.builtin "BaseException.__getattribute__" == Value.builtin "object.__getattribute__") = false := by rw [hx2]; rfl
  unfold getAttr? getAttrBy? getAttrBy
  refine wpAny_bind (wpAny_mkText (wpAny_bind (wpAny_attempt (wpAny_holding (wpAny_bind (L0.at (wpAny_bind (L1.at ?_))))))))
  show wpAny _ _ (if (onTheHeap (Value.ref D) && Value.builtin "BaseException.__getattribute__" == Value.builtin "object.__getattribute__") = true then _ else _) _ _ _
  rw [hx1, if_neg Bool.false_ne_true]
  unfold getAttrByItsOwn hookBefore
  refine wpAny_bind ?_
  rw [if_pos (show onTheHeap (Value.ref D) = true from rfl)]
  refine L2.at ?_
  refine wpAny_bind (wpAny_attempt (wpAny_holding ?_))
  unfold callGetattribute
  rw [hx0, if_neg Bool.false_ne_true]
  unfold boundAndCalled
  rw [PySem.F.excAttr_ValueError.ga.bind (.ref x)]
  refine wpAny_bind (wpAny_pure ?_)
  show wpAny _ _ (call (.builtin "BaseException.__getattribute__") [.ref x, .str "__class__" t]) _ _ _
  refine wpAny_call (codeAny_call_builtin PySem.F.excAttr_ValueError.ga.plain PySem.F.entry_bexc_ga ?_)
  refine @check_slot (model prog w) _ _ ⟨hp, g, d, t + 1, os⟩ "BaseException.__getattribute__" "BaseException" "__getattribute__" (.ref x) [.str "__class__" t] [] _ (by decide +kernel) (by decide +kernel) sub (PySem.F.args_bexc_ga (.ref x) (.str "__class__" t)) ?_
  unfold Builtin.«object.__getattribute__»
  refine wpAny_bind (wpAny_of_eq (a := ((Value.ref x : Value), [Value.str "__class__" t])) (by first | rfl | (simp only [slotArgs]; rfl)) ?_)
  refine wpAny_bind (wpAny_pure (wpAny_bind (L0.at (wpAny_bind (L3.at ?_)))))
  show wpAny _ _ (holding [Value.builtin "object.__class__"] (call (.builtin "getset_descriptor.__get__") [.builtin "object.__class__", .ref x, .ref D]) >>= ret) _ _ _
  refine wpAny_bind (wpAny_holding (wpAny_call (class_get (s := ⟨hp, g, d, t + 1, os⟩) (ox := ox) (od := od) X I hm ?_)))
  refine wpAny_pure ?_
  show wpAny _ _ (handedOut (.ref D)) _ _ _
  rw [handedOut_of (v := .ref D) rfl]
  first
    | exact wpAny_pure (wpAny_pure h)
    | exact wpAny_pure h
    | exact wpAny_pure (wpAny_bind (wpAny_pure (wpAny_pure h)))
open PySem.W in
theorem kept_kit {K : Frag} {x D : Addr} {ox : Obj} {od : Option Obj} (hga : findIn K (.ref D) "__getattribute__" = some (some (.builtin "BaseException.__getattribute__"))) (hgt : findIn K (.ref D) "__getattr__" = some none) (hsub : subIn K (.ref D) (.type "BaseException") = some true) (hdct : hasDictIn K D = true)
    (ha : findIn K (.ref D) "__class__" = some (some (.builtin "object.__class__"))) (hn : specialIn K (.builtin "object.__class__") "__get__" = some (some (.builtin "getset_descriptor.__get__"))) (htk : takesIn K (.builtin "object.__class__") = some true) (hm : mroIn K D (.type "object") = some true) :
    KitX K (.ref x) (.ref D) (fun h => InstAt h x ox D od) where
  ty := fun _ _ _ I => I.type
  it := fun _ _ X _ => by
    obtain ⟨cdD, hcD, _⟩ := any_some hdct
    unfold clsIn at hcD
    split at hcD
    · rename_i c' d' cd' sl' ho
      intro A' Q' E' s' k q
      unfold isType loadHead
      exact wpAny_bind (wpAny_loadPart (k _ _ (X _ _ ho)) (wpAny_pure q))
    · cases hcD
  ne := fun h tp dd its n sl X htp => by
    obtain ⟨cdD, hcD, _⟩ := any_some hdct
    refine Bool.eq_false_iff.mpr fun q => ?_
    have e : D = tp := Value.ref.inj (beq_iff_eq.mp q)
    subst e
    unfold clsIn at hcD
    split at hcD
    · rename_i c' d' cd' sl' ho
      have z := (X _ _ ho).symm.trans htp
      cases z
    · cases hcD
  ca := fun X I k => kept_class hga hgt hsub hdct ha hn htk hm X I k
open L2
/-- a kept exception of the class at D; its dict, if it has one, is tracked -/
def Kept (H : Hp) (a D : Addr) (d : Option Addr) : Prop := H a = some (ExV (.ref D) d a) ∧ (d = none ∨ ∃ dd fs, d = some dd ∧ H dd = some (.xd fs))
section
variable {X : Cx} {pins : List (Addr × Obj)} {σ : L2.St} {H : Hp} {s : Shared}
theorem Kept.inst {a D : Addr} {d : Option Addr} (h : Kept H a D d) (I : Inv X pins σ H s) : ∃ ox od, PySem.W.InstAt s.heap a ox D od ∧ ox.dict = d := by
  obtain ⟨hk, hd⟩ := h
  obtain ⟨⟨o, vs, ho, hc, hdict, hdat⟩, _⟩ := (show ObjOk X.prog X.w H s.heap a (ExV (.ref D) d a) from I.hok a _ hk)
  obtain ⟨oc, ood, oda, osl⟩ := o
  dsimp only at hc hdict hdat
  subst hc hdict hdat
  rcases hd with rfl | ⟨dd, fs, rfl, hdd⟩
  · exact ⟨_, none, ⟨ho, rfl, rfl, trivial⟩, rfl⟩
  · obtain ⟨mA, hns, _⟩ := (show ObjOk X.prog X.w H s.heap dd (.xd fs) from I.hok dd _ hdd)
    obtain ⟨od, ho2, _⟩ := lookIn_ns hns
    exact ⟨_, some od, ⟨ho, rfl, rfl, ho2⟩, rfl⟩
end
/-- isinstance(e, c), e kept -/
def rIsK (K : PySem.W.Frag) : List V → Hp → VK → Prop := fun xs H Q => ∃ (a D : Addr) (d : Option Addr) (c : V) (u : Value) (b : Bool), xs = [.ref a, c] ∧ Kept H a D d ∧ ExcC K D ∧ ClsV c u ∧ PySem.W.kitOne K (.ref D) u = some b ∧ Q (.bl b) H
theorem call_isK {X : Cx} : CallR X (.builtin "isinstance") (rIsK X.K) := by
  intro pins s σ H xs us Q I r h
  obtain ⟨a, D, d, c, u, b, rfl, hk, C, hc, e, q⟩ := h
  obtain ⟨u1, u2, rfl, r1, r2⟩ := vals2 r
  have e2 := hc.eq r2
  subst e2
  obtain rfl : u1 = Value.ref a := r1
  obtain ⟨ox, od, J, _⟩ := hk.inst I
  exact PySem.W.kia_one (kept_kit C.hg C.hk C.hs C.hd C.ha C.hn C.ht C.hm) I.kIn J e (fun z => nomatch z) fun tk => ⟨.bl b, H, I.tok tk, rfl, q⟩
/-- isinstance(x, c), x a value of the layer or a kept exception -/
theorem call_isA {X : Cx} : CallR X (.builtin "isinstance") (fun xs H Q => rIsi X.K xs H Q ∨ rIsK X.K xs H Q) := CallR.or call_isi call_isK
/-- e.f, e kept -/
def tKFld (K : PySem.W.Frag) (te : TE) (f : Str) : TE := fun σ H Q => te σ H fun x H1 => ∃ (a D dd : Addr) (fs : List (Str × V)) (v : V), x = .ref a ∧ H1 a = some (ExV (.ref D) (some dd) a) ∧ H1 dd = some (.xd fs) ∧ ExcC K D ∧ PySem.W.findIn K (.ref D) f = some none ∧ fs.lookup f = some v ∧ Q v H1
theorem pe_kf {X : Cx} {e : Expr} {te : TE} {f : Str} {pos : Pos} (he : PE X e te) (hb : attributeBase e f X.env (eval e X.env) = eval e X.env := by rfl) : PE X (.Attribute e f pos) (tKFld X.K te f) := by
  refine ⟨fun pins s σ H Q I h => ?_⟩
  refine attr_of hb (thn (he.run pins s σ H _ I h) fun u s1 hh => ?_)
  obtain ⟨x, H1, I1, rx, a, D, dd, fs, v, rfl, ha, hdd, C, hno, hl, q⟩ := hh
  obtain rfl : u = Value.ref a := rx
  obtain ⟨ox, od, J, hdict⟩ := Kept.inst (D := D) (d := some dd) ⟨ha, .inr ⟨dd, fs, rfl, hdd⟩⟩ I1
  have hx : ObjOk X.prog X.w H1 s1.heap dd (.xd fs) := I1.hok dd _ hdd
  obtain ⟨mA, hns, hr⟩ := hx
  obtain ⟨od2, ho2, hlk⟩ := lookIn_ns hns
  obtain ⟨w', hu, ru⟩ := RelO.some_of (v := v) (o := mA f) (by rw [← hl]; exact hr f)
  have J2 : PySem.W.InstAt s1.heap a ox D (some od2) := ⟨J.at_, J.cls, J.no, by rw [hdict]; exact ho2⟩
  exact HandSPX.exc_get I1.kIn J2 C.hg C.hk C.hs (PySem.W.findObj_own C.hd hno rfl (by rw [hlk, hu])) (handed_of ru) ⟨v, H1, I1.tok _, ru, q⟩
end My

/-! ### calls of defs that may raise -/
namespace My
open PySem PySem.Spec PyProof.Rows L2
structure CalX (P : Program) (w : World) (K : PySem.W.Frag) (mg : Str → Option Value) (base : Heap) (k : Nat) (x : Str) (sp : Sp) : Prop where
  ex : ∃ (f : Addr) (fd : FuncData) (ps : List Str), FnOk P w K mg base (L2.CX P w) k f fd ps sp ∧ mg x = some (.ref f) ∧ PySem.W.keepIn K (.ref f) = true ∧ Binds K fd ps []
structure KCalX (P : Program) (w : World) (K : PySem.W.Frag) (mg : Str → Option Value) (base : Heap) (k : Nat) (x : Str) (sp : Sp) (n : Nat) (ks : List Str) (gV : List V → List V → List V) : Prop where
  ex : ∃ (f : Addr) (fd : FuncData) (ps : List Str) (g : List Value → List Value → List Value), FnOk P w K mg base (L2.CX P w) k f fd ps sp ∧ mg x = some (.ref f) ∧ PySem.W.keepIn K (.ref f) = true ∧
    (∀ (s : Shared) (us ws : List Value), K.In s.heap → us.length = n → ws.length = ks.length → BindsTo s fd ⟨us, ks.zip ws⟩ (ps.zip (g us ws))) ∧
    (∀ {vs : List V} {us : List Value} {zs : List V} {ws : List Value}, Vals vs us → Vals zs ws → Vals (gV vs zs) (g us ws))
section
variable {X : Cx} {k j n : Nat} {x : Str} {ks : List Str} {sp : Sp} {E : L2.St → XK} {gV : List V → List V → List V} {p pos : Pos} {e : Expr} {es : List Expr} {kws : List Keyword} {t tk : TA}
/-- it raises nothing here -/
theorem pe_cX (c : CalX X.prog X.w X.K X.mg X.base k x sp) (hr : Room j X.A) (hk : k ≤ j) (hg : Gl X x) (ha : PA X (e :: es) t)
    (hdb : (x == ("__debug__" : Str)) = false := by decide) (he : starEach (e :: es) X.env = (false, eval e X.env) :: starEach es X.env := by rfl) (hpl : (backTo pos (starEach es X.env)).any (·.1) = false := by rfl) :
    PE X (.Call (.Name x p) (e :: es) [] pos) (tCall sp [] E0 t) := by
  obtain ⟨f, fd, ps, F, hm, kp, b⟩ := c.ex
  exact pe_call F (hr.mono hk) hg hm kp b .nil passL ha hdb he hpl
/-- within a try's body -/
theorem pe_cS (c : CalX X.prog X.w X.K X.mg X.base k x sp) (hr : Room j X.A) (hk : k ≤ j) (hg : Gl X x) (hx : ∀ σ, PassesAt (L2.CX X.prog X.w) X σ (E σ)) (ha : PA X (e :: es) t)
    (hdb : (x == ("__debug__" : Str)) = false := by decide) (he : starEach (e :: es) X.env = (false, eval e X.env) :: starEach es X.env := by rfl) (hpl : (backTo pos (starEach es X.env)).any (·.1) = false := by rfl) :
    PE X (.Call (.Name x p) (e :: es) [] pos) (tCallS sp E t) := by
  obtain ⟨f, fd, ps, F, hm, kp, b⟩ := c.ex
  exact pe_callS F (hr.mono hk) hg hm kp b hx ha hdb he hpl
def tCkS (sp : Sp) (n m : Nat) (gV : List V → List V → List V) (E : L2.St → XK) (t tk : TA) : TE := fun σ H Q => t σ H fun vs H1 => tk σ H1 fun zs H2 => vs.length = n ∧ zs.length = m ∧ sp (gV vs zs) H2 Q (E σ)
theorem run_ckS {pins : List (Addr × Obj)} {σ : L2.St} {H : Hp} {s : Shared} {Q : VK} {us ws : List Value} {vs zs : List V} {f : Addr} {fd : FuncData} {ps : List Str} {g : List Value → List Value → List Value} {E1 : XK}
    (F : FnOk X.prog X.w X.K X.mg X.base (L2.CX X.prog X.w) k f fd ps sp) (hr : Room k X.A)
    (to : ∀ (s : Shared) (us ws : List Value), X.K.In s.heap → us.length = n → ws.length = ks.length → BindsTo s fd ⟨us, ks.zip ws⟩ (ps.zip (g us ws)))
    (rel : ∀ {vs : List V} {us : List Value} {zs : List V} {ws : List Value}, Vals vs us → Vals zs ws → Vals (gV vs zs) (g us ws)) (hx : PassesAt (L2.CX X.prog X.w) X σ E1)
    (I : Inv X pins σ H s) (r : Vals vs us) (rz : Vals zs ws) (l1 : vs.length = n) (l2 : zs.length = ks.length) (h : sp (gV vs zs) H Q E1) : wpAny (model X.prog X.w) X.A (call (.ref f) us (ks.zip ws)) (EP X pins σ Q) X.xe s := by
  have r2 := rel r rz
  refine wpAny_call (codeAny_mono (F.run X.A X.stack s H ⟨us, ks.zip ws⟩ (g us ws) (gV vs zs) Q E1 hr I.env0 (to s us ws I.kIn (by rw [← r.length]; exact l1) (by rw [← rz.length]; exact l2)) r2 h) fun r s' hq => ?_)
  cases r with
  | error e => exact hx pins H s e s' I hq
  | ok fl =>
    cases fl with
    | ret u => exact I.after hq
    | next => exact False.elim hq
    | brk => exact False.elim hq
    | cont => exact False.elim hq
theorem pe_ck0S (c : KCalX X.prog X.w X.K X.mg X.base k x sp 0 ks gV) (hr : Room j X.A) (hk : k ≤ j) (hg : Gl X x) (hx : ∀ σ, PassesAt (L2.CX X.prog X.w) X σ (E σ)) (hkw : PK X kws tk)
    (hall : (backToKw pos (keywordEach kws X.env)).all (·.1.isSome) = true := by rfl) (hks : (backToKw pos (keywordEach kws X.env)).filterMap (·.1) = ks := by rfl) (hdb : (x == ("__debug__" : Str)) = false := by decide)
    (hpl : ((backTo pos (starEach [] X.env)).any (·.1) || (backToKw pos (keywordEach kws X.env)).any (·.1.isNone)) = false := by rfl) :
    PE X (.Call (.Name x p) [] kws pos) (tCkS sp 0 ks.length gV E tNil tk) := by
  obtain ⟨f, fd, ps, g, F, hm, kp, to, rel⟩ := c.ex
  refine ⟨fun pins s σ H Q I h => ?_⟩
  refine wpAny_Call_Name_kw (ld_glob I hg hm ?_ hdb)
  refine PySem.W.callWith_KW0 (h₀ := X.base) I.ok.mod.kin kp hall ?_ hpl
  refine thn (hkw.run pos pins s σ H _ I h) fun ws s2 ⟨zs, H2, I2, rz, l1, l2, q2⟩ => ⟨I2.kIn, ?_⟩
  rw [hks]
  exact run_ckS (us := []) (vs := []) F (hr.mono hk) to rel (hx σ) I2 .nil rz rfl l2 q2
theorem pe_ck0X (c : KCalX X.prog X.w X.K X.mg X.base k x sp 0 ks gV) (hr : Room j X.A) (hk : k ≤ j) (hg : Gl X x) (hkw : PK X kws tk)
    (hall : (backToKw pos (keywordEach kws X.env)).all (·.1.isSome) = true := by rfl) (hks : (backToKw pos (keywordEach kws X.env)).filterMap (·.1) = ks := by rfl) (hdb : (x == ("__debug__" : Str)) = false := by decide)
    (hpl : ((backTo pos (starEach [] X.env)).any (·.1) || (backToKw pos (keywordEach kws X.env)).any (·.1.isNone)) = false := by rfl) :
    PE X (.Call (.Name x p) [] kws pos) (tCkS sp 0 ks.length gV (fun _ => E0) tNil tk) := by
  exact pe_ck0S c hr hk hg (fun σ pins H s e s' I h => passL pins σ H s e s' I h) hkw hall hks hdb hpl
end
/-! ### classes of errors: what the top has written of them -/
/-- a class that stands in an except clause or behind isinstance -/
structure ClsF (K : PySem.W.Frag) (C : Addr) : Prop where
  i : PySem.W.isClsIn K C = true
  t : PySem.W.typeIn K (.ref C) = some (.type "type")
theorem kit_of_sub {K : PySem.W.Frag} {t : Value} {C : Addr} {b : Bool} (c : ClsF K C) (s : PySem.W.subIn K t (.ref C) = some b) (n : (t == Value.ref C) = false) : PySem.W.kitOne K t (.ref C) = some b := by
  have e2 : ((PySem.W.clsIn K C).isSome && PySem.W.typeIn K (.ref C) == some (.type "type")) = true := by
    rw [show (PySem.W.clsIn K C).isSome = true from c.i, c.t] <;> rfl
  show (if (t == Value.ref C) = true then some true else if ((PySem.W.clsIn K C).isSome && PySem.W.typeIn K (.ref C) == some (.type "type")) = true then PySem.W.subIn K t (.ref C) else none) = some b
  rw [if_neg (by rw [n]; exact Bool.false_ne_true), if_pos e2]
  exact s
theorem kit_self {K : PySem.W.Frag} {C : Addr} : PySem.W.kitOne K (.ref C) (.ref C) = some true := by
  show (if (Value.ref C == Value.ref C) = true then some true else _) = some true
  rw [if_pos (by simp)]
theorem kit_none {K : PySem.W.Frag} {C : Addr} (c : ClsF K C) (s : PySem.W.subIn K (.type "NoneType") (.ref C) = some false) : PySem.W.kitOne K (.type "NoneType") (.ref C) = some false := kit_of_sub c s rfl
theorem exm_of_sub {K : PySem.W.Frag} {t : Value} {C : Addr} {b : Bool} (c : ClsF K C) (be : PySem.W.subIn K (.ref C) (.type "BaseException") = some true) (s : PySem.W.subIn K t (.ref C) = some b) : PySem.W.exmOne K t (.ref C) = some b := by
  have e2 : ((PySem.W.clsIn K C).isSome && PySem.W.typeIn K (.ref C) == some (.type "type")) = true := by
    rw [show (PySem.W.clsIn K C).isSome = true from c.i, c.t] <;> rfl
  have e1 : (PySem.W.subIn K (.ref C) (.type "BaseException") == some true) = true := by rw [be] <;> rfl
  show (if (PySem.W.subIn K (.ref C) (.type "BaseException") == some true) = true then (if ((PySem.W.clsIn K C).isSome && PySem.W.typeIn K (.ref C) == some (.type "type")) = true then PySem.W.subIn K t (.ref C) else none) else none) = some b
  rw [if_pos e1, if_pos e2]
  exact s
end My

/-! ### own exception classes with an __init__: made by a keyword -/
namespace My
open PySem PySem.W PySem.Calls PyProof.Rows PySem.HandSPX
section
variable {M : Model} {A : Around} {E : Value → Shared → Prop} {h : Heap} {g : Array GenState} {d : Drawn} {t : Nat} {os : OsState}
variable {nm q : Str} {C N : Addr} {bs bm bmB : List Value} {hdct : Bool} {sn : List Str} {sub : List Value} {ab : Bool} {col : Option Bool} {dd : Option Addr} {k0 k1 k2 k3 k5 : Option Value} {B newId initId : String} {kn : Str} {kv : Value}
theorem check_new_ownK (F : ExcBaseFacts B newId initId bmB) (hT : ∀ X : String, bm.contains (.type X) = bmB.contains (.type X)) {rest : List Value} {Q : Unit → Shared → Prop}
    (hC : h.get? C = some (excClassObj nm q C N bs bm hdct sn sub ab col dd k0 k1 k2 k3 k5 newId)) (hq : Q () ⟨h, g, d, t, os⟩) : wpAny M A (checkBuiltinCall newId ⟨.ref C :: rest, [(kn, kv)]⟩) Q E ⟨h, g, d, t, os⟩ := by
  have hcont : (Value.ref C :: bm).contains (.type B) = true := by rw [List.contains_cons, hT, F.hasB, Bool.or_true]
  have hstar := F.noStar
  simp only [checkBuiltinCall, F.newKind, F.newSplit, F.newRow]
  repeat (first | refine wpAny_loadPart_at hC ?_ | (refine wpAny_isSubtype_exc hC ?_; rw [hcont]) | refine wpAny_staticBase_exc hC ?_ | refine wpAny_madeBy_exc hC ?_ | simp only [bne_self_eq_false, Bool.false_eq_true, if_false] | wp_step)
  exact hq
end
section
variable {prog : Program} {w : World} {A : Around} {E : Value → Shared → Prop} {R : Result → Shared → Prop} {h : Heap} {g : Array GenState} {d : Drawn} {t : Nat} {os : OsState}
variable {nm q : Str} {C N : Addr} {bs bm bmB : List Value} {hdct : Bool} {sn : List Str} {sub : List Value} {ab : Bool} {col : Option Bool} {dd : Option Addr} {k0 k1 k2 k3 k5 : Option Value} {B newId initId : String} {kn : Str} {kv : Value}
theorem new_ownK (F : ExcBaseFacts B newId initId bmB) (hT : ∀ X : String, bm.contains (.type X) = bmB.contains (.type X)) {rest : List Value}
    (hC : h.get? C = some (excClassObj nm q C N bs bm hdct sn sub ab col dd k0 k1 k2 k3 k5 newId))
    (hq : R (.ok (.ret (.ref (h.objs.size + 1)))) ⟨(h.push { cls := .type "tuple", data := .seq rest.toArray }).push
      { cls := .ref C, data := .fields #[.ref h.objs.size, .none, .none, .none, .bool false, .none] }, g, d, t, os⟩) (hrest : rest.length ≤ sizeLine) :
    codeAny (model prog w) A (.builtin newId ⟨.ref C :: rest, [(kn, kv)]⟩) R ⟨h, g, d, t, os⟩ := by
  have hends := F.ends
  have hcB : (Value.ref C :: bm).contains (.type B) = true := by rw [List.contains_cons, hT, F.hasB, Bool.or_true]
  have hcA : (Value.ref C :: bm).contains (.type "AttributeError") = false := by rw [List.contains_cons, hT, F.noAttr]; rfl
  have hcN : (Value.ref C :: bm).contains (.type "NameError") = false := by rw [List.contains_cons, hT, F.noName]; rfl
  refine codeAny_builtinAt F.entry ?_
  unfold Builtin.«BaseException.__new__»
  refine PySem.wpAt_bind ?_
  show PySem.wpAt _ _ _ (stack >>= _) _ _ _
  refine PySem.wpAt_bind (PySem.wpAt_stack fun p below => PySem.wpAt_of_wpAny ?_)
  wp_walk
  refine PySem.wpAt_of_wpAny ?_
  rw [F.owner]
  repeat (first | with_reducible refine wpAny_madeHere_exc F.canon hC ?_ | with_reducible refine wpAny_loadPart_at hC ?_ | (with_reducible refine wpAny_isSubtype_exc hC ?_; first | rw [hcB] | rw [hcA] | rw [hcN]) | wp_step)
  show R _ _
  rw [Heap.size_push]
  exact hq
theorem type_call_ownK (F : ExcBaseFacts B newId initId bmB) (hT : ∀ X : String, bm.contains (.type X) = bmB.contains (.type X)) {rest : List Value} {fI : Addr} {Q : Fin → Shared → Prop}
    (hC : h.get? C = some (excClassObj nm q C N bs bm hdct sn sub ab col dd k0 k1 k2 k3 k5 newId))
    (hi : W.Looks (model prog w) h (typeLookup (.ref C) "__init__") (some (.ref fI))) (hb : ∀ self, W.Looks (model prog w) h (bindSpecial (.ref fI) self) (.ref fI, [self])) (hrest : rest.length ≤ sizeLine)
    (hq : codeAny (model prog w) A (.call (.ref fI) ⟨.ref (h.objs.size + 1) :: rest, [(kn, kv)]⟩)
      (fun r s' => match r with | .ok (.ret v) => v = .none ∧ Q (.done (.ret (.ref (h.objs.size + 1)))) s' | .ok _ => False | .error e => E e s')
      ⟨(h.push (W.kdv_tup rest)).push (excO C h.objs.size), g, d, t, os⟩) :
    wpAny (model prog w) A (Builtin.«type.__call__» ⟨.ref C :: rest, [(kn, kv)]⟩) Q E ⟨h, g, d, t, os⟩ := by
  repeat (first | with_reducible refine wpAny_loadPart_at hC ?_ | with_reducible refine wpAny_madeBy_exc hC ?_ | wp_step)
  refine codeAny_call_builtin_code (Code.quiet_builtin _ F.quiet) (check_new_ownK F hT hC ?_)
  refine new_ownK F hT hC ?_ hrest
  show wpAny _ _ _ _ _ _
  have k : ∀ b o, h.get? b = some o → ((h.push (W.kdv_tup rest)).push (excO C h.objs.size)).get? b = some o := fun b o e => Heap.get?_push_of_some _ (Heap.get?_push_of_some _ e)
  have hC₁ := k _ _ hC
  have hget : ((h.push (W.kdv_tup rest)).push (excO C h.objs.size)).get? (h.objs.size + 1) = some (excO C h.objs.size) := by heap_get
  have hcC : (Value.ref C :: bm).contains (.ref C) = true := by simp
  have i1 := hi.keeps k
  have b1 := (hb (.ref (h.objs.size + 1))).keeps k
  unfold isInstance
  repeat (first | with_reducible refine wpAny_loadPart_at hget ?_ | (with_reducible refine wpAny_isSubtype_exc hC₁ ?_; rw [hcC]) | wp_step)
  show wpAny _ _ (typeLookup (.ref C) _) _ _ _
  refine i1.at ?_
  refine wpAny_holding (wpAny_bind (b1.at ?_))
  refine wpAny_bind (wpAny_call (codeAny_mono hq fun r s' z => ?_))
  rcases r with e | (v | _ | _ | _) <;> first | exact z | exact z.elim | skip
  obtain ⟨rfl, z⟩ := z
  first
    | exact wpAny_pure (wpAny_pure z)
    | (wp_walk; exact z)
theorem check_type_call_subK {M : Model} {rest : List Value} {E : Value → Shared → Prop} {Q : Unit → Shared → Prop} (hC : h.get? C = some (excClassObj nm q C N bs bm hdct sn sub ab col dd k0 k1 k2 k3 k5 newId))
    (hq : Q () ⟨h, g, d, t, os⟩) : wpAny M A (checkBuiltinCall "type.__call__" ⟨.ref C :: rest, [(kn, kv)]⟩) Q E ⟨h, g, d, t, os⟩ := by
  have f3 := tc_sub
  have hT : (⟨h, g, d, t, os⟩ : Shared).TypeIs (.ref C) "type" := ⟨_, hC, rfl⟩
  simp only [checkBuiltinCall, tc_kind, tc_split]
  repeat (any_goals (first | assumption | with_reducible refine wpAny_loadPart_at hC ?_ | with_reducible refine wpAny_onRaise ?_ | with_reducible refine wpAny_map ?_ | wp_step))
theorem call_ownK (F : ExcBaseFacts B newId initId bmB) (hT : ∀ X : String, bm.contains (.type X) = bmB.contains (.type X)) {rest : List Value} {fI : Addr}
    (hC : h.get? C = some (excClassObj nm q C N bs bm hdct sn sub ab col dd k0 k1 k2 k3 k5 newId))
    (hi : W.Looks (model prog w) h (typeLookup (.ref C) "__init__") (some (.ref fI))) (hb : ∀ self, W.Looks (model prog w) h (bindSpecial (.ref fI) self) (.ref fI, [self])) (hrest : rest.length ≤ sizeLine)
    (hq : codeAny (model prog w) (A.under (.builtin "type.__call__" ⟨.ref C :: rest, [(kn, kv)]⟩)) (.call (.ref fI) ⟨.ref (h.objs.size + 1) :: rest, [(kn, kv)]⟩) (W.InitBack (h.objs.size + 1) R)
      ⟨(h.push (W.kdv_tup rest)).push (excO C h.objs.size), g, d, t, os⟩) :
    codeAny (model prog w) A (.call (.ref C) ⟨rest, [(kn, kv)]⟩) R ⟨h, g, d, t, os⟩ := by
  have f1 := tc_lookup
  have f2 := tc_bind (.ref C)
  have hTy : (⟨h, g, d, t, os⟩ : Shared).TypeIs (.ref C) "type" := ⟨_, hC, rfl⟩
  refine codeAny_of_tree ?_
  show wpAny _ _ (callAny (.ref C) _) _ _ _
  repeat (any_goals (first | assumption | with_reducible refine wpAny_loadPart_at hC ?_ | wp_step))
  refine ⟨rfl, ?_⟩
  refine codeAny_call_builtin_at (Code.quiet_builtin _ (by decide +kernel)) entry_typeCall (check_type_call_subK hC (type_call_ownK F hT hC hi hb hrest ?_))
  refine codeAny_mono hq fun r s' z => ?_
  rcases r with e | (v | _ | _ | _) <;> exact z
end
end My

namespace My
open PySem PySem.Spec PyProof.Rows L2
/-- K(self, ..) of an own class whose __init__ is a builtin's -/
structure Ini (K : PySem.W.Frag) (R : Addr) : Prop where
  r : PySem.W.readsIn (mc := .type "type") K R = true
  f : PySem.W.findCls K (.ref R) (.type "type") "__init__" = some (.val (.builtin "ValueError.__init__"))
  g : PySem.W.specialIn K (.ref R) "__getattribute__" = some (some (.builtin "type.__getattribute__"))
section
variable {X : Cx} {e : Expr} {es : List Expr} {ta : TA} {x : Str} {p p' p1 p2 pos : Pos}
theorem pe_reinit {R : Addr} {pl : Sem Bool} (hg : Gl X x) (hm : X.mg x = some (.ref R)) (hi : Ini X.K R) (ha : PA X (e :: es) ta)
    (hc : eval (.Call (.Attribute (.Name x p1) "__init__" p2) (e :: es) [] pos) X.env = (do
      let ov ← eval (.Name x p1) X.env
      standAt p2.atName
      let (f, first) ← holding [ov] (getMethod ov "__init__" pl)
      callWith pos f first (backTo pos (starEach (e :: es) X.env)) (backToKw pos (keywordEach [] X.env))) := by rfl)
    (hdb : (x == ("__debug__" : Str)) = false := by decide)
    (he : starEach (e :: es) X.env = (false, eval e X.env) :: starEach es X.env := by rfl) (hpl : (backTo pos (starEach es X.env)).any (·.1) = false := by rfl) :
    PE X (.Call (.Attribute (.Name x p1) "__init__" p2) (e :: es) [] pos) (tVeI X.K ta) := by
  refine ⟨fun pins s σ H Q I h => ?_⟩
  refine PySem.W.methodCall_KW (ld_glob I hg hm ?_ hdb) hc
  refine PySem.W.method_cls I.kIn hi.g ?_
  refine PySem.W.cls_value I.kIn hi.r hi.f (by decide +kernel) ?_
  show wpAny _ _ (callWith pos (Value.builtin "ValueError.__init__") [] (backTo pos (starEach (e :: es) X.env)) []) _ _ _
  refine PyProof.Rows.callWith_method1 (thn (ha.run pos pins _ σ H _ (I.tok _) h) fun us s1 ⟨vs, H1, I1, r1, a, C, ws, ev, hl, T, ea, q⟩ => ?_) he hpl
  subst ev
  cases r1 with
  | @cons _ u0 _ ur ra rw' =>
    obtain rfl : u0 = Value.ref a := ra
    have hlen : ur.length ≤ sizeLine := by
      rw [← Paired.length rw', sizeLine_eq]
      omega
    exact oinit_ok T I1 ea hlen fun s' J => ⟨.non, H1, J, rfl, q⟩
/-- what is left of C(..), C's own __init__ kept sp: all from sp's answer on -/
def MkEnd (C : Addr) (H1 : Hp) (a : Addr) (Q : XK) : VK := fun v H2 => v = .non ∧ ∃ (d : Addr) (fs : List (Str × V)), H2 a = some (exo a C (some d)) ∧ H2 d = some (exd d fs) ∧ H1 d = none ∧ Q (.ref C) (some d) (upd (del H2 a) d (.xd fs))
theorem pmk_oex0 {CX : CXT} {x : Str} {C fI : Addr} {k : Nat} {fd : FuncData} {ps : List Str} {sp : Sp} {ds : List Value} {dvs : List V} (T : OexC X.K C) (iC : PySem.W.findIn X.K (.ref C) "__init__" = some (some (.ref fI))) (tI : PySem.W.typeIn X.K (.ref fI) = some (.type "function"))
    (F1 : FnOk X.prog X.w X.K X.mg X.base CX k fI fd ps sp) (hr : Room (k + 1) X.A) (hb : Binds X.K fd ps ds) (hd : Vals dvs ds) (hx : Passes CX X (fun _ _ _ => False)) (hg : Gl X x) (hm : X.mg x = some (.ref C))
    (hdb : (x == ("__debug__" : Str)) = false := by decide) :
    PMk X (.Call (.Name x p) [] [] pos) (fun _ H1 Q => ∀ a, H1 a = none → sp (.ref a :: dvs) (upd H1 a (exo a C none)) (MkEnd C H1 a Q) (fun _ _ _ => False)) := by
  intro pins s σ H1 Q I1 q1
  obtain ⟨nm, q, N, bs, bm, sn, sub, ab, col, dd, k0, k1, k2, k3, k5, hC, hbm⟩ := T.cls
  refine wpAny_Call_Name_kw (ld_glob I1 hg hm ?_ hdb)
  refine PySem.W.callWith_K0 I1.kIn T.kC ?_
  show wpAny _ _ (call (.ref C) []) _ _ _
  obtain ⟨hp, g, dr, tk, os⟩ := s
  have hsz : hp.objs.size ≤ hp.objs.size + 1 := Nat.le_succ _
  have hn : H1 (hp.objs.size + 1) = none := I1.hok.fresh hsz
  have hq := q1 (hp.objs.size + 1) hn
  have kk : ∀ b o, hp.get? b = some o → ((hp.push (PySem.W.kdv_tup [])).push (PySem.HandSPX.excO C hp.objs.size)).get? b = some o := fun b o e => Heap.get?_push_of_some _ (Heap.get?_push_of_some _ e)
  have hget : ((hp.push (PySem.W.kdv_tup [])).push (PySem.HandSPX.excO C hp.objs.size)).get? (hp.objs.size + 1) = some (PySem.HandSPX.excO C hp.objs.size) := by heap_get
  have I2 : Inv X pins σ (upd H1 (hp.objs.size + 1) (exo (hp.objs.size + 1) C none)) ⟨(hp.push (PySem.W.kdv_tup [])).push (PySem.HandSPX.excO C hp.objs.size), g, dr, tk, os⟩ :=
    I1.laid (t' := tk) (a := hp.objs.size + 1) (o := exo (hp.objs.size + 1) C none) (h' := (hp.push (PySem.W.kdv_tup [])).push (PySem.HandSPX.excO C hp.objs.size)) kk hsz (exo_ok hget)
  have r2 : Vals (V.ref (hp.objs.size + 1) :: dvs) (Value.ref (hp.objs.size + 1) :: ds) := .cons rfl hd
  have hl : (Value.ref (hp.objs.size + 1) :: [] ++ ds).length = ps.length := by
    have e := r2.length
    rw [F1.len _ _ _ _ hq] at e
    exact e.symm
  refine wpAny_call (PySem.HandSPX.call_own F.excBase_ValueError (fun Y => PySem.HandSPX.refsVE_contains Y bm hbm) (I1.kIn _ _ hC) (PySem.W.looks_findIn I1.kIn iC) (fun self => PySem.W.bind_fn I1.kIn self tI) (Nat.zero_le _)
    (codeAny_mono (F1.run _ X.stack _ _ ⟨[Value.ref (hp.objs.size + 1)], []⟩ (Value.ref (hp.objs.size + 1) :: ds) _ _ (fun _ _ _ => False) (hr.make C [] []) (I2.env0.make C [] []) (hb _ [Value.ref (hp.objs.size + 1)] I2.kIn hl) r2 hq) fun r s' hq' => ?_))
  cases r with
  | error er => exact hx pins σ _ _ er s' I2 hq'
  | ok fl =>
    cases fl with
    | ret u =>
      obtain ⟨v, H2, os2, bare2, un2, hok2, rv, ev, d, fs, ea, ed, hd1, q2⟩ := hq'
      subst ev
      obtain ⟨h2, g2, d2, t2, os'⟩ := s'
      exact ⟨rv, mk_end (raises_own T.exC T.tyC) I1 hsz kk un2 hok2 os2 bare2 ea ed hd1 q2⟩
    | next => exact False.elim hq'
    | brk => exact False.elim hq'
    | cont => exact False.elim hq'
theorem pmk_oexK {CX : CXT} {x kn : Str} {C fI : Addr} {k : Nat} {fd : FuncData} {ps : List Str} {sp : Sp} {kws : List Keyword} {tk : TA} {R : V → Hp → XK → Prop} (T : OexC X.K C) (iC : PySem.W.findIn X.K (.ref C) "__init__" = some (some (.ref fI))) (tI : PySem.W.typeIn X.K (.ref fI) = some (.type "function"))
    (F1 : FnOk X.prog X.w X.K X.mg X.base CX k fI fd ps sp) (hr : Room (k + 1) X.A) (hb : ∀ (s : Shared) (u v : Value), X.K.In s.heap → BindsTo s fd ⟨[u], [(kn, v)]⟩ (ps.zip [u, v])) (hx : Passes CX X (fun _ _ _ => False)) (hR : ∀ z H1 Q, R z H1 Q → ∀ a, H1 a = none → sp [.ref a, z] (upd H1 a (exo a C none)) (MkEnd C H1 a Q) (fun _ _ _ => False)) (hg : Gl X x) (hm : X.mg x = some (.ref C))
    (hkw : PK X kws tk) (hall : (backToKw pos (keywordEach kws X.env)).all (·.1.isSome) = true := by rfl) (hks : (backToKw pos (keywordEach kws X.env)).filterMap (·.1) = [kn] := by rfl) (hdb : (x == ("__debug__" : Str)) = false := by decide)
    (hpl : ((backTo pos (starEach [] X.env)).any (·.1) || (backToKw pos (keywordEach kws X.env)).any (·.1.isNone)) = false := by rfl) :
    PMk X (.Call (.Name x p) [] kws pos) (fun σ H Q => tk σ H fun zs H1 => ∃ z, zs = [z] ∧ R z H1 Q) := by
  intro pins s0 σ H0 Q I0 q0
  obtain ⟨nm, q, N, bs, bm, sn, sub, ab, col, dd, k0, k1, k2, k3, k5, hC, hbm⟩ := T.cls
  refine wpAny_Call_Name_kw (ld_glob I0 hg hm ?_ hdb)
  refine PySem.W.callWith_KW0 (h₀ := X.base) I0.ok.mod.kin T.kC hall ?_ hpl
  refine thn (hkw.run pos pins s0 σ H0 _ I0 q0) fun ws s ⟨zs, H1, I1, rz, z, ez, q1⟩ => ⟨I1.kIn, ?_⟩
  subst ez
  have q1 := hR z H1 Q q1
  cases rz with
  | @cons _ u _ ur ru rn =>
  cases rn
  rw [hks]
  show wpAny _ _ (call (.ref C) [] [(kn, u)]) _ _ _
  obtain ⟨hp, g, dr, tk, os⟩ := s
  have hsz : hp.objs.size ≤ hp.objs.size + 1 := Nat.le_succ _
  have hn : H1 (hp.objs.size + 1) = none := I1.hok.fresh hsz
  have hq := q1 (hp.objs.size + 1) hn
  have kk : ∀ b o, hp.get? b = some o → ((hp.push (PySem.W.kdv_tup [])).push (PySem.HandSPX.excO C hp.objs.size)).get? b = some o := fun b o e => Heap.get?_push_of_some _ (Heap.get?_push_of_some _ e)
  have hget : ((hp.push (PySem.W.kdv_tup [])).push (PySem.HandSPX.excO C hp.objs.size)).get? (hp.objs.size + 1) = some (PySem.HandSPX.excO C hp.objs.size) := by heap_get
  have I2 : Inv X pins σ (upd H1 (hp.objs.size + 1) (exo (hp.objs.size + 1) C none)) ⟨(hp.push (PySem.W.kdv_tup [])).push (PySem.HandSPX.excO C hp.objs.size), g, dr, tk, os⟩ :=
    I1.laid (t' := tk) (a := hp.objs.size + 1) (o := exo (hp.objs.size + 1) C none) (h' := (hp.push (PySem.W.kdv_tup [])).push (PySem.HandSPX.excO C hp.objs.size)) kk hsz (exo_ok hget)
  have r2 : Vals [V.ref (hp.objs.size + 1), z] [Value.ref (hp.objs.size + 1), u] := .cons rfl (.cons ru .nil)
  refine wpAny_call (call_ownK F.excBase_ValueError (fun Y => PySem.HandSPX.refsVE_contains Y bm hbm) (I1.kIn _ _ hC) (PySem.W.looks_findIn I1.kIn iC) (fun self => PySem.W.bind_fn I1.kIn self tI) (Nat.zero_le _)
    (codeAny_mono (F1.run _ X.stack _ _ ⟨[Value.ref (hp.objs.size + 1)], [(kn, u)]⟩ [Value.ref (hp.objs.size + 1), u] _ _ (fun _ _ _ => False) (hr.make C [] [(kn, u)]) (I2.env0.make C [] [(kn, u)]) (hb _ _ _ I2.kIn) r2 hq) fun r s' hq' => ?_))
  cases r with
  | error er => exact hx pins σ _ _ er s' I2 hq'
  | ok fl =>
    cases fl with
    | ret u =>
      obtain ⟨v, H2, os2, bare2, un2, hok2, rv, ev, d, fs, ea, ed, hd1, q2⟩ := hq'
      subst ev
      obtain ⟨h2, g2, d2, t2, os'⟩ := s'
      exact ⟨rv, mk_end (raises_own T.exC T.tyC) I1 hsz kk un2 hok2 os2 bare2 ea ed hd1 q2⟩
    | next => exact False.elim hq'
    | brk => exact False.elim hq'
    | cont => exact False.elim hq'
end
end My

namespace My
open PySem PySem.Spec PyProof.Rows L2
/-- C.__init__(self, v): the base's __init__, self.kn = v -/
def sp_Ini (K : PySem.W.Frag) (kn : Str) : Sp := fun vs H Q _ => ∃ (a C : Addr) (v : V), vs = [.ref a, v] ∧ OexC K C ∧ PySem.W.findIn K (.ref C) kn = some none ∧ H a = some (exo a C none) ∧
  ∀ dx, H dx = none → dx ≠ a → Q .non (upd (upd H dx (exd dx [(kn, v)])) a (exo a C (some dx)))
structure IniCal (P : Program) (w : World) (K : PySem.W.Frag) (mg : Str → Option Value) (base : Heap) (k : Nat) (x : Str) (C : Addr) (kn : Str) (dv : V) : Prop where
  oex : OexC K C
  hm : mg x = some (.ref C)
  no : PySem.W.findIn K (.ref C) kn = some none
  ex : ∃ (fI : Addr) (fd : FuncData) (ps : List Str) (ds : List Value), FnOk P w K mg base CX0 k fI fd ps (sp_Ini K kn) ∧ PySem.W.findIn K (.ref C) "__init__" = some (some (.ref fI)) ∧ PySem.W.typeIn K (.ref fI) = some (.type "function") ∧ Binds K fd ps ds ∧ Vals [dv] ds ∧
    ∀ (s : Shared) (u v : Value), K.In s.heap → BindsTo s fd ⟨[u], [(kn, v)]⟩ (ps.zip [u, v])
section
variable {X : Cx} {x kn : Str} {C : Addr} {k j : Nat} {dv : V} {kws : List Keyword} {tk : TA} {p pos : Pos}
theorem ini_end {K : PySem.W.Frag} {H1 : Hp} {a : Addr} {z : V} {Q : XK} {E : XK} (o : OexC K C) (no : PySem.W.findIn K (.ref C) kn = some none) (ha : H1 a = none) (q : ∀ d H', Same H1 H' → H1 d = none → H' d = some (.xd [(kn, z)]) → Q (.ref C) (some d) H') :
    sp_Ini K kn [.ref a, z] (upd H1 a (exo a C none)) (MkEnd C H1 a Q) E := by
  refine ⟨a, C, z, rfl, o, no, upd_same, fun dx n ne => ⟨rfl, dx, [(kn, z)], upd_same, ?_, ?_, ?_⟩⟩
  · rw [upd_ne ne, upd_same]
  · rw [upd_ne ne] at n; exact n
  · rw [upd_ne ne] at n
    refine q dx _ (fun b u hb => ?_) n upd_same
    rw [upd_ne (ne_of_none hb n), del_ne (ne_of_none hb ha), upd_ne (ne_of_none hb ha), upd_ne (ne_of_none hb n), upd_ne (ne_of_none hb ha)]
    exact hb
/-- C() -/
theorem pmk_np0 (c : IniCal X.prog X.w X.K X.mg X.base k x C kn dv) (hr : Room j X.A) (hk : k + 1 ≤ j) (hg : Gl X x) (hdb : (x == ("__debug__" : Str)) = false := by decide) :
    PMk X (.Call (.Name x p) [] [] pos) (fun _ H Q => ∀ d H', Same H H' → H d = none → H' d = some (.xd [(kn, dv)]) → Q (.ref C) (some d) H') := by
  obtain ⟨fI, fd, ps, ds, F, i, t, b, v, _⟩ := c.ex
  intro pins s σ H Q I q
  exact pmk_oex0 c.oex i t F (hr.mono hk) b v pass0 hg c.hm hdb pins s σ H Q I fun a ha => ini_end c.oex c.no ha q
/-- C(kn=e) -/
theorem pmk_npK (c : IniCal X.prog X.w X.K X.mg X.base k x C kn dv) (hr : Room j X.A) (hk : k + 1 ≤ j) (hg : Gl X x) (hkw : PK X kws tk)
    (hall : (backToKw pos (keywordEach kws X.env)).all (·.1.isSome) = true := by rfl) (hks : (backToKw pos (keywordEach kws X.env)).filterMap (·.1) = [kn] := by rfl) (hdb : (x == ("__debug__" : Str)) = false := by decide)
    (hpl : ((backTo pos (starEach [] X.env)).any (·.1) || (backToKw pos (keywordEach kws X.env)).any (·.1.isNone)) = false := by rfl) :
    PMk X (.Call (.Name x p) [] kws pos) (fun σ H Q => tk σ H fun zs H1 => ∃ z, zs = [z] ∧ ∀ d H', Same H1 H' → H1 d = none → H' d = some (.xd [(kn, z)]) → Q (.ref C) (some d) H') := by
  obtain ⟨fI, fd, ps, ds, F, i, t, b, v, bk⟩ := c.ex
  exact pmk_oexK c.oex i t F (hr.mono hk) bk pass0 (fun z H1 Q q a ha => ini_end c.oex c.no ha q) hg c.hm hkw hall hks hdb hpl
end
end My

/-! ### fractions, in plain Lean -/
namespace My
/-- the lowest form of a fraction: what its top and its bottom become -/
def sg (b : Int) : Int := if b < 0 then -1 else 1
def shr (t b : Int) : Int := sg b * (Int.gcd t b : Nat)
def lowT (t b : Int) : Int := t.fdiv (shr t b)
def lowB (t b : Int) : Int := b.fdiv (shr t b)
theorem gcd_pos {t b : Int} (hb : b ≠ 0) : 0 < Int.gcd t b := Int.gcd_pos_of_ne_zero_right t hb
theorem sg_sq (b : Int) : sg b * sg b = 1 := by unfold sg; split <;> rfl
theorem shr_ne {t b : Int} (hb : b ≠ 0) : shr t b ≠ 0 := by
  have h := gcd_pos (t := t) hb
  unfold shr sg
  split <;> omega
theorem shr_dvd_t (t b : Int) : shr t b ∣ t := by
  unfold shr sg
  split
  · rw [Int.neg_mul, Int.one_mul, Int.neg_dvd]; exact Int.gcd_dvd_left t b
  · rw [Int.one_mul]; exact Int.gcd_dvd_left t b
theorem shr_dvd_b (t b : Int) : shr t b ∣ b := by
  unfold shr sg
  split
  · rw [Int.neg_mul, Int.one_mul, Int.neg_dvd]; exact Int.gcd_dvd_right t b
  · rw [Int.one_mul]; exact Int.gcd_dvd_right t b
theorem low_t {t b : Int} (hb : b ≠ 0) : lowT t b * shr t b = t := by
  unfold lowT
  rw [Int.fdiv_eq_ediv_of_dvd (shr_dvd_t t b)]
  exact Int.ediv_mul_cancel (shr_dvd_t t b)
theorem low_b {t b : Int} (hb : b ≠ 0) : lowB t b * shr t b = b := by
  unfold lowB
  rw [Int.fdiv_eq_ediv_of_dvd (shr_dvd_b t b)]
  exact Int.ediv_mul_cancel (shr_dvd_b t b)
theorem shr_abs {t b : Int} : (shr t b).natAbs = Int.gcd t b := by
  unfold shr sg
  split <;> simp
theorem lowB_pos {t b : Int} (hb : b ≠ 0) : 0 < lowB t b := by
  have h := low_b (t := t) hb
  have g := gcd_pos (t := t) hb
  unfold shr sg at h
  split at h
  · rename_i hneg
    rcases Int.lt_trichotomy 0 (lowB t b) with h1 | h1 | h1
    · exact h1
    · rw [← h1] at h; simp at h; omega
    · exfalso
      have : 0 < lowB t b * (-1 * (Int.gcd t b : Int)) := by
        rw [Int.neg_mul, Int.one_mul]
        exact Int.mul_pos_of_neg_of_neg h1 (by omega)
      omega
  · rename_i hpos
    rcases Int.lt_trichotomy 0 (lowB t b) with h1 | h1 | h1
    · exact h1
    · rw [← h1] at h; simp at h; omega
    · exfalso
      have : lowB t b * (1 * (Int.gcd t b : Int)) < 0 := by
        rw [Int.one_mul]
        exact Int.mul_neg_of_neg_of_pos h1 (by omega)
      omega
theorem lowT_abs {t b : Int} (hb : b ≠ 0) : (lowT t b).natAbs ≤ t.natAbs := by
  have h := congrArg Int.natAbs (low_t (t := t) hb)
  rw [Int.natAbs_mul, shr_abs] at h
  have g := gcd_pos (t := t) hb
  rw [← h]
  exact Nat.le_mul_of_pos_right _ g
theorem lowB_abs {t b : Int} (hb : b ≠ 0) : (lowB t b).natAbs ≤ b.natAbs := by
  have h := congrArg Int.natAbs (low_b (t := t) hb)
  rw [Int.natAbs_mul, shr_abs] at h
  have g := gcd_pos (t := t) hb
  rw [← h]
  exact Nat.le_mul_of_pos_right _ g
theorem low_coprime {t b : Int} (hb : b ≠ 0) : Int.gcd (lowT t b) (lowB t b) = 1 := by
  have g := gcd_pos (t := t) hb
  have h : Int.gcd (lowT t b * shr t b) (lowB t b * shr t b) = Int.gcd t b := by rw [low_t hb, low_b hb]
  rw [Int.gcd_mul_right, shr_abs] at h
  exact Nat.eq_of_mul_eq_mul_right g (by omega)
theorem dvd_of_mul {a b d : Int} (g : Int.gcd a b = 1) (h : b ∣ a * d) : b ∣ d := by
  have h1 : b.natAbs ∣ a.natAbs * d.natAbs := by rw [← Int.natAbs_mul]; exact Int.natAbs_dvd_natAbs.mpr h
  have c : Nat.Coprime b.natAbs a.natAbs := by
    have g' : Nat.gcd a.natAbs b.natAbs = 1 := g
    show Nat.gcd b.natAbs a.natAbs = 1
    rw [Nat.gcd_comm]; exact g'
  exact Int.natAbs_dvd_natAbs.mp (c.dvd_of_dvd_mul_left h1)
/-- a lowest form is told by its worth -/
theorem lowest_eq {a b c d : Int} (hb : 0 < b) (hd : 0 < d) (g1 : Int.gcd a b = 1) (g2 : Int.gcd c d = 1) (h : a * d = c * b) : a = c ∧ b = d := by
  have e1 : b ∣ d := by
    have : b ∣ a * d := by rw [h]; exact Int.dvd_mul_left c b
    exact dvd_of_mul g1 this
  have e2 : d ∣ b := by
    have : d ∣ c * b := by rw [← h]; exact Int.dvd_mul_left a d
    exact dvd_of_mul g2 this
  have e : b = d := Int.dvd_antisymm (by omega) (by omega) e1 e2
  subst e
  exact ⟨Int.eq_of_mul_eq_mul_right (by omega) h, rfl⟩
theorem low_unique {t b c d : Int} (hb : b ≠ 0) (hd : 0 < d) (g : Int.gcd c d = 1) (h : t * d = c * b) : lowT t b = c ∧ lowB t b = d := by
  refine lowest_eq (lowB_pos hb) hd (low_coprime hb) g ?_
  have n := shr_ne (t := t) hb
  have h1 := low_t (t := t) hb
  have h2 := low_b (t := t) hb
  apply Int.eq_of_mul_eq_mul_right n
  calc lowT t b * d * shr t b = (lowT t b * shr t b) * d := by rw [Int.mul_right_comm]
    _ = t * d := by rw [h1]
    _ = c * b := h
    _ = c * (lowB t b * shr t b) := by rw [h2]
    _ = c * lowB t b * shr t b := by rw [Int.mul_assoc]
theorem low_congr {t b c d : Int} (hb : b ≠ 0) (hd : d ≠ 0) (h : t * d = c * b) : lowT t b = lowT c d ∧ lowB t b = lowB c d := by
  refine low_unique hb (lowB_pos hd) (low_coprime hd) ?_
  have n := shr_ne (t := c) hd
  apply Int.eq_of_mul_eq_mul_right n
  have h1 := low_t (t := c) hd
  have h2 := low_b (t := c) hd
  calc t * lowB c d * shr c d = t * (lowB c d * shr c d) := Int.mul_assoc _ _ _
    _ = t * d := by rw [h2]
    _ = c * b := h
    _ = (lowT c d * shr c d) * b := by rw [h1]
    _ = lowT c d * b * shr c d := by rw [Int.mul_right_comm]
theorem low_id {t b : Int} (hb : 0 < b) (g : Int.gcd t b = 1) : lowT t b = t ∧ lowB t b = b := low_unique (by omega) hb g (by rw [])
end My

/-! ### bare parts and whole roots, in plain Lean -/
namespace My
/-- no square of 2 and more divides d -/
def SF (d : Nat) : Prop := ∀ p, 2 ≤ p → ¬ p * p ∣ d
def NoDiv (f r : Nat) : Prop := ∀ p, 2 ≤ p → p < f → ¬ p ∣ r
theorem sf_one : SF 1 := fun p hp h => by
  have := Nat.le_of_dvd (by decide) h
  have : 4 ≤ p * p := Nat.mul_le_mul hp hp
  omega
theorem sq_dvd_parts {p a b : Nat} (c : Nat.Coprime a b) (h : p * p ∣ a * b) : ∃ g k, p = g * k ∧ g * g ∣ a ∧ k * k ∣ b := by
  have h1 : p ∣ a * b := Nat.dvd_trans (Nat.dvd_mul_right p p) h
  have e : p = Nat.gcd p a * Nat.gcd p b := by
    rw [← Nat.Coprime.gcd_mul p c]
    exact (Nat.gcd_eq_left h1).symm
  refine ⟨Nat.gcd p a, Nat.gcd p b, e, ?_, ?_⟩
  · have c1 : Nat.Coprime (Nat.gcd p a * Nat.gcd p a) b := by
      have : Nat.Coprime (Nat.gcd p a) b := Nat.Coprime.coprime_dvd_left (Nat.gcd_dvd_right p a) c
      exact Nat.Coprime.mul_left this this
    have d1 : Nat.gcd p a * Nat.gcd p a ∣ a * b := Nat.dvd_trans (Nat.mul_dvd_mul (Nat.gcd_dvd_left p a) (Nat.gcd_dvd_left p a)) h
    exact c1.dvd_of_dvd_mul_right d1
  · have c1 : Nat.Coprime (Nat.gcd p b * Nat.gcd p b) a := by
      have : Nat.Coprime (Nat.gcd p b) a := Nat.Coprime.coprime_dvd_left (Nat.gcd_dvd_right p b) c.symm
      exact Nat.Coprime.mul_left this this
    have d1 : Nat.gcd p b * Nat.gcd p b ∣ a * b := Nat.dvd_trans (Nat.mul_dvd_mul (Nat.gcd_dvd_left p b) (Nat.gcd_dvd_left p b)) h
    exact c1.dvd_of_dvd_mul_left d1
theorem sf_mul {a b : Nat} (c : Nat.Coprime a b) (ha : SF a) (hb : SF b) : SF (a * b) := fun p hp h => by
  obtain ⟨g, k, e, hg, hk⟩ := sq_dvd_parts c h
  have g2 : g < 2 := Nat.lt_of_not_le fun z => ha g z hg
  have k2 : k < 2 := Nat.lt_of_not_le fun z => hb k z hk
  have : g * k ≤ 1 * 1 := Nat.mul_le_mul (by omega) (by omega)
  omega
/-- the state of the search: all below f is taken out of n -/
structure BI (n f found rest : Nat) : Prop where
  eq : ∃ k, n = found * rest * (k * k)
  sf : SF found
  co : Nat.Coprime found rest
  nd : NoDiv f rest
  r0 : 0 < rest
theorem bi_start {n : Nat} (h : 0 < n) : BI n 2 1 n := ⟨⟨1, by simp⟩, sf_one, Nat.coprime_one_left n, fun p h1 h2 => by omega, h⟩
theorem bi_sq {n f found rest : Nat} (hf : 2 ≤ f) (h : BI n f found rest) (d : f * f ∣ rest) : BI n f found (rest / (f * f)) := by
  obtain ⟨q, rfl⟩ := d
  have f0 : 0 < f * f := Nat.mul_pos (by omega) (by omega)
  rw [Nat.mul_div_cancel_left q f0]
  obtain ⟨k, hk⟩ := h.eq
  refine ⟨⟨k * f, ?_⟩, h.sf, Nat.Coprime.coprime_dvd_right (Nat.dvd_mul_left q (f * f)) h.co, fun p h1 h2 z => h.nd p h1 h2 (Nat.dvd_trans z (Nat.dvd_mul_left q (f * f))), ?_⟩
  · rw [hk]
    simp only [Nat.mul_assoc, Nat.mul_left_comm, Nat.mul_comm]
  · have := h.r0
    exact Nat.pos_of_mul_pos_left this
theorem nodiv_up {f r : Nat} (h : NoDiv f r) (d : ¬ f ∣ r) : NoDiv (f + 1) r := fun p h1 h2 => by
  by_cases e : p = f
  · rw [e]; exact d
  · exact h p h1 (by omega)
/-- what divides nothing below it has no square within -/
theorem sf_of_nodiv {f r : Nat} (_hf : 2 ≤ f) (h : NoDiv f r) (d : f ∣ r) : SF f := fun p hp z => by
  have p1 : p ∣ f := Nat.dvd_trans (Nat.dvd_mul_right p p) z
  have f0 : 0 < f := by omega
  have le : p * p ≤ f := Nat.le_of_dvd f0 z
  have lt : p < f := by
    have : p * 2 ≤ p * p := Nat.mul_le_mul_left p hp
    omega
  exact h p hp lt (Nat.dvd_trans p1 d)
theorem co_of_nodiv {f r q : Nat} (h : NoDiv f r) (hr : f ∣ r) (d : ¬ f ∣ q) (f0 : 0 < f) : Nat.Coprime f q := by
  have g1 : Nat.gcd f q ∣ f := Nat.gcd_dvd_left f q
  have g2 : Nat.gcd f q ∣ q := Nat.gcd_dvd_right f q
  have gp : 0 < Nat.gcd f q := Nat.gcd_pos_of_pos_left q f0
  show Nat.gcd f q = 1
  rcases Nat.lt_or_ge (Nat.gcd f q) 2 with l | l
  · omega
  · exfalso
    have le := Nat.le_of_dvd f0 g1
    rcases Nat.lt_or_ge (Nat.gcd f q) f with l2 | l2
    · exact h _ l l2 (Nat.dvd_trans g1 hr)
    · have : Nat.gcd f q = f := by omega
      exact d (this ▸ g2)
theorem bi_one {n f found rest : Nat} (hf : 2 ≤ f) (h : BI n f found rest) (d2 : ¬ f * f ∣ rest) (d : f ∣ rest) : BI n (f + 1) (found * f) (rest / f) := by
  obtain ⟨q, rfl⟩ := d
  have f0 : 0 < f := by omega
  rw [Nat.mul_div_cancel_left q f0]
  have nq : ¬ f ∣ q := fun z => d2 (Nat.mul_dvd_mul (Nat.dvd_refl f) z)
  obtain ⟨k, hk⟩ := h.eq
  have ndq : NoDiv f q := fun p h1 h2 z => h.nd p h1 h2 (Nat.dvd_trans z (Nat.dvd_mul_left q f))
  have cf : Nat.Coprime found f := Nat.Coprime.coprime_dvd_right (Nat.dvd_mul_right f q) h.co
  have cq : Nat.Coprime found q := Nat.Coprime.coprime_dvd_right (Nat.dvd_mul_left q f) h.co
  refine ⟨⟨k, ?_⟩, sf_mul cf h.sf (sf_of_nodiv hf h.nd (Nat.dvd_mul_right f q)), Nat.Coprime.mul_left cq (co_of_nodiv h.nd (Nat.dvd_mul_right f q) nq f0), nodiv_up ndq nq, ?_⟩
  · rw [hk]
    simp only [Nat.mul_assoc]
  · have := h.r0
    exact Nat.pos_of_mul_pos_left this
theorem bi_none {n f found rest : Nat} (h : BI n f found rest) (d : ¬ f ∣ rest) : BI n (f + 1) found rest := ⟨h.eq, h.sf, h.co, nodiv_up h.nd d, h.r0⟩
/-- the law's way: f is taken out one by one -/
structure BL (n f found many size : Nat) : Prop where
  eq : ∃ k, n = found * (if many % 2 = 1 then f else 1) * size * (k * k)
  sf : SF found
  co : Nat.Coprime found size
  nd : NoDiv f size
  r0 : 0 < size
  up : 0 < many → Nat.Coprime found f ∧ ∃ r, NoDiv f r ∧ f ∣ r
theorem bl_start {n f found rest : Nat} (h : BI n f found rest) : BL n f found 0 rest := by
  obtain ⟨k, hk⟩ := h.eq
  exact ⟨⟨k, by simpa using hk⟩, h.sf, h.co, h.nd, h.r0, fun z => absurd z (by decide)⟩
theorem bl_step {n f found many size : Nat} (hf : 2 ≤ f) (h : BL n f found many size) (d : f ∣ size) : BL n f found (many + 1) (size / f) := by
  obtain ⟨q, rfl⟩ := d
  have f0 : 0 < f := by omega
  rw [Nat.mul_div_cancel_left q f0]
  obtain ⟨k, hk⟩ := h.eq
  refine ⟨?_, h.sf, Nat.Coprime.coprime_dvd_right (Nat.dvd_mul_left q f) h.co, fun p h1 h2 z => h.nd p h1 h2 (Nat.dvd_trans z (Nat.dvd_mul_left q f)), Nat.pos_of_mul_pos_left h.r0, fun _ => ⟨Nat.Coprime.coprime_dvd_right (Nat.dvd_mul_right f q) h.co, f * q, h.nd, Nat.dvd_mul_right f q⟩⟩
  by_cases e : many % 2 = 1
  · refine ⟨k * f, ?_⟩
    rw [if_neg (by omega)]
    rw [if_pos e] at hk
    rw [hk]
    simp only [Nat.mul_assoc, Nat.mul_left_comm, Nat.mul_comm, Nat.mul_one, Nat.one_mul]
  · refine ⟨k, ?_⟩
    rw [if_pos (by omega)]
    rw [if_neg e] at hk
    rw [hk]
    simp only [Nat.mul_assoc, Nat.mul_one, Nat.one_mul]
theorem bl_end {n f found many size : Nat} (hf : 2 ≤ f) (h : BL n f found many size) (d : ¬ f ∣ size) : BI n (f + 1) (if many % 2 = 1 then found * f else found) size := by
  obtain ⟨k, hk⟩ := h.eq
  by_cases e : many % 2 = 1
  · rw [if_pos e]
    rw [if_pos e] at hk
    obtain ⟨cf, r, hr, hd⟩ := h.up (by omega)
    exact ⟨⟨k, hk⟩, sf_mul cf h.sf (sf_of_nodiv hf hr hd), Nat.Coprime.mul_left h.co (co_of_nodiv hr hd d (by omega)), nodiv_up h.nd d, h.r0⟩
  · rw [if_neg e]
    rw [if_neg e, Nat.mul_one] at hk
    exact ⟨⟨k, hk⟩, h.sf, h.co, nodiv_up h.nd d, h.r0⟩
theorem sf_rest {f r : Nat} (hf : 2 ≤ f) (nd : NoDiv f r) (r0 : 0 < r) (big : r < f * f * f) (ns : ¬ ∃ m, r = m * m) : SF r := fun p hp ⟨q, hq⟩ => by
  have p1 : p ∣ r := ⟨p * q, by rw [hq, Nat.mul_assoc]⟩
  have pf : f ≤ p := Nat.le_of_not_lt fun z => nd p hp z p1
  have q0 : 0 < q := by
    rcases Nat.eq_zero_or_pos q with z | z
    · rw [z] at hq; omega
    · exact z
  have qf : q < f := by
    refine Nat.lt_of_not_le fun z => ?_
    have a1 : f * f ≤ p * p := Nat.mul_le_mul pf pf
    have a2 : f * f * f ≤ p * p * q := Nat.mul_le_mul a1 z
    omega
  have q1 : q = 1 := by
    rcases Nat.lt_or_ge q 2 with l | l
    · omega
    · exact absurd ⟨p * p, by rw [hq, Nat.mul_comm]⟩ (nd q l qf)
  exact ns ⟨p, by rw [hq, q1, Nat.mul_one]⟩
/-- b is the bare part of n -/
def Bare (b n : Int) : Prop := b ≠ 0 ∧ SF b.natAbs ∧ ∃ k : Int, n = b * (k * k)
theorem bare_abs {n f found rest : Nat} (hf : 2 ≤ f) (h : BI n f found rest) (big : rest < f * f * f) : (∀ m, rest = m * m → SF found ∧ ∃ k, n = found * (k * k)) ∧ ((¬ ∃ m, rest = m * m) → SF (found * rest) ∧ ∃ k, n = found * rest * (k * k)) := by
  obtain ⟨k, hk⟩ := h.eq
  refine ⟨fun m hm => ⟨h.sf, m * k, ?_⟩, fun ns => ⟨sf_mul h.co h.sf (sf_rest hf h.nd h.r0 big ns), k, hk⟩⟩
  rw [hk, hm]
  simp only [Nat.mul_assoc, Nat.mul_left_comm, Nat.mul_comm]
theorem sq_abs (k : Int) : (k * k).natAbs = k.natAbs * k.natAbs := Int.natAbs_mul k k
theorem bare_unique {b c n : Int} (hn : n ≠ 0) (hb : Bare b n) (hc : Bare c n) : b = c := by
  obtain ⟨b0, sb, k, ek⟩ := hb
  obtain ⟨c0, sc, m, em⟩ := hc
  have hk : k ≠ 0 := fun z => hn (by rw [ek, z]; simp)
  have hm : m ≠ 0 := fun z => hn (by rw [em, z]; simp)
  have e : b.natAbs * (k.natAbs * k.natAbs) = c.natAbs * (m.natAbs * m.natAbs) := by
    rw [← sq_abs, ← sq_abs, ← Int.natAbs_mul, ← Int.natAbs_mul, ← ek, ← em]
  have abs_eq : b.natAbs = c.natAbs := by
    have g0 : 0 < Nat.gcd k.natAbs m.natAbs := Nat.gcd_pos_of_pos_left _ (Int.natAbs_pos.mpr hk)
    obtain ⟨k', m', co, e1, e2⟩ : ∃ k' m', Nat.Coprime k' m' ∧ k.natAbs = k' * Nat.gcd k.natAbs m.natAbs ∧ m.natAbs = m' * Nat.gcd k.natAbs m.natAbs :=
      ⟨k.natAbs / Nat.gcd k.natAbs m.natAbs, m.natAbs / Nat.gcd k.natAbs m.natAbs, Nat.coprime_div_gcd_div_gcd g0, (Nat.div_mul_cancel (Nat.gcd_dvd_left _ _)).symm, (Nat.div_mul_cancel (Nat.gcd_dvd_right _ _)).symm⟩
    generalize Nat.gcd k.natAbs m.natAbs = g at *
    rw [e1, e2] at e
    have e3 : b.natAbs * (k' * k') = c.natAbs * (m' * m') := by
      apply Nat.eq_of_mul_eq_mul_right (Nat.mul_pos g0 g0)
      calc b.natAbs * (k' * k') * (g * g) = b.natAbs * (k' * g * (k' * g)) := by simp only [Nat.mul_assoc, Nat.mul_left_comm, Nat.mul_comm]
        _ = c.natAbs * (m' * g * (m' * g)) := e
        _ = c.natAbs * (m' * m') * (g * g) := by simp only [Nat.mul_assoc, Nat.mul_left_comm, Nat.mul_comm]
    have cc : Nat.Coprime (k' * k') (m' * m') := Nat.Coprime.mul_left (Nat.Coprime.mul_right co co) (Nat.Coprime.mul_right co co)
    have d1 : k' * k' ∣ c.natAbs := cc.dvd_of_dvd_mul_right ⟨b.natAbs, by rw [← e3, Nat.mul_comm]⟩
    have d2 : m' * m' ∣ b.natAbs := cc.symm.dvd_of_dvd_mul_right ⟨c.natAbs, by rw [e3, Nat.mul_comm]⟩
    have k1 : k' < 2 := Nat.lt_of_not_le fun z => sc k' z d1
    have m1 : m' < 2 := Nat.lt_of_not_le fun z => sb m' z d2
    have k0 : k' ≠ 0 := fun z => by rw [z, Nat.zero_mul] at e1; omega
    have m0 : m' ≠ 0 := fun z => by rw [z, Nat.zero_mul] at e2; omega
    have : k' = 1 := by omega
    have : m' = 1 := by omega
    subst k' m'
    simpa using e3
  -- the signs
  have pk : 0 < k * k := by
    rcases Int.lt_or_gt_of_ne hk with z | z
    · exact Int.mul_pos_of_neg_of_neg z z
    · exact Int.mul_pos z z
  have pm : 0 < m * m := by
    rcases Int.lt_or_gt_of_ne hm with z | z
    · exact Int.mul_pos_of_neg_of_neg z z
    · exact Int.mul_pos z z
  rcases Int.lt_or_gt_of_ne b0 with zb | zb
  · rcases Int.lt_or_gt_of_ne c0 with zc | zc
    · omega
    · have h1 : n < 0 := by rw [ek]; exact Int.mul_neg_of_neg_of_pos zb pk
      have h2 : 0 < n := by rw [em]; exact Int.mul_pos zc pm
      omega
  · rcases Int.lt_or_gt_of_ne c0 with zc | zc
    · have h1 : 0 < n := by rw [ek]; exact Int.mul_pos zb pk
      have h2 : n < 0 := by rw [em]; exact Int.mul_neg_of_neg_of_pos zc pm
      omega
    · omega
theorem bare_self {b n : Int} (h : Bare b n) : Bare b b := ⟨h.1, h.2.1, 1, by simp⟩
theorem bare_nine {b n : Int} (h : Bare b n) : Bare b (b * 9) := ⟨h.1, h.2.1, 3, by simp⟩
theorem sq_add (x t : Nat) : (2 * x + t) * (2 * x + t) = 4 * (x * x) + 4 * (x * t) + t * t := by
  have a : 2 * x * (2 * x) = 4 * (x * x) := Nat.mul_mul_mul_comm 2 x 2 x
  have b : 2 * x * t = 2 * (x * t) := Nat.mul_assoc 2 x t
  have c : t * (2 * x) = 2 * (x * t) := by rw [Nat.mul_left_comm, Nat.mul_comm t x]
  rw [Nat.mul_add, Nat.add_mul, Nat.add_mul]
  omega
/-! Newton's way to a whole root, from above -/
theorem newton {n x : Nat} (hx : 0 < x) : n < ((x + n / x) / 2 + 1) * ((x + n / x) / 2 + 1) := by
  have h1 : n < x * (n / x + 1) := by
    have := Nat.lt_mul_div_succ n hx
    simpa [Nat.mul_comm] using this
  generalize n / x = q at *
  have h2 : x + q + 1 ≤ 2 * ((x + q) / 2 + 1) := by omega
  generalize (x + q) / 2 + 1 = y at *
  have h3 : (x + q + 1) * (x + q + 1) ≤ (2 * y) * (2 * y) := Nat.mul_le_mul h2 h2
  have h4 : 4 * (x * (q + 1)) ≤ (x + q + 1) * (x + q + 1) := by
    rcases Nat.le_total x (q + 1) with l | l
    · obtain ⟨t, ht⟩ := Nat.exists_eq_add_of_le l
      have : x + q + 1 = 2 * x + t := by omega
      rw [this, ht]
      have := sq_add x t
      have e2 : x * (x + t) = x * x + x * t := Nat.mul_add x x t
      omega
    · obtain ⟨t, ht⟩ := Nat.exists_eq_add_of_le l
      have e1 : x + q + 1 = 2 * (q + 1) + t := by omega
      rw [e1, ht]
      generalize q + 1 = z
      have := sq_add z t
      have e2 : (z + t) * z = z * z + z * t := by rw [Nat.add_mul, Nat.mul_comm t z]
      omega
  have h5 : (2 * y) * (2 * y) = 4 * (y * y) := by
    have := Nat.mul_mul_mul_comm 2 y 2 y
    omega
  omega
theorem newton_less {n x : Nat} (hx : 0 < x) (h : n < x * x) : (x + n / x) / 2 < x := by
  have : n / x < x := Nat.div_lt_of_lt_mul h
  omega
theorem root_is {n x m : Nat} (h1 : x * x ≤ n) (h2 : n < (x + 1) * (x + 1)) (e : n = m * m) : x = m := by
  subst e
  rcases Nat.lt_trichotomy x m with l | l | l
  · exfalso
    have : (x + 1) * (x + 1) ≤ m * m := Nat.mul_le_mul l l
    omega
  · exact l
  · exfalso
    have : (m + 1) * (m + 1) ≤ x * x := Nat.mul_le_mul l l
    have : m * m < (m + 1) * (m + 1) := Nat.mul_lt_mul_of_lt_of_le (by omega) (by omega) (by omega)
    omega
end My

/-! ### len(set(xs)), whole numbers -/
namespace My
open PySem PySem.Spec PyProof.Rows L2
def tLenSetD (K : PySem.W.Frag) (ta : TE) : TE := fun σ H Q => ta σ H fun x H1 => ∃ (l : Addr) (ns : List Int), x = .ref l ∧ SqL K H1 l (ns.map V.int) ∧ ns.length ≤ 4000 ∧ Q (.int ((PyProof.Rows.firstMet (fun i => ns.getD i 0) ns.length).length : Nat)) H1
theorem pe_lenSetD {X : Cx} {a : Expr} {ta : TE} {p p2 q pos : Pos} (hg : Gl X "len") (hm : X.mg "len" = none) (hg2 : Gl X "set") (hm2 : X.mg "set" = none) (ha : PE X a ta) (hc : X.calm = true := by rfl)
    (na : starEach [a] X.env = (false, eval a X.env) :: starEach [] X.env := by rfl) : PE X (.Call (.Name "len" p) [.Call (.Name "set" p2) [a] [] q] [] pos) (tLenSetD X.K ta) := by
  refine ⟨fun pins s σ H Q I h => ?_⟩
  refine Call_ (ld_blt I hg hm boot_len ?_)
  refine PyProof.Rows.callWith_builtin1 (PyProof.Rows.args_cons ?_ rfl) rfl rfl
  refine Call_ (ld_blt I hg2 hm2 boot_set ?_)
  refine PyProof.Rows.callWith_type1 (PyProof.Rows.args_cons (thn (ha.run pins s σ H _ I h) fun v s1 ⟨x, H1, I1, r1, q1⟩ => PyProof.Rows.args_nil ?_) na) na rfl
  obtain ⟨l, ns, rfl, hq, hl, q1⟩ := q1
  cases r1
  obtain ⟨its, r, pl, hz⟩ := I1.list hq
  have hlen : its.toArray.size = ns.length := by rw [List.size_toArray, ← r.length, List.length_map]
  have hfm := PyProof.Rows.firstMet_length_le (fun i => ns.getD i 0) ns.length
  refine call_set_list (I1.ok.hd hc) pl.isList (by simpa using RZ.intsAre_vals r) (by rw [hlen]; unfold scanBound; omega) fun h' tk hS hk => ?_
  refine PyProof.Rows.args_nil ?_
  rw [hlen] at hS
  obtain ⟨o, es, ep, t, ho, hex, hd, _, _, _, hf, hn⟩ := hS
  have I2 : Inv X pins σ H1 { s1 with heap := h', toks := tk } := I1.kept fun b o e => hk b o (Heap.lt_size e) e
  exact call_len_set ho hex hd hf (by rw [hn]; omega) ⟨.int _, H1, I2.tok _, ⟨_, by rw [hn]⟩, q1⟩
theorem fm0 : (PyProof.Rows.firstMet (fun i => ([] : List Int).getD i 0) 0).length = 0 := rfl
theorem fm1 (p : Int) : (PyProof.Rows.firstMet (fun i => [p].getD i 0) 1).length = 1 := rfl
theorem fm2 (p q : Int) : (PyProof.Rows.firstMet (fun i => [p, q].getD i 0) 2).length = if p = q then 1 else 2 := by
  rw [PyProof.Rows.firstMet_succ, PyProof.Rows.firstMet_succ, PyProof.Rows.firstMet_zero]
  show (if [p].any (· == q) = true then [p] else [p] ++ [q]).length = _
  by_cases e : p = q
  · subst e
    simp
  · have : ([p].any (· == q)) = false := by simpa using e
    rw [this, if_neg e]; rfl
end My

namespace My
open PySem PySem.Spec PyProof.Rows L2
open C8 (Cal pe_c pe_gc)
/-- a written fraction, its two whole numbers -/
def frV (q : Int × Int) : List V := [.int q.1, .int q.2]
def FrAt (K : PySem.W.Frag) (H : Hp) (v : V) (q : Int × Int) : Prop := ∃ p, v = .ref p ∧ H p = some (.tup (frV q))
def low (q : Int × Int) : Int × Int := (lowT q.1 q.2, lowB q.1 q.2)
def addQ (q r : Int × Int) : Int × Int := low (q.1 * r.2 + r.1 * q.2, q.2 * r.2)
def mulQ (q r : Int × Int) : Int × Int := low (q.1 * r.1, q.2 * r.2)
/-- sizes: below 2 ^ n -/
def Sz (n : Nat) (x : Int) : Prop := x.natAbs < 2 ^ n
theorem Sz.mono {n m : Nat} {x : Int} (h : Sz n x) (l : n ≤ m) : Sz m x := Nat.lt_of_lt_of_le h (Nat.pow_le_pow_right (by decide) l)
theorem Sz.mul {n m : Nat} {x y : Int} (h : Sz n x) (l : Sz m y) : Sz (n + m) (x * y) := wide_lt h l
theorem Sz.add {n : Nat} {x y : Int} (h : Sz n x) (l : Sz n y) : Sz (n + 1) (x + y) := by
  unfold Sz at *
  have : (x + y).natAbs ≤ x.natAbs + y.natAbs := Int.natAbs_add_le x y
  rw [Nat.pow_succ]
  omega
theorem Sz.le {n : Nat} {x y : Int} (h : Sz n x) (l : y.natAbs ≤ x.natAbs) : Sz n y := Nat.lt_of_le_of_lt l h
theorem Sz.cmul {n m : Nat} {x y : Int} (h : Sz n x) (l : Sz m y) (hn : 0 < n) (hm : 0 < m) (b : n + m ≤ 1000000) : CMulW x y := wide_mul h l hn hm b
theorem Sz.log {n : Nat} {x : Int} (h : Sz n x) (hn : 0 < n) (b : n ≤ 9000) : x.natAbs.log2 < 9000 := Nat.lt_of_lt_of_le (PySem.Flt.log2_lt_of hn h) b
theorem cmul_small {x y : Int} (h : x.natAbs < 2 ^ 60) (l : y.natAbs < 2 ^ 60) : CMulW x y := wide_mul h l (by decide) (by decide) (by decide)
/-- a lowest form: bottom above 0, sizes -/
structure OkQ (n : Nat) (q : Int × Int) : Prop where
  pos : 0 < q.2
  t : Sz n q.1
  b : Sz n q.2
theorem OkQ.mono {n m : Nat} {q : Int × Int} (h : OkQ n q) (l : n ≤ m) : OkQ m q := ⟨h.pos, h.t.mono l, h.b.mono l⟩
theorem low_ok {n : Nat} {q : Int × Int} (hb : q.2 ≠ 0) (ht : Sz n q.1) (hB : Sz n q.2) : OkQ n (low q) := ⟨lowB_pos hb, ht.le (lowT_abs hb), hB.le (lowB_abs hb)⟩
theorem add_ok {n m : Nat} {q r : Int × Int} (h : OkQ n q) (l : OkQ m r) : OkQ (n + m + 1) (addQ q r) := by
  refine low_ok ?_ ?_ ?_
  · exact Int.ne_of_gt (Int.mul_pos h.pos l.pos)
  · refine Sz.add (h.t.mul l.b) ?_
    have := l.t.mul h.b
    rwa [Nat.add_comm] at this
  · exact (h.b.mul l.b).mono (by omega)
theorem mul_ok {n m : Nat} {q r : Int × Int} (h : OkQ n q) (l : OkQ m r) : OkQ (n + m) (mulQ q r) := low_ok (Int.ne_of_gt (Int.mul_pos h.pos l.pos)) (h.t.mul l.t) (h.b.mul l.b)

theorem sz2 {a b : V} : [a, b].length ≤ sizeLine := by show 2 ≤ sizeLine; decide
theorem sz4 {a b c d : V} : [a, b, c, d].length ≤ sizeLine := by show 4 ≤ sizeLine; decide
theorem sz5 {a b c d e : V} : [a, b, c, d, e].length ≤ sizeLine := by show 5 ≤ sizeLine; decide
theorem sz3 {a b c : V} : [a, b, c].length ≤ sizeLine := by show 3 ≤ sizeLine; decide
/-- small whole numbers -/
def Bd (n : Nat) (x : Int) : Prop := x.natAbs ≤ n
theorem Bd.mul {n m : Nat} {x y : Int} (h : Bd n x) (l : Bd m y) : Bd (n * m) (x * y) := by
  unfold Bd at *
  rw [Int.natAbs_mul]
  exact Nat.mul_le_mul h l
theorem Bd.add {n m : Nat} {x y : Int} (h : Bd n x) (l : Bd m y) : Bd (n + m) (x + y) := by
  unfold Bd at *
  omega
theorem Bd.sub {n m : Nat} {x y : Int} (h : Bd n x) (l : Bd m y) : Bd (n + m) (x - y) := by
  unfold Bd at *
  omega
theorem Bd.cm {n m : Nat} {x y : Int} (h : Bd n x) (l : Bd m y) (hn : n < 2 ^ 60 := by decide) (hm : m < 2 ^ 60 := by decide) : CMulW x y := cmul_small (Nat.lt_of_le_of_lt h hn) (Nat.lt_of_le_of_lt l hm)
theorem bd_lit {n : Nat} {x : Int} (h : x.natAbs ≤ n := by decide) : Bd n x := h
/-- what tells by being 0 that two roots are alike -/
def toldOf : List Int → Int
  | [_, _] => 1
  | [c, b, _] => b * b - 4 * c
  | [c, b, a, _] => 18 * a * b * c - 4 * a * a * a * c + a * a * b * b - 4 * b * b * b - 27 * c * c
  | [c, _, a, _, _] => c * (a * a - 4 * c)
  | _ => 0
/-- a polynomial that is good -/
structure GoodP (ns : List Int) : Prop where
  l2 : 2 ≤ ns.length
  l5 : ns.length ≤ 5
  sm : ∀ x ∈ ns, Bd 100 x
  last : atI ns (-1) = some 1
  mid1 : ns.length = 5 → ns[1]? = some 0
  mid3 : ns.length = 5 → ns[3]? = some 0
  told : toldOf ns ≠ 0
theorem gcd_fmod (x y : Int) : Int.gcd y (x.fmod y) = Int.gcd x y := by
  have : x.fmod y = x - y * x.fdiv y := Int.fmod_def x y
  rw [this, Int.gcd_comm x y]
  have e : x - y * x.fdiv y = x + y * (- x.fdiv y) := by rw [Int.mul_neg]; rfl
  rw [e, Int.gcd_add_mul_left_right]
theorem fmod_lt {x y : Int} (hy : y ≠ 0) : (x.fmod y).natAbs < y.natAbs := by
  rcases Int.lt_or_gt_of_ne hy with h | h
  · have h1 : x.fmod y = -((-x).fmod (-y)) := by rw [Int.neg_fmod_neg]; simp
    have a := Int.fmod_nonneg_of_pos (-x) (show 0 < -y by omega)
    have b := Int.fmod_lt_of_pos (-x) (show 0 < -y by omega)
    omega
  · have a := Int.fmod_nonneg_of_pos x h
    have b := Int.fmod_lt_of_pos x h
    omega
theorem same_new {H : Hp} {p : Addr} {o : HO} (hp : H p = none) : Same H (upd H p o) := fun b u q => by rw [upd_ne (ne_of_none q hp)]; exact q
theorem item_of {ns : List Int} {i : Nat} {y : V} (hi : (ns.map V.int)[i]? = some y) : ∃ z, ns[i]? = some z ∧ y = V.int z := by
  rw [List.getElem?_map] at hi
  cases e : ns[i]? with
  | none => rw [e] at hi; cases hi
  | some z => rw [e] at hi; exact ⟨z, rfl, (Option.some.inj hi).symm⟩
theorem atI_map {ns : List Int} {i : Int} {z : Int} (h : atI ns i = some z) : atI (ns.map V.int) i = some (V.int z) := by
  unfold atI at *
  rw [List.length_map]
  cases e : ixN ns.length i with
  | none => rw [e] at h; cases h
  | some j =>
    rw [e] at h
    show (ns.map V.int)[j]? = _
    have h' : ns[j]? = some z := h
    rw [List.getElem?_map, h']
    rfl
theorem Same.seqT {K : PySem.W.Frag} {H H' : Hp} {a : Addr} {xs : List V} (e : Same H H') (h : SqT K H a xs) : SqT K H' a xs := by
  rcases h with (h | ⟨o, h⟩) | h
  · exact .inl (.inl (e _ _ h))
  · exact .inl (.inr ⟨o, e _ _ h⟩)
  · exact .inr h
theorem FrAt.mono {K : PySem.W.Frag} {H H' : Hp} {v : V} {q : Int × Int} (h : FrAt K H v q) (e : Same H H') : FrAt K H' v q := by
  obtain ⟨p, rfl, hp⟩ := h
  exact ⟨p, rfl, e _ _ hp⟩
theorem FrAt.new {K : PySem.W.Frag} {H : Hp} {p : Addr} {q : Int × Int} (h : H p = some (.tup (frV q))) : FrAt K H (.ref p) q := ⟨p, rfl, h⟩
theorem take_more {α : Type} : ∀ {l : List α} {i : Nat} {x : α}, l[i]? = some x → l.take (i + 1) = l.take i ++ [x]
  | [], i, x, h => by simp at h
  | a :: l, 0, x, h => by
    have e : a = x := Option.some.inj h
    subst e
    rfl
  | a :: l, i + 1, x, h => by
    have ih := take_more (l := l) (i := i) (x := x) h
    show a :: l.take (i + 1) = a :: l.take i ++ [x]
    rw [ih]
    rfl
theorem ok_01 : OkQ 1 (0, 1) := ⟨by decide, (by decide : (0 : Int).natAbs < 2 ^ 1), (by decide : (1 : Int).natAbs < 2 ^ 1)⟩
theorem ok_n1 {n : Int} {b : Nat} (h : Bd 100 n) (hb : 10 ≤ b) : OkQ b (n, 1) := OkQ.mono (n := 10) ⟨(by decide : (0 : Int) < 1), (by unfold Sz; unfold Bd at h; show n.natAbs < 2 ^ 10; omega), (by show (1 : Int).natAbs < 2 ^ 10; decide)⟩ hb
theorem abs_int (x : Int) : (if x < 0 then -x else x) = (x.natAbs : Int) := by split <;> omega
end My

namespace My
open PySem PySem.Spec PyProof.Rows L2
/-- where the classes of errors stand -/
structure Cs where
  RootError : Addr
  NoPoly : Addr
  NoHouse : Addr
  NoLetter : Addr
  NoCount : Addr
  NoMove : Addr
  NoWord : Addr
  Full : Addr
  NoDeed : Addr
  NoText : Addr
  NoLine : Addr
  NoOver : Addr
  NoName : Addr
  Twice : Addr
  NoNumber : Addr
/-- which class an error is of: j its number among the sorts -/
structure Row (K : PySem.W.Frag) (c : Cs) (t : Value) (j : Option Nat) : Prop where
  k_NoPoly : PySem.W.kitOne K t (.ref c.NoPoly) = some (j == some 0)
  k_NoHouse : PySem.W.kitOne K t (.ref c.NoHouse) = some (j == some 1)
  k_NoLetter : PySem.W.kitOne K t (.ref c.NoLetter) = some (j == some 2)
  k_NoCount : PySem.W.kitOne K t (.ref c.NoCount) = some (j == some 3)
  k_NoMove : PySem.W.kitOne K t (.ref c.NoMove) = some (j == some 4)
  k_NoWord : PySem.W.kitOne K t (.ref c.NoWord) = some (j == some 5)
  k_Full : PySem.W.kitOne K t (.ref c.Full) = some (j == some 6)
  k_NoDeed : PySem.W.kitOne K t (.ref c.NoDeed) = some (j == some 7)
  k_NoText : PySem.W.kitOne K t (.ref c.NoText) = some (j == some 8)
  k_NoLine : PySem.W.kitOne K t (.ref c.NoLine) = some (j == some 9)
  k_NoOver : PySem.W.kitOne K t (.ref c.NoOver) = some (j == some 10)
  k_NoName : PySem.W.kitOne K t (.ref c.NoName) = some (j == some 11)
  k_Twice : PySem.W.kitOne K t (.ref c.Twice) = some (j == some 12)
  k_NoNumber : PySem.W.kitOne K t (.ref c.NoNumber) = some (j == some 13)
  k_RootError : PySem.W.kitOne K t (.ref c.RootError) = some (j.any fun i => decide (i < 10))
structure Txt (K : PySem.W.Frag) (mg : Str → Option Value) (c : Cs) : Prop where
  z_set : mg "set" = none
  z_abs : mg "abs" = none
  z_len : mg "len" = none
  z_range : mg "range" = none
  z_max : mg "max" = none
  z_enumerate : mg "enumerate" = none
  z_isinstance : mg "isinstance" = none
  z_int : mg "int" = none
  z_bool : mg "bool" = none
  z_tuple : mg "tuple" = none
  z_list : mg "list" = none
  mg_MOST : ∃ u, mg "MOST" = some u ∧ RelV (.int 100) u
  g_RootError : mg "RootError" = some (.ref c.RootError)
  g_NoPoly : mg "NoPoly" = some (.ref c.NoPoly)
  g_NoHouse : mg "NoHouse" = some (.ref c.NoHouse)
  g_NoLetter : mg "NoLetter" = some (.ref c.NoLetter)
  g_NoCount : mg "NoCount" = some (.ref c.NoCount)
  g_NoMove : mg "NoMove" = some (.ref c.NoMove)
  g_NoWord : mg "NoWord" = some (.ref c.NoWord)
  g_Full : mg "Full" = some (.ref c.Full)
  g_NoDeed : mg "NoDeed" = some (.ref c.NoDeed)
  g_NoText : mg "NoText" = some (.ref c.NoText)
  g_NoLine : mg "NoLine" = some (.ref c.NoLine)
  g_NoOver : mg "NoOver" = some (.ref c.NoOver)
  g_NoName : mg "NoName" = some (.ref c.NoName)
  g_Twice : mg "Twice" = some (.ref c.Twice)
  g_NoNumber : mg "NoNumber" = some (.ref c.NoNumber)
  row_none : Row K c (.type "NoneType") none
  row_NoPoly : Row K c (.ref c.NoPoly) (some 0)
  exc_NoPoly : ExcC K c.NoPoly
  exm_NoPoly_RootError : PySem.W.exmOne K (.ref c.NoPoly) (.ref c.RootError) = some true
  exm_NoPoly_NoNumber : PySem.W.exmOne K (.ref c.NoPoly) (.ref c.NoNumber) = some false
  exm_NoPoly_NoOver : PySem.W.exmOne K (.ref c.NoPoly) (.ref c.NoOver) = some false
  row_NoNumber : Row K c (.ref c.NoNumber) (some 13)
  exc_NoNumber : ExcC K c.NoNumber
  exm_NoNumber_RootError : PySem.W.exmOne K (.ref c.NoNumber) (.ref c.RootError) = some false
  exm_NoNumber_NoNumber : PySem.W.exmOne K (.ref c.NoNumber) (.ref c.NoNumber) = some true
  exm_NoNumber_NoOver : PySem.W.exmOne K (.ref c.NoNumber) (.ref c.NoOver) = some false
  x_NoNumber : PySem.W.excIn K c.NoNumber [.type "ValueError", .type "Exception", .type "BaseException", .type "object"] "ValueError.__new__" = true
  k_NoNumber : PySem.W.keepIn K (.ref c.NoNumber) = true
  b_NoNumber : PySem.W.subIn K (.ref c.NoNumber) (.type "BaseException") = some true
  t_NoNumber : PySem.W.typeIn K (.ref c.NoNumber) = some (.type "type")
  ini_RootError : Ini K c.RootError
  oex_NoPoly : OexC K c.NoPoly
  no_NoPoly : PySem.W.findIn K (.ref c.NoPoly) "at" = some none
end My
namespace My
open PySem PySem.Spec PyProof.Rows L2
open C8 (Cal pe_c pe_gc)
/-- all but a stand as they stood -/
def Xt (a : Addr) (H H' : Hp) : Prop := ∀ b o, b ≠ a → H b = some o → H' b = some o
theorem Xt.refl (a : Addr) (H : Hp) : Xt a H H := fun _ _ _ h => h
theorem Xt.trans {a : Addr} {H H1 H2 : Hp} (x : Xt a H H1) (y : Xt a H1 H2) : Xt a H H2 := fun b o n h => y b o n (x b o n h)
theorem Xt.of {a : Addr} {H H' : Hp} (x : Same H H') : Xt a H H' := fun b o _ h => x b o h
theorem Xt.upd {a : Addr} {H : Hp} {o : HO} : Xt a H (upd H a o) := fun b u n h => by rw [upd_ne n]; exact h
/-- a purse at a, drawn from less than m times -/
def Pur (H : Hp) (a : Addr) (m : Nat) : Prop := ∃ d c k : Int, H a = some (.lst [.int d, .int c, .int k]) ∧ 0 ≤ d ∧ 0 ≤ c ∧ c < 2147483647 ∧ 0 ≤ k ∧ k ≤ m
theorem Pur.mono {H : Hp} {a : Addr} {m n : Nat} (h : Pur H a m) (l : m ≤ n) : Pur H a n := by
  obtain ⟨d, c, k, h1, h2, h3, h4, h5, h6⟩ := h
  exact ⟨d, c, k, h1, h2, h3, h4, h5, by omega⟩
theorem Pur.same {H H' : Hp} {a : Addr} {m : Nat} (h : Pur H a m) (s : Same H H') : Pur H' a m := by
  obtain ⟨d, c, k, h1, h2⟩ := h
  exact ⟨d, c, k, s _ _ h1, h2⟩
theorem Pur.at {H : Hp} {a : Addr} {m : Nat} (h : Pur H a m) : ∃ o, H a = some o := by
  obtain ⟨d, c, k, h1, h2⟩ := h
  exact ⟨_, h1⟩
theorem Xt.same1 {a : Addr} {H H1 H2 : Hp} (x : Xt a H H1) (y : Same H1 H2) : Xt a H H2 := x.trans (Xt.of y)
theorem Xt.updNew {a D : Addr} {H H1 : Hp} {o : HO} (x : Xt a H H1) (h : H D = none) : Xt a H (L2.upd H1 D o) := fun b u nb hb => by
  rw [upd_ne (ne_of_none hb h)]
  exact x b u nb hb
theorem Xt.free {a D : Addr} {H H1 : Hp} (x : Xt a H H1) (n : D ≠ a) (h : H1 D = none) : H D = none := by
  cases e : H D with
  | none => rfl
  | some o => rw [x D o n e] at h; cases h
theorem Xt.back {a : Addr} {H H1 H2 : Hp} (s : Same H H1) (x : Xt a H1 H2) (h : H a = none) : Same H H2 := fun b o hb => x b o (ne_of_none hb h) (s b o hb)
theorem Pur.updNe {H : Hp} {a D : Addr} {m : Nat} {o : HO} (p : Pur H a m) (h : D ≠ a) : Pur (L2.upd H D o) a m := by
  obtain ⟨d, c, k, h1, h2⟩ := p
  exact ⟨d, c, k, by rw [upd_ne h.symm]; exact h1, h2⟩
theorem fmod_bd {x j : Int} (h : 0 < j) : 0 ≤ x.fmod j ∧ x.fmod j < j := ⟨Int.fmod_nonneg_of_pos x h, Int.fmod_lt_of_pos x h⟩
section
variable {c : Cs} {P : Program} {w : World} {K : PySem.W.Frag} {mg : Str → Option Value} {base : Heap}

abbrev s_Lat : Stmt := top 68
abbrev N_Lat : List Str := ["_law_script", "_law_k"]
abbrev P_Lat : List Str := ["_law_script", "_law_k"]
theorem sc_Lat : FnScope N_Lat ["_law_script", "_law_k"] (defScope s_Lat) := ⟨rfl, rfl, rfl, by decide +kernel, rfl, by decide +kernel, by decide +kernel⟩

def sp_Lat (K : PySem.W.Frag) : Sp := fun vs H Q _ => ∃ (a : Addr) (ns : List Int) (j : Nat), vs = [.ref a, .int (j : Nat)] ∧ SqL K H a (ns.map V.int) ∧ ∀ z : Int, Q (.int z) H
theorem ok_Lat (T : Txt K mg c) {f : Addr} {fd : FuncData} (F : L2.Fun K "_law_at" "_law_at" s_Lat f fd) : FnOk P w K mg base CX0 1 f fd P_Lat (sp_Lat K) := by
  refine F.ok sc_Lat (fun vs H Q E h => ?_) (fun cdv A outer s H vs Q E hr h => ?_)
  · obtain ⟨a, ns, j, rfl, _⟩ := h
    rfl
  · obtain ⟨a, ns, j, rfl, hS, k⟩ := h
    refine ⟨_, (pss_cons (ps_if (pt_cmpR op_lt (pv 1) (pe_callB call_len_seq (by rfl) T.z_len (by decide +kernel) (pa_cons (pv 0) pa_nil)) (nomark _)) (pss_one (ps_ret (pe_ix ix_list (pv 0) (pv 1) (fun _ _ => rfl)))) pss_nil)
      (pss_one (ps_ret pe_int))), ?_⟩
    refine ⟨_, rfl, _, rfl, a, _, rfl, .inl hS, _, _, rfl, rfl, _, rfl, ?_⟩
    refine ite2 (fun hc => ?_) (fun hc => ?_)
    · have hj : j < ns.length := by
        have := of_decide_eq_true hc
        rw [List.length_map] at this
        omega
      refine ⟨_, rfl, _, rfl, a, _, _, _, rfl, rfl, hS, atI_map (atI_nat (List.getElem?_eq_getElem hj)), k _⟩
    · exact k _

abbrev s_Lmixed : Stmt := top 69
abbrev N_Lmixed : List Str := ["_law_cell", "_law_k", "_law_figure"]
abbrev P_Lmixed : List Str := ["_law_cell", "_law_k"]
theorem sc_Lmixed : FnScope N_Lmixed ["_law_cell", "_law_k"] (defScope s_Lmixed) := ⟨rfl, rfl, rfl, by decide +kernel, rfl, by decide +kernel, by decide +kernel⟩

def sp_Lmixed : Sp := fun vs H Q _ => ∃ c k : Int, vs = [.int c, .int k] ∧ Bd (2 ^ 31) c ∧ Bd (2 ^ 40) k ∧ ∀ z : Int, 0 ≤ z → z < 2147483587 → Q (.int z) H
theorem ok_Lmixed (T : Txt K mg c) {f : Addr} {fd : FuncData} (F : L2.Fun K "_law_mixed" "_law_mixed" s_Lmixed f fd) : FnOk P w K mg base CX0 1 f fd P_Lmixed sp_Lmixed := by
  refine F.ok sc_Lmixed (fun vs H Q E h => ?_) (fun cdv A outer s H vs Q E hr h => ?_)
  · obtain ⟨c, k, rfl, _⟩ := h
    rfl
  · obtain ⟨c, k, rfl, hc, hk, q⟩ := h
    refine ⟨_, (pss_cons (ps_set (i := 2) sc_Lmixed.nd rfl (by first | exact Or.inl rfl | exact Or.inr rfl) (pe_op op_modN (pe_op op_add (pe_op op_add (pe_op op_add (pe_op op_mulW (pv 0) pe_int) (pe_op op_mulW (pe_op op_mulW pe_int (pv 1)) (pv 1))) (pv 1)) pe_int) pe_int))
      (pss_cons (ps_set (i := 2) sc_Lmixed.nd rfl (by first | exact Or.inl rfl | exact Or.inr rfl) (pe_op op_modN (pe_op op_add (pe_op op_mulW (pv 2) (pv 2)) pe_int) pe_int))
      (pss_one (ps_ret (pe_op op_modN (pe_op op_mulW (pv 2) pe_int) pe_int))))), ?_⟩
    have m1 : ∀ x : Int, Bd 2147483647 (x.fmod 2147483647) := fun x => by
      have := fmod_bd (x := x) (j := 2147483647) (by decide)
      unfold Bd; omega
    have m2 : ∀ x : Int, Bd 2147483629 (x.fmod 2147483629) := fun x => by
      have := fmod_bd (x := x) (j := 2147483629) (by decide)
      unfold Bd; omega
    refine ⟨_, rfl, _, _, rfl, rfl, hc.cm (bd_lit (n := 1103515245)), _, rfl, _, _, rfl, rfl, (bd_lit (n := 7919)).cm hk, _, rfl, _, _, rfl, rfl, ((bd_lit (n := 7919)).mul hk).cm hk, _, _, rfl, rfl, _, rfl, _, _, rfl, rfl, _, _, rfl, rfl, _, _, rfl, rfl, (show (2147483647 : Int) ≠ 0 by decide), ?_⟩
    refine ⟨_, rfl, _, rfl, _, _, rfl, rfl, (m1 _).cm (m1 _), _, _, rfl, rfl, _, _, rfl, rfl, (show (2147483629 : Int) ≠ 0 by decide), ?_⟩
    refine ⟨_, rfl, _, _, rfl, rfl, (m2 _).cm (bd_lit (n := 48271)), _, _, rfl, rfl, (show (2147483587 : Int) ≠ 0 by decide), ?_⟩
    have := fmod_bd (x := (Int.fmod (Int.fmod (c * 1103515245 + 7919 * k * k + k + 1) 2147483647 * Int.fmod (c * 1103515245 + 7919 * k * k + k + 1) 2147483647 + 69621) 2147483629) * 48271) (j := 2147483587) (by decide)
    exact q _ this.1 this.2

abbrev s_Lpurse : Stmt := top 70
abbrev N_Lpurse : List Str := ["_law_script", "_law_at_here", "_law_cell"]
abbrev P_Lpurse : List Str := ["_law_script", "_law_at_here"]
theorem sc_Lpurse : FnScope N_Lpurse ["_law_script", "_law_at_here"] (defScope s_Lpurse) := ⟨rfl, rfl, rfl, by decide +kernel, rfl, by decide +kernel, by decide +kernel⟩

def sp_Lpurse (K : PySem.W.Frag) : Sp := fun vs H Q _ => ∃ (a : Addr) (ns : List Int) (j : Nat), vs = [.ref a, .int (j : Nat)] ∧ SqL K H a (ns.map V.int) ∧ j ≤ 100 ∧
  ∀ H' p, Same H H' → H p = none → Pur H' p (1000 * j) → Q (.ref p) H'
theorem ok_Lpurse (T : Txt K mg c) {f : Addr} {fd : FuncData} (F : L2.Fun K "_law_purse" "_law_purse" s_Lpurse f fd) (h_Lat : Cal P w K mg base 1 "_law_at" (sp_Lat K) []) : FnOk P w K mg base CX0 2 f fd P_Lpurse (sp_Lpurse K) := by
  refine F.ok sc_Lpurse (fun vs H Q E h => ?_) (fun cdv A outer s H vs Q E hr h => ?_)
  · obtain ⟨a, ns, j, rfl, _⟩ := h
    rfl
  · obtain ⟨a, ns, j, rfl, hS, hj, k⟩ := h
    refine ⟨_, (pss_cons (ps_set (i := 2) sc_Lpurse.nd rfl (by first | exact Or.inl rfl | exact Or.inr rfl) (pe_c h_Lat hr (by decide) rfl (pa_cons (pv 0) (pa_cons (pv 1) pa_nil))))
      (pss_one (ps_ret (pe_lst (pa_cons (pe_op op_modN (pe_callB (call_max2 rfl) (by rfl) T.z_max (by decide +kernel) (pa_cons (pe_op op_sub (pv 2) (pe_op op_powW pe_int pe_int)) (pa_cons pe_int pa_nil))) (pe_op op_powW (pe_op op_powW pe_int pe_int) pe_int)) (pa_cons (pe_op op_modN (pv 2) pe_int) (pa_cons (pe_op op_mulW pe_int (pv 1)) pa_nil))))))), ?_⟩
    refine ⟨_, rfl, _, rfl, a, ns, j, rfl, hS, fun z => ?_⟩
    have bj : Bd 100 (j : Int) := by unfold Bd; omega
    refine ⟨_, rfl, _, _, rfl, rfl, ⟨by decide, by decide +kernel⟩, _, _, rfl, rfl, _, _, rfl, _, _, rfl, rfl, ⟨by decide, by decide +kernel⟩, _, _, rfl, rfl, ⟨by decide, by decide +kernel⟩, _, _, rfl, rfl, (show ((10 : Int) ^ (60 : Int).toNat) ^ (40 : Int).toNat ≠ 0 by decide +kernel), _, rfl, _, _, rfl, rfl, (show (2147483647 : Int) ≠ 0 by decide), _, rfl, _, _, rfl, rfl, (bd_lit (n := 1000)).cm bj, sz3, fun p hp => ?_⟩
    refine k _ p (same_new hp) hp ⟨_, _, _, upd_same, ?_, ?_, ?_, ?_, ?_⟩
    · exact (fmod_bd (by decide +kernel)).1
    · exact (fmod_bd (j := 2147483647) (by decide)).1
    · exact (fmod_bd (j := 2147483647) (by decide)).2
    · omega
    · omega

abbrev s_Ldraw : Stmt := top 71
abbrev N_Ldraw : List Str := ["_law_purse_here", "_law_out_of", "_law_figure", "_law_k", "_law_drawn"]
abbrev P_Ldraw : List Str := ["_law_purse_here", "_law_out_of"]
theorem sc_Ldraw : FnScope N_Ldraw ["_law_purse_here", "_law_out_of"] (defScope s_Ldraw) := ⟨rfl, rfl, rfl, by decide +kernel, rfl, by decide +kernel, by decide +kernel⟩

def sp_Ldraw : Sp := fun vs H Q _ => ∃ (a : Addr) (n : Int) (m : Nat), vs = [.ref a, .int n] ∧ 0 < n ∧ n < 2 ^ 200 ∧ Pur H a m ∧ m ≤ 2 ^ 30 ∧
  ∀ H' (z : Int), Xt a H H' → Pur H' a (m + 20) → 0 ≤ z → z < n → Q (.int z) H'
theorem bits_le {n : Int} (h0 : 0 < n) (h : n < 2 ^ 200) : Builtin.Int.intBits n ≤ 200 := by
  have h1 : n.natAbs < 2 ^ 200 := by
    have : (n.natAbs : Int) < ((2 ^ 200 : Nat) : Int) := by
      have e : ((2 ^ 200 : Nat) : Int) = 2 ^ 200 := by decide
      rw [e]; omega
    exact Int.ofNat_lt.mp this
  have h2 := PySem.Flt.log2_lt_of (by decide : 0 < 200) h1
  unfold Builtin.Int.intBits
  split <;> omega
theorem ok_Ldraw (T : Txt K mg c) {f : Addr} {fd : FuncData} (F : L2.Fun K "_law_draw" "_law_draw" s_Ldraw f fd) (h_Lmixed : Cal P w K mg base 1 "_law_mixed" sp_Lmixed []) : FnOk P w K mg base CX0 2 f fd P_Ldraw sp_Ldraw := by
  refine F.ok sc_Ldraw (fun vs H Q E h => ?_) (fun cdv A outer s H vs Q E hr h => ?_)
  · obtain ⟨a, n, m, rfl, _⟩ := h
    rfl
  · obtain ⟨a, n, m, rfl, hn, hn2, ⟨d, c, k0, ha, hd, hc, hc2, hk, hk2⟩, hm, k⟩ := h
    refine ⟨_, (pss_cons (ps_if (pt_cmpR op_gt (pe_ix ix_list (pv 0) pe_int (fun _ _ => rfl)) pe_int (nomark _)) (pss_cons (ps_set (i := 4) sc_Ldraw.nd rfl (by first | exact Or.inl rfl | exact Or.inr rfl) (pe_op op_modN (pe_ix ix_list (pv 0) pe_int (fun _ _ => rfl)) (pv 1)))
      (pss_cons (ps_asg (pe_op op_fdivA (pe_ix ix_list (pv 0) pe_int (fun _ _ => rfl)) (pv 1)) (pg_sub (pv 0) pe_int set_list))
      (pss_one (ps_ret (pv 4))))) pss_nil)
      (pss_cons (ps_set (i := 2) sc_Ldraw.nd rfl (by first | exact Or.inl rfl | exact Or.inr rfl) pe_int)
      (pss_cons (ps_for PassesOwn.never rfl (pi_range1 rfl T.z_range (pa_cons (pe_op op_add pe_int (pe_op op_fdivA (pe_bits (pv 1)) pe_int)) pa_nil)) (pg_name (i := 3) sc_Ldraw.nd rfl (by first | exact Or.inl rfl | exact Or.inr rfl)) (pss_cons (ps_asg (pe_op op_add (pe_ix ix_list (pv 0) pe_int (fun _ _ => rfl)) pe_int) (pg_sub (pv 0) pe_int set_list))
      (pss_one (ps_set (i := 2) sc_Ldraw.nd rfl (by first | exact Or.inl rfl | exact Or.inr rfl) (pe_op op_add (pe_op op_mulW (pv 2) pe_int) (pe_c h_Lmixed hr (by decide) rfl (pa_cons (pe_ix ix_list (pv 0) pe_int (fun _ _ => rfl)) (pa_cons (pe_ix ix_list (pv 0) pe_int (fun _ _ => rfl)) pa_nil))))))))
      (pss_one (ps_ret (pe_op op_modN (pv 2) (pv 1))))))), ?_⟩
    refine ⟨_, rfl, a, _, _, _, rfl, rfl, SqL.of ha, rfl, _, _, rfl, rfl, _, rfl, ?_⟩
    have szn : Sz 200 n := by
      unfold Sz
      have : (n.natAbs : Int) < ((2 ^ 200 : Nat) : Int) := by
        have e : ((2 ^ 200 : Nat) : Int) = 2 ^ 200 := by decide
        rw [e]; omega
      exact Int.ofNat_lt.mp this
    refine ite2 (fun hc0 => ?_) (fun hc0 => ?_)
    · have hd0 : 0 < d := of_decide_eq_true hc0
      refine ⟨_, rfl, a, _, _, _, rfl, rfl, SqL.of ha, rfl, _, rfl, _, _, rfl, rfl, Int.ne_of_gt hn, ?_⟩
      refine ⟨_, rfl, a, _, _, _, rfl, rfl, SqL.of ha, rfl, _, rfl, _, _, rfl, rfl, ⟨Int.ne_of_gt hn, szn.log (by decide) (by decide)⟩, _, rfl, a, _, _, _, rfl, rfl, ha, rfl, ?_⟩
      refine ⟨_, rfl, k _ _ Xt.upd ⟨_, _, _, upd_same, ?_, hc, hc2, hk, by omega⟩ (fmod_bd hn).1 (fmod_bd hn).2⟩
      rw [Int.fdiv_eq_ediv_of_nonneg d (by omega)]
      exact Int.ediv_nonneg hd (by omega)
    · refine ⟨_, rfl, _, rfl, _, _, rfl, rfl, ⟨(show (30 : Int) ≠ 0 by decide), (show (30 : Int).natAbs.log2 < 9000 by decide +kernel)⟩, _, _, rfl, rfl, ?_⟩
      have hb := bits_le hn hn2
      have hq : 0 ≤ Int.fdiv ((Builtin.Int.intBits n : Nat) : Int) 30 ∧ Int.fdiv ((Builtin.Int.intBits n : Nat) : Int) 30 ≤ 6 := by
        rw [Int.fdiv_eq_ediv_of_nonneg _ (by decide)]
        omega
      generalize Int.fdiv ((Builtin.Int.intBits n : Nat) : Int) 30 = e at hq ⊢
      refine ⟨1 + e, rfl, (show -(2 ^ 62 : Int) ≤ 1 + e by omega), (show 1 + e < (2 ^ 62 : Int) by omega), for_range (lo := 0) (n := (1 + e).toNat) (fun i σ H' => ∃ (fig : Int) (o1 o2 : Option V), σ = [some (.ref a), some (.int n), some (.int fig), o1, o2] ∧ Xt a H H' ∧ Pur H' a (m + i) ∧ Sz (40 * i + 1) fig ∧ 0 ≤ fig) ⟨0, none, none, rfl, Xt.refl _ _, ⟨d, c, k0, ha, hd, hc, hc2, hk, hk2⟩, (by decide : (0 : Int).natAbs < 2 ^ 1), by decide⟩ ?_ ?_⟩
      · rintro i σ H' hi ⟨fig, o1, o2, rfl, x1, ⟨d', c', k', ha', hd', hc', hc2', hk', hk2'⟩, sf, f0⟩
        have hi7 : i < 7 := by omega
        refine ⟨_, rfl, a, _, _, _, rfl, rfl, SqL.of ha', rfl, _, _, rfl, rfl, _, rfl, a, _, _, _, rfl, rfl, ha', rfl, ?_⟩
        refine ⟨_, rfl, _, _, rfl, rfl, sf.cmul (show Sz 40 2147483587 by unfold Sz; decide) (by omega) (by decide) (by omega), ?_⟩
        refine ⟨_, rfl, a, _, _, _, rfl, rfl, SqL.of upd_same, rfl, _, rfl, a, _, _, _, rfl, rfl, SqL.of upd_same, rfl, c', k' + 1, rfl, ?_, ?_, fun z z0 z1 => ?_⟩
        · unfold Bd; omega
        · unfold Bd; omega
        · refine ⟨_, _, rfl, rfl, ?_⟩
          refine ⟨fig * 2147483587 + z, _, _, rfl, x1.trans Xt.upd, ⟨d', c', k' + 1, upd_same, hd', hc', hc2', by omega, by omega⟩, ?_, ?_⟩
          · have s1 : Sz (40 * i + 1 + 39) (fig * 2147483587) := sf.mul (show Sz 39 2147483587 by unfold Sz; decide)
            have s2 : Sz (40 * i + 1 + 39) z := Sz.mono (n := 39) (by unfold Sz; omega) (by omega)
            exact (s1.add s2).mono (by omega)
          · have : 0 ≤ fig * 2147483587 := Int.mul_nonneg f0 (by decide)
            show 0 ≤ fig * 2147483587 + z
            omega
      · rintro σ H' ⟨fig, o1, o2, rfl, x1, hp, sf, f0⟩
        refine ⟨_, rfl, _, rfl, _, _, rfl, rfl, Int.ne_of_gt hn, ?_⟩
        exact k _ _ x1 (hp.mono (by omega)) (fmod_bd hn).1 (fmod_bd hn).2
end
end My

namespace My
open PySem PySem.Spec PyProof.Rows L2
open C8 (Cal pe_c pe_gc)
section
variable {c : Cs} {P : Program} {w : World} {K : PySem.W.Frag} {mg : Str → Option Value} {base : Heap}
abbrev s_NoPoly_init : Stmt := inClass (top 3) 0
abbrev N_NoPoly_init : List Str := ["self", "at"]
abbrev P_NoPoly_init : List Str := ["self", "at"]
theorem sc_NoPoly_init : FnScope N_NoPoly_init ["self", "at"] (defScope s_NoPoly_init) := ⟨rfl, rfl, rfl, by decide +kernel, rfl, by decide +kernel, by decide +kernel⟩

theorem ok_NoPoly_init (T : Txt K mg c) {dvs : List V} {kws : List (Str × V)} {f : Addr} {fd : FuncData} (F : FunD K "__init__" "NoPoly.__init__" (defArgs s_NoPoly_init) (defBody s_NoPoly_init) (defScope s_NoPoly_init) dvs kws f fd) : FnOk P w K mg base CX0 1 f fd P_NoPoly_init (sp_Ini K "at") := by
  refine F.ok sc_NoPoly_init (fun vs H Q E h => ?_) (fun cdv A outer s H vs Q E hr h => ?_)
  · obtain ⟨a, C, v, rfl, _⟩ := h
    rfl
  · obtain ⟨a, C, v, rfl, o, no, ha, k⟩ := h
    refine ⟨_, (pss_cons (ps_expr (pe_reinit rfl T.g_RootError T.ini_RootError (pa_cons (pv 0) (pa_cons pe_str pa_nil))))
      (pss_one (ps_ost (pv 0) (pv 1)))), ?_⟩
    refine ⟨_, rfl, a, C, _, rfl, (by decide), o, ha, ?_⟩
    exact ⟨_, rfl, _, rfl, a, C, rfl, o, no, .inl ⟨ha, fun dx n ne => k dx n ne⟩⟩
end
end My

namespace My
open PySem PySem.Spec PyProof.Rows L2
open C8 (Cal pe_c pe_gc)
section
variable {c : Cs} {P : Program} {w : World} {K : PySem.W.Frag} {mg : Str → Option Value} {base : Heap}

abbrev s_divisor : Stmt := top 19
abbrev N_divisor : List Str := ["one", "other"]
abbrev P_divisor : List Str := ["one", "other"]
theorem sc_divisor : FnScope N_divisor ["one", "other"] (defScope s_divisor) := ⟨rfl, rfl, rfl, by decide +kernel, rfl, by decide +kernel, by decide +kernel⟩

def sp_divisor : Sp := fun vs H Q _ => ∃ a b : Int, vs = [.int a, .int b] ∧ Q (.int (Int.gcd a b : Nat)) H
theorem ok_divisor (T : Txt K mg c) {f : Addr} {fd : FuncData} (F : L2.Fun K "divisor" "divisor" s_divisor f fd) : FnOk P w K mg base CX0 1 f fd ["one", "other"] sp_divisor := by
  refine F.ok sc_divisor (fun vs H Q E h => ?_) (fun cdv A outer s H vs Q E hr h => ?_)
  · obtain ⟨a, b, rfl, _⟩ := h
    rfl
  · obtain ⟨a, b, rfl, k⟩ := h
    refine ⟨_, (pss_cons (ps_while PassesOwn.never (pt_cmpR op_ne (pv 1) pe_int (nomark _)) (pss_one (ps_par (i := 0) (j := 1) (by rfl) sc_divisor.nd rfl rfl (by decide) rfl rfl (pa_cons (pv 1) (pa_cons (pe_op op_modN (pv 0) (pv 1)) pa_nil)) (by rfl))))
      (pss_one (ps_ret (pe_callB call_abs (by rfl) T.z_abs (by decide +kernel) (pa_cons (pv 0) pa_nil))))), ?_⟩
    refine while_by (fun σ H' => H' = H ∧ ∃ x y : Int, σ = [some (.int x), some (.int y)] ∧ Int.gcd x y = Int.gcd a b) (fun σ _ => match σ with | [_, some (.int y)] => y.natAbs | _ => 0) ⟨rfl, a, b, rfl, rfl⟩ ?_ ?_
    · rintro σ H' ⟨rfl, x, y, rfl, hg⟩
      refine ⟨_, rfl, rfl, _, rfl, ?_⟩
      refine ite2 (fun hc => ?_) (fun hc => ?_)
      · have hy : y ≠ 0 := by simpa using hc
        refine ⟨_, rfl, _, rfl, _, rfl, _, _, rfl, rfl, hy, _, _, rfl, ?_⟩
        exact ⟨⟨rfl, _, _, rfl, (gcd_fmod x y).trans hg⟩, fmod_lt hy⟩
      · have hy : y = 0 := by simpa using hc
        refine ⟨_, rfl, _, rfl, ?_⟩
        subst hy
        have e : (if x < 0 then -x else x) = ((Int.gcd a b : Nat) : Int) := by
          rw [← hg]
          rw [Int.gcd_zero_right]
          split <;> omega
        show Q (.int (if x < 0 then -x else x)) _
        rw [e]
        exact k
    · rintro σ H Q Q' hq ⟨v, h1, h2, k, h3, h4⟩
      exact ⟨v, h1, h2, k, h3, hq _ _ h4⟩

abbrev s_lowest : Stmt := top 20
abbrev N_lowest : List Str := ["top", "bottom", "share"]
abbrev P_lowest : List Str := ["top", "bottom"]
theorem sc_lowest : FnScope N_lowest ["top", "bottom"] (defScope s_lowest) := ⟨rfl, rfl, rfl, by decide +kernel, rfl, by decide +kernel, by decide +kernel⟩

def sp_lowest (K : PySem.W.Frag) : Sp := fun vs H Q _ => ∃ q : Int × Int, vs = [.int q.1, .int q.2] ∧ q.2 ≠ 0 ∧ Sz 8000 q.2 ∧ ∀ H' p, Same H H' → H' p = some (.tup (frV (low q))) → H p = none → Q (.ref p) H'
theorem ok_lowest (T : Txt K mg c) {f : Addr} {fd : FuncData} (F : L2.Fun K "lowest" "lowest" s_lowest f fd) (h_divisor : Cal P w K mg base 1 "divisor" sp_divisor []) : FnOk P w K mg base CX0 2 f fd ["top", "bottom"] (sp_lowest K) := by
  refine F.ok sc_lowest (fun vs H Q E h => ?_) (fun cdv A outer s H vs Q E hr h => ?_)
  · obtain ⟨q, rfl, _⟩ := h
    rfl
  · obtain ⟨⟨t, b⟩, rfl, hb, hz, k⟩ := h
    refine ⟨_, (pss_cons (ps_set (i := 2) sc_lowest.nd rfl (by first | exact Or.inl rfl | exact Or.inr rfl) (pe_c h_divisor hr (by decide) rfl (pa_cons (pv 0) (pa_cons (pv 1) pa_nil))))
      (pss_cons (ps_if (pt_cmpR op_lt (pv 1) pe_int (nomark _)) (pss_one (ps_set (i := 2) sc_lowest.nd rfl (by first | exact Or.inl rfl | exact Or.inr rfl) (pe_op op_sub pe_int (pv 2)))) pss_nil)
      (pss_one (ps_ret (pe_tup (pa_cons (pe_op op_fdivA (pv 0) (pv 2)) (pa_cons (pe_op op_fdivA (pv 1) (pv 2)) pa_nil))))))), ?_⟩
    have hb : b ≠ 0 := hb
    refine ⟨_, rfl, _, rfl, t, b, rfl, ?_⟩
    refine ⟨_, rfl, _, _, rfl, rfl, _, rfl, ?_⟩
    have sgo : shr t b ≠ 0 ∧ (shr t b).natAbs.log2 < 9000 := by
      refine ⟨shr_ne hb, ?_⟩
      have : Sz 8000 (shr t b) := by
        unfold Sz
        rw [shr_abs]
        have : Int.gcd t b ≤ b.natAbs := Nat.le_of_dvd (by omega) (Int.gcd_dvd_natAbs_right t b)
        exact Nat.lt_of_le_of_lt this hz
      exact this.log (by decide) (by decide)
    refine ite2 (fun hc => ?_) (fun hc => ?_)
    · have hn : b < 0 := by simpa using hc
      have e : (0 : Int) - ((Int.gcd t b : Nat) : Int) = shr t b := by unfold shr sg; rw [if_pos hn]; omega
      have c : ∀ i, CFd i ((0 : Int) - ((Int.gcd t b : Nat) : Int)) := fun i => by rw [e]; exact sgo
      refine ⟨_, rfl, _, _, rfl, rfl, ?_⟩
      refine ⟨_, rfl, _, rfl, _, _, rfl, rfl, c _, _, rfl, _, rfl, _, _, rfl, rfl, c _, sz2, fun p hp => ?_⟩
      refine k _ p (fun b o q => by rw [upd_ne (ne_of_none q hp)]; exact q) ?_ hp
      rw [upd_same]
      unfold frV low lowT lowB
      rw [← e]
    · have hn : ¬ b < 0 := by simpa using hc
      have e : ((Int.gcd t b : Nat) : Int) = shr t b := by unfold shr sg; rw [if_neg hn]; omega
      have c : ∀ i, CFd i ((Int.gcd t b : Nat) : Int) := fun i => by rw [e]; exact sgo
      refine ⟨_, rfl, _, rfl, _, _, rfl, rfl, c _, _, rfl, _, rfl, _, _, rfl, rfl, c _, sz2, fun p hp => ?_⟩
      refine k _ p (fun b o q => by rw [upd_ne (ne_of_none q hp)]; exact q) ?_ hp
      rw [upd_same]
      unfold frV low lowT lowB
      rw [← e]

abbrev s_plus_of : Stmt := top 21
abbrev N_plus_of : List Str := ["one", "other"]
abbrev P_plus_of : List Str := ["one", "other"]
theorem sc_plus_of : FnScope N_plus_of ["one", "other"] (defScope s_plus_of) := ⟨rfl, rfl, rfl, by decide +kernel, rfl, by decide +kernel, by decide +kernel⟩

def sp_plus_of (K : PySem.W.Frag) : Sp := fun vs H Q _ => ∃ (v u : V) (q r : Int × Int) (n m : Nat), vs = [v, u] ∧ FrAt K H v q ∧ FrAt K H u r ∧ OkQ n q ∧ OkQ m r ∧ n + m ≤ 8000 ∧ 0 < n ∧ 0 < m ∧ ∀ H' p, Same H H' → H' p = some (.tup (frV (addQ q r))) → H p = none → Q (.ref p) H'
theorem ok_plus_of (T : Txt K mg c) {f : Addr} {fd : FuncData} (F : L2.Fun K "plus_of" "plus_of" s_plus_of f fd) (h_lowest : Cal P w K mg base 2 "lowest" (sp_lowest K) []) : FnOk P w K mg base CX0 3 f fd ["one", "other"] (sp_plus_of K) := by
  refine F.ok sc_plus_of (fun vs H Q E h => ?_) (fun cdv A outer s H vs Q E hr h => ?_)
  · obtain ⟨v, u, q, r, n, m, rfl, _⟩ := h
    rfl
  · obtain ⟨v, u, q, r, n, m, rfl, ⟨pa, rfl, ha⟩, ⟨pb, rfl, hb⟩, oq, or, nm, n0, m0, k⟩ := h
    refine ⟨_, (pss_one (ps_ret (pe_c h_lowest hr (by decide) rfl (pa_cons (pe_op op_add (pe_op op_mulW (pe_ix ix_tup (pv 0) pe_int (fun _ _ => rfl)) (pe_ix ix_tup (pv 1) pe_int (fun _ _ => rfl))) (pe_op op_mulW (pe_ix ix_tup (pv 1) pe_int (fun _ _ => rfl)) (pe_ix ix_tup (pv 0) pe_int (fun _ _ => rfl)))) (pa_cons (pe_op op_mulW (pe_ix ix_tup (pv 0) pe_int (fun _ _ => rfl)) (pe_ix ix_tup (pv 1) pe_int (fun _ _ => rfl))) pa_nil))))), ?_⟩
    have ix0 : ∀ z : Int × Int, atI (frV z) 0 = some (V.int z.1) := fun z => rfl
    have ix1 : ∀ z : Int × Int, atI (frV z) 1 = some (V.int z.2) := fun z => rfl
    have ha := SqT.of (K := K) ha
    have hb := SqT.of (K := K) hb
    have c1 : CMulW q.1 r.2 := oq.t.cmul or.b n0 m0 (by omega)
    have c2 : CMulW r.1 q.2 := or.t.cmul oq.b m0 n0 (by omega)
    have c3 : CMulW q.2 r.2 := oq.b.cmul or.b n0 m0 (by omega)
    refine ⟨_, rfl, pa, _, _, _, rfl, rfl, ha, ix0 q, _, rfl, pb, _, _, _, rfl, rfl, hb, ix1 r, _, _, rfl, rfl, c1, _, rfl, pb, _, _, _, rfl, rfl, hb, ix0 r, _, rfl, pa, _, _, _, rfl, rfl, ha, ix1 q, _, _, rfl, rfl, c2, _, _, rfl, rfl,
      _, rfl, pa, _, _, _, rfl, rfl, ha, ix1 q, _, rfl, pb, _, _, _, rfl, rfl, hb, ix1 r, _, _, rfl, rfl, c3, ?_⟩
    exact ⟨(q.1 * r.2 + r.1 * q.2, q.2 * r.2), rfl, Int.ne_of_gt (Int.mul_pos oq.pos or.pos), (oq.b.mul or.b).mono (by omega), fun H' p sm hp hn => k H' p sm hp hn⟩

abbrev s_times_of : Stmt := top 22
abbrev N_times_of : List Str := ["one", "other"]
abbrev P_times_of : List Str := ["one", "other"]
theorem sc_times_of : FnScope N_times_of ["one", "other"] (defScope s_times_of) := ⟨rfl, rfl, rfl, by decide +kernel, rfl, by decide +kernel, by decide +kernel⟩

def sp_times_of (K : PySem.W.Frag) : Sp := fun vs H Q _ => ∃ (v u : V) (q r : Int × Int) (n m : Nat), vs = [v, u] ∧ FrAt K H v q ∧ FrAt K H u r ∧ OkQ n q ∧ OkQ m r ∧ n + m ≤ 8000 ∧ 0 < n ∧ 0 < m ∧ ∀ H' p, Same H H' → H' p = some (.tup (frV (mulQ q r))) → H p = none → Q (.ref p) H'
theorem ok_times_of (T : Txt K mg c) {f : Addr} {fd : FuncData} (F : L2.Fun K "times_of" "times_of" s_times_of f fd) (h_lowest : Cal P w K mg base 2 "lowest" (sp_lowest K) []) : FnOk P w K mg base CX0 3 f fd ["one", "other"] (sp_times_of K) := by
  refine F.ok sc_times_of (fun vs H Q E h => ?_) (fun cdv A outer s H vs Q E hr h => ?_)
  · obtain ⟨v, u, q, r, n, m, rfl, _⟩ := h
    rfl
  · obtain ⟨v, u, q, r, n, m, rfl, ⟨pa, rfl, ha⟩, ⟨pb, rfl, hb⟩, oq, or, nm, n0, m0, k⟩ := h
    refine ⟨_, (pss_one (ps_ret (pe_c h_lowest hr (by decide) rfl (pa_cons (pe_op op_mulW (pe_ix ix_tup (pv 0) pe_int (fun _ _ => rfl)) (pe_ix ix_tup (pv 1) pe_int (fun _ _ => rfl))) (pa_cons (pe_op op_mulW (pe_ix ix_tup (pv 0) pe_int (fun _ _ => rfl)) (pe_ix ix_tup (pv 1) pe_int (fun _ _ => rfl))) pa_nil))))), ?_⟩
    have ix0 : ∀ z : Int × Int, atI (frV z) 0 = some (V.int z.1) := fun z => rfl
    have ix1 : ∀ z : Int × Int, atI (frV z) 1 = some (V.int z.2) := fun z => rfl
    have ha := SqT.of (K := K) ha
    have hb := SqT.of (K := K) hb
    have c1 : CMulW q.1 r.1 := oq.t.cmul or.t n0 m0 (by omega)
    have c3 : CMulW q.2 r.2 := oq.b.cmul or.b n0 m0 (by omega)
    refine ⟨_, rfl, pa, _, _, _, rfl, rfl, ha, ix0 q, _, rfl, pb, _, _, _, rfl, rfl, hb, ix0 r, _, _, rfl, rfl, c1, _, rfl, pa, _, _, _, rfl, rfl, ha, ix1 q, _, rfl, pb, _, _, _, rfl, rfl, hb, ix1 r, _, _, rfl, rfl, c3, ?_⟩
    exact ⟨(q.1 * r.1, q.2 * r.2), rfl, Int.ne_of_gt (Int.mul_pos oq.pos or.pos), (oq.b.mul or.b).mono (by omega), fun H' p sm hp hn => k H' p sm hp hn⟩

end
end My

namespace My
open PySem PySem.Spec PyProof.Rows L2
open C8 (Cal pe_c pe_gc)
section
variable {c : Cs} {P : Program} {w : World} {K : PySem.W.Frag} {mg : Str → Option Value} {base : Heap}

abbrev s_told_by : Stmt := top 31
abbrev N_told_by : List Str := ["polynomial", "c", "b", "a"]
abbrev P_told_by : List Str := ["polynomial"]
theorem sc_told_by : FnScope N_told_by ["polynomial"] (defScope s_told_by) := ⟨rfl, rfl, rfl, by decide +kernel, rfl, by decide +kernel, by decide +kernel⟩

def sp_told_by (K : PySem.W.Frag) : Sp := fun vs H Q _ => ∃ (a : Addr) (ns : List Int), vs = [.ref a] ∧ SqL K H a (ns.map V.int) ∧ 2 ≤ ns.length ∧ ns.length ≤ 5 ∧ (∀ x ∈ ns, Bd 100 x) ∧ ∀ H', Same H H' → Q (.int (toldOf ns)) H'
theorem ok_told_by (T : Txt K mg c) {f : Addr} {fd : FuncData} (F : L2.Fun K "told_by" "told_by" s_told_by f fd) : FnOk P w K mg base CX0 1 f fd ["polynomial"] (sp_told_by K) := by
  refine F.ok sc_told_by (fun vs H Q E h => ?_) (fun cdv A outer s H vs Q E hr h => ?_)
  · obtain ⟨a, ns, rfl, _⟩ := h
    rfl
  · obtain ⟨p, ns, rfl, hS, l2, l5, sm, k⟩ := h
    refine ⟨_, (pss_cons (ps_if (pt_cmpR op_eq (pe_callB call_len_seq (by rfl) T.z_len (by decide +kernel) (pa_cons (pv 0) pa_nil)) pe_int (nomark _)) (pss_one (ps_ret pe_int)) pss_nil)
      (pss_cons (ps_if (pt_cmpR op_eq (pe_callB call_len_seq (by rfl) T.z_len (by decide +kernel) (pa_cons (pv 0) pa_nil)) pe_int (nomark _)) (pss_one (ps_ret (pe_op op_sub (pe_op op_mulW (pe_ix ix_list (pv 0) pe_int (fun _ _ => rfl)) (pe_ix ix_list (pv 0) pe_int (fun _ _ => rfl))) (pe_op op_mulW pe_int (pe_ix ix_list (pv 0) pe_int (fun _ _ => rfl)))))) pss_nil)
      (pss_cons (ps_asg (pe_slice sl_list (pv 0) po_none (po_some pe_int)) (pg_unl rfl (pgs_cons (pg_name (i := 1) sc_told_by.nd rfl (by first | exact Or.inl rfl | exact Or.inr rfl)) (pgs_cons (pg_name (i := 2) sc_told_by.nd rfl (by first | exact Or.inl rfl | exact Or.inr rfl)) (pgs_cons (pg_name (i := 3) sc_told_by.nd rfl (by first | exact Or.inl rfl | exact Or.inr rfl)) pgs_nil)))))
      (pss_cons (ps_if (pt_cmpR op_eq (pe_callB call_len_seq (by rfl) T.z_len (by decide +kernel) (pa_cons (pv 0) pa_nil)) pe_int (nomark _)) (pss_one (ps_ret (pe_op op_mulW (pv 1) (pe_op op_sub (pe_op op_mulW (pv 3) (pv 3)) (pe_op op_mulW pe_int (pv 1)))))) pss_nil)
      (pss_one (ps_ret (pe_op op_sub (pe_op op_sub (pe_op op_add (pe_op op_sub (pe_op op_mulW (pe_op op_mulW (pe_op op_mulW pe_int (pv 3)) (pv 2)) (pv 1)) (pe_op op_mulW (pe_op op_mulW (pe_op op_mulW (pe_op op_mulW pe_int (pv 3)) (pv 3)) (pv 3)) (pv 1))) (pe_op op_mulW (pe_op op_mulW (pe_op op_mulW (pv 3) (pv 3)) (pv 2)) (pv 2))) (pe_op op_mulW (pe_op op_mulW (pe_op op_mulW pe_int (pv 2)) (pv 2)) (pv 2))) (pe_op op_mulW (pe_op op_mulW pe_int (pv 1)) (pv 1))))))))), ?_⟩
    refine ⟨_, rfl, p, _, rfl, .inl hS, rfl, _, rfl, ?_⟩
    rcases ns with _ | ⟨c, _ | ⟨b, _ | ⟨a, _ | ⟨d, _ | ⟨e, _ | ⟨g, r⟩⟩⟩⟩⟩⟩
    · simp at l2
    · simp at l2
    · refine ite2 (fun hc => ?_) (fun hc => absurd (by simp) hc)
      exact k _ (Same.refl H)
    · have bc : Bd 100 c := sm _ (by simp)
      have bb : Bd 100 b := sm _ (by simp)
      refine ite2 (fun hc => absurd hc (by simp)) (fun hc => ?_)
      refine ⟨_, rfl, p, _, rfl, .inl hS, rfl, _, rfl, ?_⟩
      refine ite2 (fun hc => ?_) (fun hc => absurd (by simp) hc)
      refine ⟨_, rfl, p, _, _, _, rfl, rfl, hS, rfl, _, rfl, p, _, _, _, rfl, rfl, hS, rfl, _, _, rfl, rfl, bb.cm bb, _, rfl, p, _, _, _, rfl, rfl, hS, rfl, _, _, rfl, rfl, (bd_lit (n := 4)).cm bc, _, _, rfl, rfl, ?_⟩
      exact k _ (Same.refl H)
    · have bc : Bd 100 c := sm _ (by simp)
      have bb : Bd 100 b := sm _ (by simp)
      have ba : Bd 100 a := sm _ (by simp)
      refine ite2 (fun hc => absurd hc (by simp)) (fun hc => ?_)
      refine ⟨_, rfl, p, _, rfl, .inl hS, rfl, _, rfl, ?_⟩
      refine ite2 (fun hc => absurd hc (by simp)) (fun hc => ?_)
      refine ⟨_, rfl, _, rfl, p, _, rfl, hS, fun q hq => ?_⟩
      refine ⟨q, _, rfl, SqL.of upd_same, rfl, _, _, rfl, _, _, rfl, _, _, rfl, rfl, ?_⟩
      have hS' : SqL K (upd H q (.lst (cutV (List.map V.int [c, b, a, d]) none (some 3)))) p (List.map V.int [c, b, a, d]) := (same_new hq).seq hS
      refine ⟨_, rfl, p, _, rfl, .inl hS', rfl, _, rfl, ?_⟩
      refine ite2 (fun hc => absurd hc (by simp)) (fun hc => ?_)
      have b18 : Bd 18 18 := bd_lit
      have b4 : Bd 4 4 := bd_lit
      have b27 : Bd 27 27 := bd_lit
      refine ⟨_, rfl, _, _, rfl, rfl, b18.cm ba, _, rfl, _, _, rfl, rfl, (b18.mul ba).cm bb, _, rfl, _, _, rfl, rfl, ((b18.mul ba).mul bb).cm bc,
        _, rfl, _, _, rfl, rfl, b4.cm ba, _, rfl, _, _, rfl, rfl, (b4.mul ba).cm ba, _, rfl, _, _, rfl, rfl, ((b4.mul ba).mul ba).cm ba, _, rfl, _, _, rfl, rfl, (((b4.mul ba).mul ba).mul ba).cm bc, _, _, rfl, rfl,
        _, rfl, _, rfl, _, _, rfl, rfl, ba.cm ba, _, rfl, _, _, rfl, rfl, (ba.mul ba).cm bb, _, rfl, _, _, rfl, rfl, ((ba.mul ba).mul bb).cm bb, _, _, rfl, rfl,
        _, rfl, _, _, rfl, rfl, b4.cm bb, _, rfl, _, _, rfl, rfl, (b4.mul bb).cm bb, _, rfl, _, _, rfl, rfl, ((b4.mul bb).mul bb).cm bb, _, _, rfl, rfl,
        _, rfl, _, _, rfl, rfl, b27.cm bc, _, rfl, _, _, rfl, rfl, (b27.mul bc).cm bc, _, _, rfl, rfl, ?_⟩
      exact k _ (same_new hq)
    · have bc : Bd 100 c := sm _ (by simp)
      have ba : Bd 100 a := sm _ (by simp)
      refine ite2 (fun hc => absurd hc (by simp)) (fun hc => ?_)
      refine ⟨_, rfl, p, _, rfl, .inl hS, rfl, _, rfl, ?_⟩
      refine ite2 (fun hc => absurd hc (by simp)) (fun hc => ?_)
      refine ⟨_, rfl, _, rfl, p, _, rfl, hS, fun q hq => ?_⟩
      refine ⟨q, _, rfl, SqL.of upd_same, rfl, _, _, rfl, _, _, rfl, _, _, rfl, rfl, ?_⟩
      have hS' : SqL K (upd H q (.lst (cutV (List.map V.int [c, b, a, d, e]) none (some 3)))) p (List.map V.int [c, b, a, d, e]) := (same_new hq).seq hS
      refine ⟨_, rfl, p, _, rfl, .inl hS', rfl, _, rfl, ?_⟩
      refine ite2 (fun hc => ?_) (fun hc => absurd (by simp) hc)
      have b4 : Bd 4 4 := bd_lit
      refine ⟨_, rfl, _, rfl, _, rfl, _, _, rfl, rfl, ba.cm ba, _, rfl, _, _, rfl, rfl, b4.cm bc, _, _, rfl, rfl, _, _, rfl, rfl, bc.cm ((ba.mul ba).sub (b4.mul bc)), ?_⟩
      exact k _ (same_new hq)
    · simp at l5

end
end My

namespace My
open PySem PySem.Spec PyProof.Rows L2
open C8 (Cal pe_c pe_gc)
theorem atI_last {ns : List Int} (h : 0 < ns.length) : ∃ z, atI ns (-1) = some z := by
  have e : ixN ns.length (-1) = some (ns.length - 1) := by
    unfold ixN
    rw [if_neg (by decide), if_pos (by omega)]
    congr 1
    omega
  exact ⟨ns[ns.length - 1], by unfold atI; rw [e]; exact List.getElem?_eq_getElem (by omega)⟩
def firstBig : List Int → Option Nat
  | [] => none
  | x :: r => if 100 < x.natAbs then some 0 else (firstBig r).map (· + 1)
theorem fb_some : ∀ (ns : List Int) (i : Nat) (z : Int), ns[i]? = some z → 100 < z.natAbs → (∀ j y, j < i → ns[j]? = some y → y.natAbs ≤ 100) → firstBig ns = some i
  | [], i, z, h, _, _ => by simp at h
  | x :: r, 0, z, h, b, _ => by
    have e : x = z := Option.some.inj h
    subst e
    exact if_pos b
  | x :: r, i + 1, z, h, b, s => by
    have sx := s 0 x (by omega) rfl
    have ih := fb_some r i z h b fun j y hj hy => s (j + 1) y (by omega) hy
    show (if 100 < x.natAbs then some 0 else (firstBig r).map (· + 1)) = some (i + 1)
    rw [if_neg (by omega), ih]; rfl
theorem fb_none : ∀ (ns : List Int), (∀ y ∈ ns, y.natAbs ≤ 100) → firstBig ns = none
  | [], _ => rfl
  | x :: r, s => by
    have sx := s x (List.mem_cons_self ..)
    have ih := fb_none r fun y hy => s y (List.mem_cons_of_mem _ hy)
    show (if 100 < x.natAbs then some 0 else (firstBig r).map (· + 1)) = none
    rw [if_neg (by omega), ih]; rfl
/-- behind the first look: good?, the place at fault -/
def fault3 (ns : List Int) : Bool × Option Nat :=
  if atI ns (-1) ≠ some 1 then (false, some (ns.length - 1))
  else if ns.length = 5 ∧ ns[1]? ≠ some 0 then (false, some 1)
  else if ns.length = 5 ∧ ns[3]? ≠ some 0 then (false, some 3)
  else (decide (toldOf ns ≠ 0), none)
def faultOf (ns : List Int) : Bool × Option Nat :=
  if ns.length < 2 ∨ 5 < ns.length then (false, none)
  else match firstBig ns with
  | some k => (false, some k)
  | none => fault3 ns
theorem fault_len {ns : List Int} (h : ns.length < 2 ∨ 5 < ns.length) : faultOf ns = (false, none) := if_pos h
theorem fault_big {ns : List Int} {i : Nat} {z : Int} (h : ¬ (ns.length < 2 ∨ 5 < ns.length)) (hi : ns[i]? = some z) (b : 100 < z.natAbs) (s : ∀ j y, j < i → ns[j]? = some y → y.natAbs ≤ 100) : faultOf ns = (false, some i) := by
  unfold faultOf
  rw [if_neg h, fb_some ns i z hi b s]
theorem fault_small {ns : List Int} (h : ¬ (ns.length < 2 ∨ 5 < ns.length)) (s : ∀ y ∈ ns, y.natAbs ≤ 100) : faultOf ns = fault3 ns := by
  unfold faultOf
  rw [if_neg h, fb_none ns s]
theorem fb_all : ∀ (ns : List Int), firstBig ns = none → ∀ y ∈ ns, y.natAbs ≤ 100
  | [], _, y, hy => by cases hy
  | x :: r, h, y, hy => by
    have h' : (if 100 < x.natAbs then some 0 else (firstBig r).map (· + 1)) = none := h
    by_cases b : 100 < x.natAbs
    · rw [if_pos b] at h'; cases h'
    · rw [if_neg b] at h'
      have hr : firstBig r = none := by
        cases e : firstBig r with
        | none => rfl
        | some k => rw [e] at h'; cases h'
      rcases List.mem_cons.mp hy with rfl | hy
      · omega
      · exact fb_all r hr y hy
theorem good_of {ns : List Int} (h : (faultOf ns).1 = true) : GoodP ns := by
  unfold faultOf at h
  by_cases hl : ns.length < 2 ∨ 5 < ns.length
  · rw [if_pos hl] at h; cases h
  · rw [if_neg hl] at h
    cases e : firstBig ns with
    | some k => rw [e] at h; cases h
    | none =>
      rw [e] at h
      have sm := fb_all ns e
      have h : (fault3 ns).1 = true := h
      unfold fault3 at h
      by_cases c1 : atI ns (-1) ≠ some 1
      · rw [if_pos c1] at h; cases h
      · rw [if_neg c1] at h
        by_cases c2 : ns.length = 5 ∧ ns[1]? ≠ some 0
        · rw [if_pos c2] at h; cases h
        · rw [if_neg c2] at h
          by_cases c3 : ns.length = 5 ∧ ns[3]? ≠ some 0
          · rw [if_pos c3] at h; cases h
          · rw [if_neg c3] at h
            exact ⟨by omega, by omega, fun x hx => sm x hx, Classical.not_not.mp c1, fun l => Classical.not_not.mp fun z => c2 ⟨l, z⟩, fun l => Classical.not_not.mp fun z => c3 ⟨l, z⟩, of_decide_eq_true h⟩
def atV : Option Nat → V
  | some k => .int (k : Nat)
  | none => .non
section
variable {c : Cs} {P : Program} {w : World} {K : PySem.W.Frag} {mg : Str → Option Value} {base : Heap}
abbrev s_must_poly : Stmt := top 32
abbrev N_must_poly : List Str := ["polynomial", "many", "at", "number"]
abbrev P_must_poly : List Str := ["polynomial"]
theorem sc_must_poly : FnScope N_must_poly ["polynomial"] (defScope s_must_poly) := ⟨rfl, rfl, rfl, by decide +kernel, rfl, by decide +kernel, by decide +kernel⟩

def sp_must_poly (K : PySem.W.Frag) (c : Cs) : Sp := fun vs H Q E => ∃ (a : Addr) (ns : List Int), vs = [.ref a] ∧ SqL K H a (ns.map V.int) ∧ ((faultOf ns).1 = true → ∀ H', Same H H' → Q .non H') ∧
  ((faultOf ns).1 = false → ∀ d H', Same H H' → H d = none → H' d = some (.xd [("at", atV (faultOf ns).2)]) → E (.ref c.NoPoly) (some d) H')
theorem ok_must_poly (T : Txt K mg c) {f : Addr} {fd : FuncData} (F : L2.Fun K "must_poly" "must_poly" s_must_poly f fd) (h_told_by : Cal P w K mg base 1 "told_by" (sp_told_by K) []) (i_NoPoly : IniCal P w K mg base 1 "NoPoly" c.NoPoly "at" .non) : FnOk P w K mg base (L2.CX P w) 3 f fd P_must_poly (sp_must_poly K c) := by
  refine F.okX sc_must_poly (fun vs H Q E h => ?_) (fun cdv A outer s H vs Q E hr h => ?_)
  · obtain ⟨a, ns, rfl, _⟩ := h
    rfl
  · obtain ⟨p, ns, rfl, hS, k, kx⟩ := h
    have bad : ∀ at_ : Option Nat, faultOf ns = (false, at_) → ∀ d H', Same H H' → H d = none → H' d = some (.xd [("at", atV at_)]) → E (.ref c.NoPoly) (some d) H' := fun at_ e d H' sm n hd => by
      have h1 : (faultOf ns).1 = false := by rw [e]
      have h2 : (faultOf ns).2 = at_ := by rw [e]
      exact kx h1 d H' sm n (by rw [h2]; exact hd)
    refine ⟨_, (pss_cons (ps_set (i := 1) sc_must_poly.nd rfl (by first | exact Or.inl rfl | exact Or.inr rfl) (pe_callB call_len_seq (by rfl) T.z_len (by decide +kernel) (pa_cons (pv 0) pa_nil)))
      (pss_cons (ps_if (pt_not (pt_chain op_le op_le pe_int (pv 1) pe_int)) (pss_one (ps_raise rfl (takes_of rfl rfl rfl rfl) (pmk_np0 i_NoPoly hr (by decide) rfl))) pss_nil)
      (pss_cons (ps_for (passes_of rfl) rfl (pi_enum (by rfl) T.z_enumerate (pa_cons (pv 0) pa_nil)) (pg_tup rfl (pgs_cons (pg_name (i := 2) sc_must_poly.nd rfl (by first | exact Or.inl rfl | exact Or.inr rfl)) (pgs_cons (pg_name (i := 3) sc_must_poly.nd rfl (by first | exact Or.inl rfl | exact Or.inr rfl)) pgs_nil))) (pss_one (ps_if (pt_cmpR op_gt (pe_callB call_abs (by rfl) T.z_abs (by decide +kernel) (pa_cons (pv 3) pa_nil)) (pe_gc rfl T.mg_MOST) (nomark _)) (pss_one (ps_raise rfl (takes_of rfl rfl rfl rfl) (pmk_npK i_NoPoly hr (by decide) rfl (pk_cons (pv 2) pk_nil)))) pss_nil)))
      (pss_cons (ps_if (pt_cmpR op_ne (pe_ix ix_list (pv 0) (pe_un un_neg pe_int) (fun _ _ => rfl)) pe_int (nomark _)) (pss_one (ps_raise rfl (takes_of rfl rfl rfl rfl) (pmk_npK i_NoPoly hr (by decide) rfl (pk_cons (pe_op op_sub (pv 1) pe_int) pk_nil)))) pss_nil)
      (pss_cons (ps_for (passes_of rfl) rfl (pi_list (pe_lst (pa_cons pe_int (pa_cons pe_int pa_nil)))) (pg_name (i := 2) sc_must_poly.nd rfl (by first | exact Or.inl rfl | exact Or.inr rfl)) (pss_one (ps_if (PW.pt (pw_and (pt_cmpR op_eq (pv 1) pe_int (nomark _)) (pw_and1 (pt_cmpR op_ne (pe_ix ix_list (pv 0) (pv 2) (fun _ _ => rfl)) pe_int (nomark _))))) (pss_one (ps_raise rfl (takes_of rfl rfl rfl rfl) (pmk_npK i_NoPoly hr (by decide) rfl (pk_cons (pv 2) pk_nil)))) pss_nil)))
      (pss_one (ps_if (pt_cmpR op_eq (pe_c h_told_by hr (by decide) rfl (pa_cons (pv 0) pa_nil)) pe_int (nomark _)) (pss_one (ps_raise rfl (takes_of rfl rfl rfl rfl) (pmk_np0 i_NoPoly hr (by decide) rfl))) pss_nil))))))), ?_⟩
    refine ⟨_, rfl, p, _, rfl, .inl hS, ?_⟩
    have e0 : (List.map V.int ns).length = ns.length := List.length_map _
    refine ⟨_, rfl, _, _, rfl, rfl, _, rfl, ?_⟩
    refine ite2 (fun ha => ?_) (fun ha => ?_)
    · have ha' : 2 ≤ ns.length := by
        have := of_decide_eq_true ha
        rw [e0] at this
        omega
      refine ⟨_, _, rfl, rfl, _, rfl, ?_⟩
      refine ite2 (fun hb => ?_) (fun hb => ?_)
      · have hb' : 5 < ns.length := by
          have : ¬ (((List.map V.int ns).length : Nat) : Int) ≤ 5 := fun z => by rw [decide_eq_true z] at hb; cases hb
          rw [e0] at this
          omega
        exact fun d H' sm n hd => bad none (fault_len (.inr hb')) d H' sm n hd
      · have hb' : ns.length ≤ 5 := by
          have : (((List.map V.int ns).length : Nat) : Int) ≤ 5 := by
            refine Classical.byContradiction fun z => hb ?_
            rw [decide_eq_false z]; rfl
          rw [e0] at this
          omega
        have hl : ¬ (ns.length < 2 ∨ 5 < ns.length) := by omega
        refine ⟨_, rfl, p, _, rfl, hS, for_it walk_enum (fun i σ H' => (∃ o1 o2 : Option V, σ = [some (.ref p), some (.int ((List.map V.int ns).length : Nat)), o1, o2]) ∧ Same H H' ∧ ∀ j y, j < i → ns[j]? = some y → y.natAbs ≤ 100) ⟨⟨none, none, rfl⟩, Same.refl H, fun j y hj => by omega⟩ (fun i σ H' _ ⟨_, sm, _⟩ => sm.seq hS) ?_ ?_⟩
        · rintro i x σ H1 H' hi ⟨⟨o1, o2, rfl⟩, sm, bd⟩ ⟨t, y1, y2, rfl, hn, rfl, hy1, hy2⟩
          cases hy1
          obtain ⟨z, hz, rfl⟩ := item_of hy2
          refine ⟨t, _, rfl, SqT.of upd_same, rfl, _, _, rfl, _, _, rfl, rfl, ?_⟩
          refine ⟨_, rfl, _, rfl, _, _, rfl, rfl, _, rfl, ?_⟩
          refine ite2 (fun hc => ?_) (fun hc => ?_)
          · have big : 100 < z.natAbs := by
              have := of_decide_eq_true hc
              rw [abs_int] at this
              omega
            exact ⟨_, rfl, _, rfl, fun d H2 s2 n hd => bad (some i) (fault_big hl hz big bd) d H2 ((sm.trans (same_new hn)).trans s2) ((sm.trans (same_new hn)).free n) hd⟩
          · have sml : z.natAbs ≤ 100 := by
              have : ¬ (100 : Int) < (if z < 0 then -z else z) := fun q => hc (decide_eq_true q)
              rw [abs_int] at this
              omega
            refine ⟨⟨_, _, rfl⟩, sm.trans (same_new hn), fun j y hj hy => ?_⟩
            by_cases e : j = i
            · rw [e, hz] at hy
              cases hy
              exact sml
            · exact bd j y (by omega) hy
        · rintro σ H1 ⟨⟨o1, o2, rfl⟩, sm, bd⟩
          have all : ∀ y ∈ ns, y.natAbs ≤ 100 := fun y hy => by
            obtain ⟨j, hj, e⟩ := List.getElem_of_mem hy
            refine bd j y (by rw [List.length_map]; exact hj) ?_
            rw [List.getElem?_eq_getElem hj, e]
          have ef := fault_small hl all
          obtain ⟨z, hz⟩ := atI_last (ns := ns) (by omega)
          refine ⟨_, rfl, _, rfl, p, _, _, _, rfl, rfl, sm.seq hS, atI_map hz, rfl, _, rfl, ?_⟩
          refine ite2 (fun hc => ?_) (fun hc => ?_)
          · have z1 : z ≠ 1 := fun e => by rw [e] at hc; cases hc
            have f3 : faultOf ns = (false, some (ns.length - 1)) := by
              rw [ef]
              exact if_pos (fun q => z1 (by rw [hz] at q; exact Option.some.inj q))
            refine ⟨_, rfl, _, _, rfl, rfl, _, rfl, fun d H2 s2 n hd => bad _ f3 d H2 (sm.trans s2) (sm.free n) ?_⟩
            have e1 : atV (some (ns.length - 1)) = V.int ((((List.map V.int ns).length : Nat) : Int) - 1) := by
              show V.int ((ns.length - 1 : Nat) : Int) = _
              rw [e0]
              congr 1
              omega
            rw [e1]; exact hd
          · have z1 : z = 1 := by
              refine Classical.byContradiction fun q => hc ?_
              have : ¬ (V.int z = V.int 1) := fun w => q (by injection w)
              rw [decide_eq_false this]; rfl
            subst z1
            refine ⟨sz2, fun l hl_ => ?_⟩
            have sm1 : Same H (upd H1 l (.lst [V.int 1, V.int 3])) := sm.trans (same_new hl_)
            refine ⟨l, rfl, ⟨_, SqL.of upd_same⟩, for_list (K := K) (a := l) (xs := [V.int 1, V.int 3]) (fun i σ H' => (∃ o1 o2 : Option V, σ = [some (.ref p), some (.int ((List.map V.int ns).length : Nat)), o1, o2]) ∧ Same (upd H1 l (.lst [V.int 1, V.int 3])) H' ∧ (0 < i → ns.length = 5 → ns[1]? = some 0) ∧ (1 < i → ns.length = 5 → ns[3]? = some 0)) ⟨⟨_, _, rfl⟩, Same.refl _, by omega, by omega⟩ (fun i σ H' _ ⟨_, s2, _⟩ => s2.seq (SqL.of upd_same)) ?_ ?_⟩
            · rintro i x σ H' hi ⟨⟨o1, o2, rfl⟩, s2, g1, g3⟩
              have sm2 := sm1.trans s2
              refine ⟨_, rfl, rfl, _, rfl, ?_⟩
              have hix : (i = 0 ∧ x = .int 1) ∨ (i = 1 ∧ x = .int 3) := by
                rcases i with _ | _ | i
                · exact .inl ⟨rfl, (Option.some.inj hi).symm⟩
                · exact .inr ⟨rfl, (Option.some.inj hi).symm⟩
                · simp at hi
              refine ite2 (fun hc => ?_) (fun hc => ?_)
              · have h5 : ns.length = 5 := by
                  have := of_decide_eq_true hc
                  injection this with this
                  rw [e0] at this
                  omega
                have key : ∃ (j : Nat) (y : Int), x = V.int j ∧ ns[j]? = some y ∧ (y ≠ 0 → faultOf ns = (false, some j)) ∧ (y = 0 → (0 < i + 1 → ns.length = 5 → ns[1]? = some 0) ∧ (1 < i + 1 → ns.length = 5 → ns[3]? = some 0)) := by
                  have nl : ¬ (atI ns (-1) ≠ some 1) := fun q => q hz
                  rcases hix with ⟨rfl, rfl⟩ | ⟨rfl, rfl⟩
                  · refine ⟨1, ns[1], rfl, List.getElem?_eq_getElem (by omega), fun q => ?_, fun q => ⟨fun _ _ => ?_, fun q => by omega⟩⟩
                    · rw [ef]
                      unfold fault3
                      rw [if_neg nl, if_pos ⟨h5, fun w => q (by rw [List.getElem?_eq_getElem (by omega)] at w; exact Option.some.inj w)⟩]
                    · rw [List.getElem?_eq_getElem (by omega), q]
                  · refine ⟨3, ns[3], rfl, List.getElem?_eq_getElem (by omega), fun q => ?_, fun q => ⟨fun _ => g1 (by omega), fun _ _ => ?_⟩⟩
                    · rw [ef]
                      unfold fault3
                      rw [if_neg nl, if_neg (fun w => w.2 (g1 (by omega) h5)), if_pos ⟨h5, fun w => q (by rw [List.getElem?_eq_getElem (by omega)] at w; exact Option.some.inj w)⟩]
                    · rw [List.getElem?_eq_getElem (by omega), q]
                obtain ⟨j, y, rfl, hj, fy, fn⟩ := key
                refine ⟨_, rfl, _, rfl, p, _, _, _, rfl, rfl, sm2.seq hS, atI_map (atI_nat hj), rfl, _, rfl, ?_⟩
                refine ite2 (fun hc => ?_) (fun hc => ?_)
                · have y0 : y ≠ 0 := fun e => by rw [e] at hc; cases hc
                  exact ⟨_, rfl, _, rfl, fun d H2 s3 n hd => bad _ (fy y0) d H2 (sm2.trans s3) (sm2.free n) hd⟩
                · have y0 : y = 0 := by
                    refine Classical.byContradiction fun q => hc ?_
                    have : ¬ (V.int y = V.int 0) := fun w => q (by injection w)
                    rw [decide_eq_false this]; rfl
                  exact ⟨⟨_, _, rfl⟩, s2, (fn y0).1, (fn y0).2⟩
              · have h5 : ns.length ≠ 5 := fun e => hc (decide_eq_true (by rw [e0, e]; rfl))
                exact ⟨⟨_, _, rfl⟩, s2, fun _ e => absurd e h5, fun _ e => absurd e h5⟩
            · rintro σ H' ⟨⟨o1, o2, rfl⟩, s2, g1, g3⟩
              have sm2 := sm1.trans s2
              have f3 : faultOf ns = (decide (toldOf ns ≠ 0), none) := by
                rw [ef]
                unfold fault3
                rw [if_neg (fun q => q hz), if_neg (fun w => w.2 (g1 (by decide) w.1)), if_neg (fun w => w.2 (g3 (by decide) w.1))]
              refine ⟨_, rfl, p, ns, rfl, sm2.seq hS, ha', hb', all, fun H2 s3 => ?_⟩
              refine ⟨rfl, _, rfl, ?_⟩
              refine ite2 (fun hc => ?_) (fun hc => ?_)
              · have t0 : toldOf ns = 0 := by
                  have := of_decide_eq_true hc
                  injection this
                have f4 : faultOf ns = (false, none) := by
                  rw [f3, decide_eq_false (fun q => q t0)]
                exact fun d H3 s4 n hd => bad _ f4 d H3 ((sm2.trans s3).trans s4) ((sm2.trans s3).free n) hd
              · have t0 : toldOf ns ≠ 0 := fun e => hc (decide_eq_true (by rw [e]))
                refine k ?_ _ (sm2.trans s3)
                rw [f3]
                exact decide_eq_true t0
    · have ha' : ns.length < 2 := by
        have : ¬ (2 : Int) ≤ (((List.map V.int ns).length : Nat) : Int) := fun z => ha (decide_eq_true z)
        rw [e0] at this
        omega
      refine ⟨_, rfl, ?_⟩
      refine ite2 (fun _ => ?_) (fun hb => absurd (by first | rfl | (rw [eq_false_of_ne_true ha]; rfl)) hb)
      exact fun d H' sm n hd => bad none (fault_len (.inl ha')) d H' sm n hd
end
end My

namespace My
open PySem PySem.Spec PyProof.Rows L2
open C8 (Cal pe_c pe_gc)
section
variable {c : Cs} {P : Program} {w : World} {K : PySem.W.Frag} {mg : Str → Option Value} {base : Heap}

abbrev s_must_fraction : Stmt := top 33
abbrev N_must_fraction : List Str := ["fraction"]
abbrev P_must_fraction : List Str := ["fraction"]
theorem sc_must_fraction : FnScope N_must_fraction ["fraction"] (defScope s_must_fraction) := ⟨rfl, rfl, rfl, by decide +kernel, rfl, by decide +kernel, by decide +kernel⟩

def sp_must_fraction (K : PySem.W.Frag) (c : Cs) : Sp := fun vs H Q E => ∃ (v : V) (q : Int × Int), vs = [v] ∧ FrAt K H v q ∧ Sz 8000 q.2 ∧ (q.2 = 0 → E (.ref c.NoNumber) none H) ∧ (q.2 ≠ 0 → ∀ H' p, Same H H' → H' p = some (.tup (frV (low q))) → H p = none → Q (.ref p) H')
theorem ok_must_fraction (T : Txt K mg c) {f : Addr} {fd : FuncData} (F : L2.Fun K "must_fraction" "must_fraction" s_must_fraction f fd) (h_lowest : Cal P w K mg base 2 "lowest" (sp_lowest K) []) : FnOk P w K mg base (L2.CX P w) 3 f fd P_must_fraction (sp_must_fraction K c) := by
  refine F.okX sc_must_fraction (fun vs H Q E h => ?_) (fun cdv A outer s H vs Q E hr h => ?_)
  · obtain ⟨v, q, rfl, _⟩ := h
    rfl
  · obtain ⟨v, q, rfl, ⟨p, rfl, hp⟩, hz, k0, k⟩ := h
    refine ⟨_, (pss_cons (ps_if (pt_cmpR op_eq (pe_ix ix_tup (pv 0) pe_int (fun _ _ => rfl)) pe_int (nomark _)) (pss_one (ps_raise rfl (takes_of rfl rfl rfl rfl) (pmk_own PySem.F.excBase_ValueError T.x_NoNumber T.g_NoNumber T.k_NoNumber (raises_own T.b_NoNumber T.t_NoNumber) rfl))) pss_nil)
      (pss_one (ps_ret (pe_c h_lowest hr (by decide) rfl (pa_cons (pe_ix ix_tup (pv 0) pe_int (fun _ _ => rfl)) (pa_cons (pe_ix ix_tup (pv 0) pe_int (fun _ _ => rfl)) pa_nil)))))), ?_⟩
    have ix0 : ∀ z : Int × Int, atI (frV z) 0 = some (V.int z.1) := fun z => rfl
    have ix1 : ∀ z : Int × Int, atI (frV z) 1 = some (V.int z.2) := fun z => rfl
    have hp := SqT.of (K := K) hp
    refine ⟨_, rfl, p, _, _, _, rfl, rfl, hp, ix1 q, rfl, _, rfl, ?_⟩
    refine ite2 (fun hc => ?_) (fun hc => ?_)
    · have := of_decide_eq_true hc
      injection this with this
      exact k0 this
    · have hb : q.2 ≠ 0 := fun e => hc (decide_eq_true (by rw [e]))
      refine ⟨_, rfl, p, _, _, _, rfl, rfl, hp, ix0 q, _, rfl, p, _, _, _, rfl, rfl, hp, ix1 q, ?_⟩
      exact ⟨q, rfl, hb, hz, k hb⟩

/-- a polynomial's worth, from the greatest power on -/
def worthQ (ns : List Int) (by_ : Int × Int) : Int × Int := ns.reverse.foldl (fun f n => addQ (mulQ f by_) (n, 1)) (0, 1)
end
end My

namespace My
open PySem PySem.Spec PyProof.Rows L2
open C8 (Cal pe_c pe_gc)
section
variable {c : Cs} {P : Program} {w : World} {K : PySem.W.Frag} {mg : Str → Option Value} {base : Heap}

abbrev s_worth : Stmt := top 34
abbrev N_worth : List Str := ["polynomial", "fraction", "by", "found", "number"]
abbrev P_worth : List Str := ["polynomial", "fraction"]
theorem sc_worth : FnScope N_worth ["polynomial", "fraction"] (defScope s_worth) := ⟨rfl, rfl, rfl, by decide +kernel, rfl, by decide +kernel, by decide +kernel⟩

def sp_worth (K : PySem.W.Frag) (c : Cs) : Sp := fun vs H Q E => ∃ (a : Addr) (v : V) (ns : List Int) (q : Int × Int), vs = [.ref a, v] ∧ SqL K H a (ns.map V.int) ∧ FrAt K H v q ∧ Sz 300 q.1 ∧ Sz 300 q.2 ∧
  ((faultOf ns).1 = false → ∀ d H', Same H H' → H d = none → H' d = some (.xd [("at", atV (faultOf ns).2)]) → E (.ref c.NoPoly) (some d) H') ∧
  ((faultOf ns).1 = true → q.2 = 0 → ∀ H', Same H H' → E (.ref c.NoNumber) none H') ∧
  ((faultOf ns).1 = true → q.2 ≠ 0 → ∀ H' u, Same H H' → FrAt K H' u (worthQ ns (low q)) → Q u H')
theorem ok_worth (T : Txt K mg c) {f : Addr} {fd : FuncData} (F : L2.Fun K "worth" "worth" s_worth f fd) (h_must_poly : CalX P w K mg base 3 "must_poly" (sp_must_poly K c)) (h_must_fraction : CalX P w K mg base 3 "must_fraction" (sp_must_fraction K c))
    (h_plus_of : Cal P w K mg base 3 "plus_of" (sp_plus_of K) []) (h_times_of : Cal P w K mg base 3 "times_of" (sp_times_of K) []) : FnOk P w K mg base (L2.CX P w) 4 f fd P_worth (sp_worth K c) := by
  refine F.okX sc_worth (fun vs H Q E h => ?_) (fun cdv A outer s H vs Q E hr h => ?_)
  · obtain ⟨a, v, ns, q, rfl, _⟩ := h
    rfl
  · obtain ⟨a, v, ns, q, rfl, hS, ⟨pv_, rfl, hv⟩, hz1, hz2, kx, k0, k⟩ := h
    refine ⟨_, (pss_cons (ps_expr (pe_cS h_must_poly hr (by decide) rfl (fun σ => passAt (takes_of rfl rfl rfl rfl) σ) (pa_cons (pv 0) pa_nil)))
      (pss_cons (ps_set (i := 2) sc_worth.nd rfl (by first | exact Or.inl rfl | exact Or.inr rfl) (pe_cS h_must_fraction hr (by decide) rfl (fun σ => passAt (takes_of rfl rfl rfl rfl) σ) (pa_cons (pv 1) pa_nil)))
      (pss_cons (ps_set (i := 3) sc_worth.nd rfl (by first | exact Or.inl rfl | exact Or.inr rfl) (pe_tup (pa_cons pe_int (pa_cons pe_int pa_nil))))
      (pss_cons (ps_for (passes_of rfl) rfl (pi_list (pe_revL (pv 0))) (pg_name (i := 4) sc_worth.nd rfl (by first | exact Or.inl rfl | exact Or.inr rfl)) (pss_one (ps_set (i := 3) sc_worth.nd rfl (by first | exact Or.inl rfl | exact Or.inr rfl) (pe_c h_plus_of hr (by decide) rfl (pa_cons (pe_c h_times_of hr (by decide) rfl (pa_cons (pv 3) (pa_cons (pv 2) pa_nil))) (pa_cons (pe_tup (pa_cons (pv 4) (pa_cons pe_int pa_nil))) pa_nil))))))
      (pss_one (ps_ret (pv 3))))))), ?_⟩
    refine ⟨_, rfl, a, ns, rfl, hS, fun g => fun H1 s1 => ?_, fun g d H1 s1 n hd => kx g d H1 s1 n hd⟩
    refine ⟨_, rfl, _, q, rfl, ⟨pv_, rfl, s1 _ _ hv⟩, hz2.mono (by decide), fun e => k0 g e H1 s1, fun hb H2 pb s2 hpb _ => ?_⟩
    have k := k g hb
    have G := good_of g
    have s12 := s1.trans s2
    refine ⟨sz2, fun pf hf => ?_⟩
    have s3 := s12.trans (same_new (o := .tup [V.int 0, V.int 1]) hf)
    refine ⟨_, rfl, a, _, rfl, s3.seq hS, fun l hl => ?_⟩
    have s4 := s3.trans (same_new (o := .lst (List.map V.int ns).reverse) hl)
    have er : (List.map V.int ns).reverse = List.map V.int ns.reverse := by rw [List.map_reverse]
    have hby : FrAt K H2 (.ref pb) (low q) := FrAt.new hpb
    have oby : OkQ 300 (low q) := low_ok hb hz1 hz2
    have gl : ns.reverse.length ≤ 5 := by rw [List.length_reverse]; exact G.l5
    refine ⟨l, rfl, ⟨_, SqL.of upd_same⟩, for_list (K := K) (a := l) (xs := List.map V.int ns.reverse) (fun i σ H' => ∃ (o : Option V) (p : Addr), σ = [some (.ref a), some (.ref pv_), some (.ref pb), some (.ref p), o] ∧ Same (upd (upd H2 pf (.tup [V.int 0, V.int 1])) l (.lst (List.map V.int ns).reverse)) H' ∧
      FrAt K H' (.ref p) ((ns.reverse.take i).foldl (fun f n => addQ (mulQ f (low q)) (n, 1)) (0, 1)) ∧ OkQ (1 + 400 * i) ((ns.reverse.take i).foldl (fun f n => addQ (mulQ f (low q)) (n, 1)) (0, 1))) ?_ ?_ ?_ ?_⟩
    · refine ⟨none, pf, rfl, Same.refl _, FrAt.mono (FrAt.new upd_same) (same_new hl), ok_01⟩
    · rintro i σ H' _ ⟨_, _, _, sm, _⟩
      refine sm.seq (SqL.of ?_)
      rw [upd_same, er]
    · rintro i x σ H' hi ⟨o, p, rfl, sm, hp, op⟩
      obtain ⟨z, hz, rfl⟩ := item_of hi
      have hil : i < 5 := Nat.lt_of_lt_of_le (List.getElem?_eq_some_iff.mp hz).1 gl
      have bz : Bd 100 z := G.sm z (List.mem_reverse.mp (List.mem_of_getElem? hz))
      have sB := ((same_new (o := .tup [V.int 0, V.int 1]) hf).trans (same_new (o := .lst (List.map V.int ns).reverse) hl)).trans sm
      refine ⟨_, rfl, _, rfl, _, _, _, _, _, _, rfl, hp, hby.mono sB, op, oby, by omega, by omega, by decide, fun H3 p3 s5 hp3 hn3 => ?_⟩
      refine ⟨_, rfl, sz2, fun p4 hp4 => ?_⟩
      refine ⟨_, _, _, (z, 1), _, 10, rfl, (FrAt.new hp3).mono (same_new hp4), FrAt.new upd_same, mul_ok op oby, ok_n1 bz (by decide), by omega, by omega, by decide, fun H5 p5 s6 hp5 hn5 => ?_⟩
      refine ⟨_, p5, rfl, (sm.trans s5).trans ((same_new hp4).trans s6), ?_, ?_⟩
      · rw [take_more hz, List.foldl_append]
        exact FrAt.new hp5
      · rw [take_more hz, List.foldl_append]
        exact (add_ok (mul_ok op oby) (ok_n1 (b := 10) bz (by decide))).mono (by omega)
    · rintro σ H' ⟨o, p, rfl, sm, hp, op⟩
      rw [List.length_map, List.take_of_length_le (Nat.le_refl _)] at hp
      exact ⟨_, rfl, k _ _ (s4.trans sm) hp⟩
end
end My

namespace My
open PySem PySem.Spec PyProof.Rows L2
open C8 (Cal pe_c pe_gc)
section
variable {c : Cs} {P : Program} {w : World} {K : PySem.W.Frag} {mg : Str → Option Value} {base : Heap}
theorem cast_lt {a b : Nat} : ((a : Nat) : Int) < (b : Nat) ↔ a < b := Int.ofNat_lt
theorem cast_sq (x : Nat) : ((x : Nat) : Int) * (x : Nat) = ((x * x : Nat) : Int) := (Int.natCast_mul x x).symm
theorem fdiv_nat (a b : Nat) : Int.fdiv (a : Nat) (b : Nat) = ((a / b : Nat) : Int) := by
  rw [Int.fdiv_eq_ediv_of_nonneg _ (by omega)]; rfl
/-- a whole number of some size as one of Nat -/
theorem nat_of {n : Int} (h : 0 ≤ n) : ∃ m : Nat, n = (m : Nat) := ⟨n.toNat, by omega⟩
theorem log_small {x : Int} (h : x.natAbs < 2 ^ 60) : x.natAbs.log2 < 9000 := by
  by_cases z : x.natAbs = 0
  · rw [z]; decide
  · have := (Nat.log2_lt z).mpr h; omega

abbrev s_root_whole : Stmt := top 29
abbrev N_root_whole : List Str := ["number", "found"]
abbrev P_root_whole : List Str := ["number"]
theorem sc_root_whole : FnScope N_root_whole ["number"] (defScope s_root_whole) := ⟨rfl, rfl, rfl, by decide +kernel, rfl, by decide +kernel, by decide +kernel⟩

/-- whole roots: told where there is one, None where there is none -/
def sp_root : Sp := fun vs H Q _ => ∃ n : Int, vs = [.int n] ∧ n < 2 ^ 58 ∧ (∀ r : Nat, n = (r : Int) * r → Q (.int r) H) ∧ ((¬ ∃ r : Int, n = r * r) → Q .non H)
theorem no_root_neg {n : Int} (h : n < 0) : ¬ ∃ r : Int, n = r * r := fun ⟨r, e⟩ => by
  have : 0 ≤ r * r := by
    rcases Int.le_total 0 r with z | z
    · exact Int.mul_nonneg z z
    · exact Int.mul_nonneg_of_nonpos_of_nonpos z z
  omega
theorem no_root_nat {m : Nat} (h : ¬ ∃ r : Nat, m = r * r) : ¬ ∃ r : Int, (m : Int) = r * r := fun ⟨r, e⟩ => h ⟨r.natAbs, by
  have := congrArg Int.natAbs e
  rw [Int.natAbs_mul] at this
  simpa using this⟩
theorem ok_root_whole (T : Txt K mg c) {f : Addr} {fd : FuncData} (F : L2.Fun K "root_whole" "root_whole" s_root_whole f fd) : FnOk P w K mg base CX0 1 f fd P_root_whole sp_root := by
  refine F.ok sc_root_whole (fun vs H Q E h => ?_) (fun cdv A outer s H vs Q E hr h => ?_)
  · obtain ⟨n, rfl, _⟩ := h
    rfl
  · obtain ⟨n, rfl, hn, kY, kN⟩ := h
    refine ⟨_, (pss_cons (ps_if (pt_cmpR op_lt (pv 0) pe_int (nomark _)) (pss_one (ps_ret pe_non)) pss_nil)
      (pss_cons (ps_set (i := 1) sc_root_whole.nd rfl (by first | exact Or.inl rfl | exact Or.inr rfl) (pe_op op_shl pe_int (pe_op op_fdivA (pe_op op_add (pe_bits (pv 0)) pe_int) pe_int)))
      (pss_cons (ps_while PassesOwn.never (pt_cmpR op_gt (pe_op op_mulW (pv 1) (pv 1)) (pv 0) (nomark _)) (pss_one (ps_set (i := 1) sc_root_whole.nd rfl (by first | exact Or.inl rfl | exact Or.inr rfl) (pe_op op_fdivA (pe_op op_add (pv 1) (pe_op op_fdivA (pv 0) (pv 1))) pe_int))))
      (pss_cons (ps_if (pt_cmpR op_eq (pe_op op_mulW (pv 1) (pv 1)) (pv 0) (nomark _)) (pss_one (ps_ret (pv 1))) pss_nil)
      (pss_one (ps_ret pe_non)))))), ?_⟩
    refine ⟨_, rfl, _, _, rfl, rfl, _, rfl, ?_⟩
    refine ite2 (fun hc => ?_) (fun hc => ?_)
    · exact kN (no_root_neg (of_decide_eq_true hc))
    · have n0 : 0 ≤ n := by
        have : ¬ n < 0 := fun z => hc (decide_eq_true z)
        omega
      obtain ⟨m, rfl⟩ := nat_of n0
      have hm : m < 2 ^ 58 := by omega
      refine ⟨_, rfl, _, rfl, _, _, rfl, rfl, _, _, rfl, rfl, ⟨(show (2 : Int) ≠ 0 by decide), (show (2 : Int).natAbs.log2 < 9000 by decide +kernel)⟩, ?_⟩
      obtain ⟨bits, hbits⟩ : ∃ bits : Nat, bits = Builtin.Int.intBits (m : Nat) := ⟨_, rfl⟩
      have hb1 : m < 2 ^ bits := by
        rw [hbits]
        unfold Builtin.Int.intBits
        split
        · rename_i z
          have : m = 0 := by
            have := eq_of_beq z
            omega
          rw [this]; decide
        · exact Nat.lt_log2_self
      have hb2 : bits ≤ 58 := by
        rw [hbits]
        unfold Builtin.Int.intBits
        split
        · omega
        · rename_i z
          have nz : m ≠ 0 := fun e => z (by rw [e]; rfl)
          have := (Nat.log2_lt nz).mpr hm
          show m.log2 + 1 ≤ 58
          omega
      have ej : Int.fdiv (((Builtin.Int.intBits (m : Nat) : Nat) : Int) + 1) 2 = (((bits + 1) / 2 : Nat) : Int) := by
        rw [← hbits]
        exact fdiv_nat (bits + 1) 2
      have ej' : (1 : Int) * 2 ^ (Int.fdiv (((Builtin.Int.intBits (m : Nat) : Nat) : Int) + 1) 2).toNat = ((2 ^ ((bits + 1) / 2) : Nat) : Int) := by
        rw [ej, Int.one_mul]
        show (2 : Int) ^ ((bits + 1) / 2) = _
        rw [Int.natCast_pow]; rfl
      refine ⟨1, _, rfl, rfl, ⟨?_, ?_, (by decide)⟩, ?_⟩
      · rw [ej]; omega
      · rw [ej]; omega
      have st : m < (2 ^ ((bits + 1) / 2) + 1) * (2 ^ ((bits + 1) / 2) + 1) := by
        have h1 : 2 ^ bits ≤ 2 ^ ((bits + 1) / 2) * 2 ^ ((bits + 1) / 2) := by
          rw [← Nat.pow_add]
          exact Nat.pow_le_pow_right (by decide) (by omega)
        have h2 : 2 ^ ((bits + 1) / 2) * 2 ^ ((bits + 1) / 2) ≤ (2 ^ ((bits + 1) / 2) + 1) * (2 ^ ((bits + 1) / 2) + 1) := Nat.mul_le_mul (by omega) (by omega)
        omega
      have x0 : 2 ^ ((bits + 1) / 2) ≤ 2 ^ 30 := Nat.pow_le_pow_right (by decide) (by omega)
      have xp : 0 < 2 ^ ((bits + 1) / 2) := Nat.pow_pos (by decide)
      refine while_by (fun σ H' => H' = H ∧ ∃ x : Nat, σ = [some (.int (m : Nat)), some (.int (x : Nat))] ∧ m < (x + 1) * (x + 1) ∧ x ≤ 2 ^ 30) (fun σ _ => match σ with | [_, some (.int y)] => y.toNat | _ => 0) ⟨rfl, 2 ^ ((bits + 1) / 2), ?_, st, x0⟩ ?_ ?_
      · show [some (V.int (m : Nat)), some (V.int (1 * 2 ^ (Int.fdiv (((Builtin.Int.intBits (m : Nat) : Nat) : Int) + 1) 2).toNat))] = _
        rw [ej']
      · rintro σ H' ⟨rfl, x, rfl, hx, xs⟩
        have bx : Bd (2 ^ 30) (x : Nat) := by unfold Bd; omega
        refine ⟨_, rfl, _, rfl, _, _, rfl, rfl, bx.cm bx, _, rfl, _, _, rfl, rfl, _, rfl, ?_⟩
        refine ite2 (fun hc => ?_) (fun hc => ?_)
        · have hlt : m < x * x := by
            have := of_decide_eq_true hc
            rw [cast_sq] at this
            exact cast_lt.mp this
          have xpos : 0 < x := by
            rcases Nat.eq_zero_or_pos x with z | z
            · rw [z] at hlt; omega
            · exact z
          refine ⟨_, rfl, _, rfl, _, rfl, _, _, rfl, rfl, ⟨(show ((x : Nat) : Int) ≠ 0 by omega), log_small (by show x < 2 ^ 60; omega)⟩, _, _, rfl, rfl, _, _, rfl, rfl, ⟨(show (2 : Int) ≠ 0 by decide), (show (2 : Int).natAbs.log2 < 9000 by decide +kernel)⟩, ?_⟩
          have e1 : Int.fdiv (((x : Nat) : Int) + Int.fdiv (m : Nat) (x : Nat)) 2 = (((x + m / x) / 2 : Nat) : Int) := by
            rw [fdiv_nat]
            exact fdiv_nat (x + m / x) 2
          have less := newton_less xpos hlt
          refine ⟨⟨rfl, (x + m / x) / 2, ?_, newton xpos, by omega⟩, ?_⟩
          · show [some (V.int (m : Nat)), some (V.int (Int.fdiv (((x : Nat) : Int) + Int.fdiv (m : Nat) (x : Nat)) 2))] = _
            rw [e1]
          · show (Int.fdiv (((x : Nat) : Int) + Int.fdiv (m : Nat) (x : Nat)) 2).toNat < x
            rw [e1]; omega
        · have hge : x * x ≤ m := by
            have : ¬ ((m : Nat) : Int) < ((x : Nat) : Int) * (x : Nat) := fun z => hc (decide_eq_true z)
            rw [cast_sq] at this
            omega
          refine ⟨_, rfl, _, rfl, _, _, rfl, rfl, bx.cm bx, _, rfl, rfl, _, rfl, ?_⟩
          refine ite2 (fun hc2 => ?_) (fun hc2 => ?_)
          · have e : ((x : Nat) : Int) * (x : Nat) = (m : Nat) := by
              have := of_decide_eq_true hc2
              injection this
            exact ⟨_, rfl, kY x e.symm⟩
          · refine kN (no_root_nat fun ⟨r, e⟩ => hc2 (decide_eq_true ?_))
            have := root_is hge hx e
            subst this
            show V.int (((x : Nat) : Int) * (x : Nat)) = V.int (m : Nat)
            rw [cast_sq, e]
      · rintro σ H Q Q' hq ⟨v, h1, v2, h2, i, j, e1, e2, e3, v3, h3, i2, j2, e4, e5, k, e6, h4⟩
        exact ⟨v, h1, v2, h2, i, j, e1, e2, e3, v3, h3, i2, j2, e4, e5, k, e6, hq _ _ h4⟩
end
end My
namespace My
open PySem PySem.Spec PyProof.Rows L2
open C8 (Cal pe_c pe_gc)
section
variable {c : Cs} {P : Program} {w : World} {K : PySem.W.Frag} {mg : Str → Option Value} {base : Heap}
theorem bi_le {n f found rest : Nat} (h : BI n f found rest) (n0 : 0 < n) : 0 < found ∧ found ≤ n ∧ rest ≤ n ∧ found * rest ≤ n := by
  obtain ⟨k, e⟩ := h.eq
  have p1 : 0 < found * rest := by
    rcases Nat.eq_zero_or_pos (found * rest) with z | z
    · rw [z, Nat.zero_mul] at e; omega
    · exact z
  have p2 : 0 < k * k := by
    rcases Nat.eq_zero_or_pos (k * k) with z | z
    · rw [z, Nat.mul_zero] at e; omega
    · exact z
  have f0 : 0 < found := Nat.pos_of_mul_pos_right p1
  have l1 : found * rest ≤ n := by rw [e]; exact Nat.le_mul_of_pos_right _ p2
  exact ⟨f0, Nat.le_trans (Nat.le_mul_of_pos_right _ h.r0) l1, Nat.le_trans (Nat.le_mul_of_pos_left _ f0) l1, l1⟩
theorem fmod_nat (a b : Nat) : Int.fmod (a : Nat) (b : Nat) = ((a % b : Nat) : Int) := by
  rw [Int.fmod_eq_emod_of_nonneg _ (by omega)]; rfl
theorem ediv_nat (a b : Nat) : ((a : Nat) : Int) / ((b : Nat) : Int) = ((a / b : Nat) : Int) := rfl
theorem cast_mul (x y : Nat) : ((x : Nat) : Int) * (y : Nat) = ((x * y : Nat) : Int) := (Int.natCast_mul x y).symm
/-- the sign of a number other than 0 -/
def sgn (n : Int) : Int := if n < 0 then -1 else 1
theorem sgn_abs (n : Int) : n = sgn n * (n.natAbs : Int) := by
  unfold sgn
  split <;> omega
theorem sgn_natAbs (n : Int) : (sgn n).natAbs = 1 := by
  unfold sgn
  split <;> rfl
theorem bare_of_abs {n : Int} {b k : Nat} (b0 : 0 < b) (sb : SF b) (e : n.natAbs = b * (k * k)) : Bare (sgn n * (b : Nat)) n := by
  have ea : (sgn n * (b : Nat)).natAbs = b := by rw [Int.natAbs_mul, sgn_natAbs, Nat.one_mul]; rfl
  refine ⟨fun z => ?_, by rw [ea]; exact sb, (k : Nat), ?_⟩
  · rw [z] at ea
    have : (0 : Int).natAbs = 0 := rfl
    omega
  · conv => lhs; rw [sgn_abs n, e]
    rw [Int.natCast_mul, Int.natCast_mul, Int.mul_assoc]
abbrev s_bare_of : Stmt := top 30
abbrev N_bare_of : List Str := ["number", "found", "rest", "factor"]
abbrev P_bare_of : List Str := ["number"]
theorem sc_bare_of : FnScope N_bare_of ["number"] (defScope s_bare_of) := ⟨rfl, rfl, rfl, by decide +kernel, rfl, by decide +kernel, by decide +kernel⟩

def sp_bare_of : Sp := fun vs H Q _ => ∃ n : Int, vs = [.int n] ∧ n ≠ 0 ∧ Bd (10 ^ 13) n ∧ ∀ b : Int, Bare b n → Q (.int b) H
theorem ok_bare_of (T : Txt K mg c) {f : Addr} {fd : FuncData} (F : L2.Fun K "bare_of" "bare_of" s_bare_of f fd) (h_root_whole : Cal P w K mg base 1 "root_whole" sp_root []) : FnOk P w K mg base CX0 2 f fd P_bare_of sp_bare_of := by
  refine F.ok sc_bare_of (fun vs H Q E h => ?_) (fun cdv A outer s H vs Q E hr h => ?_)
  · obtain ⟨n, rfl, _⟩ := h
    rfl
  · obtain ⟨n, rfl, n0, hn, k⟩ := h
    refine ⟨_, (pss_cons (ps_set (i := 1) sc_bare_of.nd rfl (by first | exact Or.inl rfl | exact Or.inr rfl) pe_int)
      (pss_cons (ps_if (pt_cmpR op_lt (pv 0) pe_int (nomark _)) (pss_one (ps_set (i := 1) sc_bare_of.nd rfl (by first | exact Or.inl rfl | exact Or.inr rfl) (pe_un un_neg pe_int))) pss_nil)
      (pss_cons (ps_set (i := 2) sc_bare_of.nd rfl (by first | exact Or.inl rfl | exact Or.inr rfl) (pe_callB call_abs (by rfl) T.z_abs (by decide +kernel) (pa_cons (pv 0) pa_nil)))
      (pss_cons (ps_set (i := 3) sc_bare_of.nd rfl (by first | exact Or.inl rfl | exact Or.inr rfl) pe_int)
      (pss_cons (ps_while PassesOwn.never (pt_cmpR op_le (pe_op op_mulW (pe_op op_mulW (pv 3) (pv 3)) (pv 3)) (pv 2) (nomark _)) (pss_cons (ps_while PassesOwn.never (pt_cmpR op_eq (pe_op op_modN (pv 2) (pe_op op_mulW (pv 3) (pv 3))) pe_int (nomark _)) (pss_one (ps_aug (i := 2) sc_bare_of.nd rfl (by first | exact Or.inl rfl | exact Or.inr rfl) (pe_op op_mulW (pv 3) (pv 3)) ip_fdiv)))
      (pss_cons (ps_if (pt_cmpR op_eq (pe_op op_modN (pv 2) (pv 3)) pe_int (nomark _)) (pss_cons (ps_aug (i := 2) sc_bare_of.nd rfl (by first | exact Or.inl rfl | exact Or.inr rfl) (pv 3) ip_fdiv)
      (pss_one (ps_aug (i := 1) sc_bare_of.nd rfl (by first | exact Or.inl rfl | exact Or.inr rfl) (pv 3) ip_mul))) pss_nil)
      (pss_one (ps_aug (i := 3) sc_bare_of.nd rfl (by first | exact Or.inl rfl | exact Or.inr rfl) pe_int ip_add)))))
      (pss_cons (ps_if (pt_cmpR op_isN (pe_c h_root_whole hr (by decide) rfl (pa_cons (pv 2) pa_nil)) pe_non (nomark _)) (pss_one (ps_aug (i := 1) sc_bare_of.nd rfl (by first | exact Or.inl rfl | exact Or.inr rfl) (pv 2) ip_mul)) pss_nil)
      (pss_one (ps_ret (pv 1))))))))), ?_⟩
    have hN : n.natAbs ≤ 10 ^ 13 := hn
    have hN0 : 0 < n.natAbs := by omega
    have fits : ∀ {f fN r : Nat}, BI n.natAbs f fN r → fN ≤ 10 ^ 13 ∧ r ≤ 10 ^ 13 ∧ fN * r ≤ 10 ^ 13 := fun h => by
      have := bi_le h hN0
      omega
    have bs : Bd 1 (sgn n) := by unfold Bd; rw [sgn_natAbs]; omega
    refine ⟨_, rfl, _, _, rfl, rfl, _, rfl, ?_⟩
    refine ite2 (fun hc => ?neg) (fun hc => ?pos)
    case' neg =>
      have e : sgn n = -1 := if_pos (of_decide_eq_true hc)
      refine ⟨_, rfl, ?_⟩
    case' pos =>
      have e : sgn n = 1 := if_neg (fun z => hc (decide_eq_true z))
    all_goals
      refine ⟨_, rfl, _, rfl, ?_⟩
      refine while_by (fun σ H' => H' = H ∧ ∃ f fN r : Nat, σ = [some (.int n), some (.int (sgn n * (fN : Nat))), some (.int (r : Nat)), some (.int (f : Nat))] ∧ 2 ≤ f ∧ f ≤ 30000 ∧ BI n.natAbs f fN r) (fun σ _ => match σ with | [_, _, _, some (.int y)] => 40000 - y.toNat | _ => 0) ⟨rfl, 2, 1, n.natAbs, ?_, by omega, by omega, bi_start hN0⟩ ?_ ?_
      · show _ = [some (V.int n), some (V.int (sgn n * 1)), some (V.int n.natAbs), some (V.int 2)]
        rw [e, ← abs_int]; rfl
      · rintro σ H' ⟨rfl, f, fN, r, rfl, f2, fm, hb⟩
        obtain ⟨l1, l2, l3⟩ := fits hb
        have bf : Bd 30000 ((f : Nat) : Int) := by unfold Bd; omega
        have f0 : 0 < f * f := Nat.mul_pos (by omega) (by omega)
        refine ⟨_, rfl, _, rfl, _, _, rfl, rfl, bf.cm bf, _, rfl, _, _, rfl, rfl, (bf.mul bf).cm bf, _, rfl, _, _, rfl, rfl, _, rfl, ?_⟩
        refine ite2 (fun hc => ?_) (fun hc => ?_)
        · have hc1 : f * f * f ≤ r := by
            have := of_decide_eq_true hc
            rw [cast_mul, cast_mul] at this
            omega
          have fs : f < 29999 := by
            refine Nat.lt_of_not_le fun z => ?_
            have : 29999 * 29999 * 29999 ≤ f * f * f := Nat.mul_le_mul (Nat.mul_le_mul z z) z
            omega
          refine while_by (fun σ H2 => H2 = H' ∧ ∃ r : Nat, σ = [some (.int n), some (.int (sgn n * (fN : Nat))), some (.int (r : Nat)), some (.int (f : Nat))] ∧ BI n.natAbs f fN r) (fun σ _ => match σ with | [_, _, some (.int y), _] => y.toNat | _ => 0) ⟨rfl, r, rfl, hb⟩ ?_ ?_
          · rintro σ H2 ⟨rfl, r, rfl, hb⟩
            obtain ⟨l1, l2, l3⟩ := fits hb
            have ec : ((f : Nat) : Int) * (f : Nat) = ((f * f : Nat) : Int) := cast_mul f f
            refine ⟨_, rfl, _, rfl, _, rfl, _, _, rfl, rfl, bf.cm bf, _, _, rfl, rfl, (show ((f : Nat) : Int) * (f : Nat) ≠ 0 by rw [ec]; omega), rfl, _, rfl, ?_⟩
            refine ite2 (fun hd => ?_) (fun hd => ?_)
            · have dv : f * f ∣ r := by
                have : Int.fmod ((r : Nat) : Int) (((f : Nat) : Int) * (f : Nat)) = 0 := by
                  have := of_decide_eq_true hd
                  injection this
                rw [ec, fmod_nat] at this
                exact Nat.dvd_of_mod_eq_zero (by omega)
              refine ⟨_, rfl, _, rfl, _, rfl, _, _, rfl, rfl, bf.cm bf, _, _, rfl, rfl, ⟨(show (0 : Int) < ((f : Nat) : Int) * (f : Nat) by rw [ec]; omega), ?_⟩, ⟨rfl, r / (f * f), ?_, bi_sq f2 hb dv⟩, ?_⟩
              · exact log_small (Nat.lt_of_le_of_lt (bf.mul bf) (by decide))
              · show [some (V.int n), some (V.int (sgn n * (fN : Nat))), some (V.int ((r : Nat) / (((f : Nat) : Int) * (f : Nat)))), some (V.int (f : Nat))] = _
                rw [ec, ediv_nat]
              · show (((r : Nat) : Int) / (((f : Nat) : Int) * (f : Nat))).toNat < r
                rw [ec, ediv_nat]
                show r / (f * f) < r
                have := Nat.div_lt_self hb.r0 (show 1 < f * f by
                  have : 2 * 2 ≤ f * f := Nat.mul_le_mul f2 f2
                  omega)
                exact this
            · have nd : ¬ f * f ∣ r := fun ⟨q, e⟩ => hd (decide_eq_true (by
                show V.int (Int.fmod ((r : Nat) : Int) (((f : Nat) : Int) * (f : Nat))) = V.int 0
                rw [ec, fmod_nat, e, Nat.mul_mod_right]; rfl))
              refine ⟨_, rfl, _, rfl, _, _, rfl, rfl, (show ((f : Nat) : Int) ≠ 0 by omega), rfl, _, rfl, ?_⟩
              have lf : ((f : Nat) : Int).natAbs.log2 < 9000 := log_small (Nat.lt_of_le_of_lt bf (by decide))
              refine ite2 (fun hd => ?_) (fun hd => ?_)
              · have dv : f ∣ r := by
                  have : Int.fmod ((r : Nat) : Int) ((f : Nat) : Int) = 0 := by
                    have := of_decide_eq_true hd
                    injection this
                  rw [fmod_nat] at this
                  exact Nat.dvd_of_mod_eq_zero (by omega)
                have hb' := bi_one f2 hb nd dv
                refine ⟨_, rfl, _, rfl, _, _, rfl, rfl, ⟨(show (0 : Int) < (f : Nat) by omega), lf⟩, ?_⟩
                refine ⟨_, rfl, _, rfl, _, _, rfl, rfl, .inr ⟨by omega, by omega⟩, ?_⟩
                refine ⟨_, rfl, _, _, rfl, rfl, ⟨rfl, f + 1, fN * f, r / f, ?_, by omega, by omega, hb'⟩, ?_⟩
                · show [some (V.int n), some (V.int (sgn n * (fN : Nat) * (f : Nat))), some (V.int (((r : Nat) : Int) / (f : Nat))), some (V.int (((f : Nat) : Int) + 1))] = _
                  rw [Int.mul_assoc, cast_mul, ediv_nat]; rfl
                · show 40000 - (((f : Nat) : Int) + 1).toNat < 40000 - ((f : Nat) : Int).toNat
                  omega
              · have nd1 : ¬ f ∣ r := fun ⟨q, e⟩ => hd (decide_eq_true (by
                  show V.int (Int.fmod ((r : Nat) : Int) ((f : Nat) : Int)) = V.int 0
                  rw [fmod_nat, e, Nat.mul_mod_right]; rfl))
                refine ⟨_, rfl, _, _, rfl, rfl, ⟨rfl, f + 1, fN, r, ?_, by omega, by omega, bi_none hb nd1⟩, ?_⟩
                · rfl
                · show 40000 - (((f : Nat) : Int) + 1).toNat < 40000 - ((f : Nat) : Int).toNat
                  omega
          · rintro σ H Q Q' hq ⟨v, h1, v2, h2, v3, h3, i, j, e1, e2, e3, i2, j2, e4, e5, e6, u, k1, e7, h4⟩
            exact ⟨v, h1, v2, h2, v3, h3, i, j, e1, e2, e3, i2, j2, e4, e5, e6, u, k1, e7, hq _ _ h4⟩
        · have big : r < f * f * f := by
            have : ¬ (((f : Nat) : Int) * (f : Nat) * (f : Nat) ≤ (r : Nat)) := fun z => hc (decide_eq_true z)
            rw [cast_mul, cast_mul] at this
            omega
          obtain ⟨yes, no⟩ := bare_abs f2 hb big
          refine ⟨_, rfl, (r : Nat), rfl, by omega, fun m hm => ?_, fun hm => ?_⟩
          · have hm' : r = m * m := by
              rw [cast_mul] at hm
              omega
            obtain ⟨sf, kk, ek⟩ := yes m hm'
            refine ⟨rfl, _, rfl, ?_⟩
            refine ite2 (fun hd => nomatch of_decide_eq_true hd) (fun _ => ?_)
            exact ⟨_, rfl, k _ (bare_of_abs (bi_le hb hN0).1 sf ek)⟩
          · have hm' : ¬ ∃ m : Nat, r = m * m := fun ⟨m, e⟩ => hm ⟨(m : Nat), by rw [cast_mul, ← e]⟩
            obtain ⟨sf, kk, ek⟩ := no hm'
            refine ⟨rfl, _, rfl, ?_⟩
            refine ite2 (fun _ => ?_) (fun hd => absurd (decide_eq_true rfl) hd)
            refine ⟨_, rfl, _, rfl, _, _, rfl, rfl, .inr ⟨by omega, by omega⟩, _, rfl, ?_⟩
            have := bare_of_abs (n := n) (Nat.mul_pos (bi_le hb hN0).1 hb.r0) sf ek
            show Q (V.int (sgn n * (fN : Nat) * (r : Nat))) H'
            rw [Int.mul_assoc, cast_mul]
            exact k _ this
      · rintro σ H Q Q' hq ⟨v, h1, v2, h2, i, j, e1, e2, e3, v3, h3, i2, j2, e4, e5, e6, v4, h5, i3, j3, e7, e8, k1, e9, h4⟩
        exact ⟨v, h1, v2, h2, i, j, e1, e2, e3, v3, h3, i2, j2, e4, e5, e6, v4, h5, i3, j3, e7, e8, k1, e9, hq _ _ h4⟩
end
end My

/-! ### the rows of a house, in plain Lean -/
namespace My
open PySem PySem.Spec PyProof.Rows L2
open C8 (Cal pe_c pe_gc)
open Classical in
noncomputable def bareZ (n : Int) : Int := if h : ∃ b, Bare b n then Classical.choose h else 0
open Classical in
noncomputable def rootZ (n : Int) : Option Nat := if h : ∃ r : Nat, n = (r : Int) * r then some (Classical.choose h) else none
theorem bareZ_of {b n : Int} (n0 : n ≠ 0) (h : Bare b n) : bareZ n = b := by
  have e : ∃ b, Bare b n := ⟨b, h⟩
  unfold bareZ
  rw [dif_pos e]
  exact bare_unique n0 (Classical.choose_spec e) h
theorem sq_inj {r s : Nat} (h : (r : Int) * r = (s : Int) * s) : r = s := by
  have h' : r * r = s * s := by
    have a : ((r * r : Nat) : Int) = ((s * s : Nat) : Int) := by rw [Int.natCast_mul, Int.natCast_mul]; exact h
    omega
  exact Nat.mul_self_inj.mp h'
theorem rootZ_of {n : Int} {r : Nat} (h : n = (r : Int) * r) : rootZ n = some r := by
  have e : ∃ r : Nat, n = (r : Int) * r := ⟨r, h⟩
  unfold rootZ
  rw [dif_pos e]
  exact congrArg some (sq_inj ((Classical.choose_spec e).symm.trans h))
theorem rootZ_no {n : Int} (h : ¬ ∃ r : Int, n = r * r) : rootZ n = none := by
  unfold rootZ
  exact dif_neg fun ⟨r, e⟩ => h ⟨r, e⟩
theorem root_go {n : Int} {H : Hp} {Q : VK} (k : Q (atV (rootZ n)) H) : (∀ r : Nat, n = (r : Int) * r → Q (.int r) H) ∧ ((¬ ∃ r : Int, n = r * r) → Q .non H) :=
  ⟨fun r h => by rw [rootZ_of h] at k; exact k, fun h => by rw [rootZ_no h] at k; exact k⟩
def ovI : Option Int → V
  | some i => .int i
  | none => .non
def rootFrom (c b a : Int) : Nat → Int → Option Int
  | 0, _ => none
  | n + 1, r => if ((r + a) * r + b) * r + c = 0 then some r else rootFrom c b a n (r + 1)
def wholeZ (c b a : Int) : Option Int := rootFrom c b a 201 (-100)
theorem rootFrom_in {c b a : Int} : ∀ {n : Nat} {r z : Int}, rootFrom c b a n r = some z → r ≤ z ∧ z < r + n
  | 0, r, z, h => by cases h
  | n + 1, r, z, h => by
    have h' : (if ((r + a) * r + b) * r + c = 0 then some r else rootFrom c b a n (r + 1)) = some z := h
    by_cases e : ((r + a) * r + b) * r + c = 0
    · rw [if_pos e] at h'
      cases h'
      omega
    · rw [if_neg e] at h'
      have := rootFrom_in h'
      omega
theorem wholeZ_in {c b a z : Int} (h : wholeZ c b a = some z) : Bd 100 z := by
  have := rootFrom_in h
  unfold Bd
  omega
/-- a row: its degree, what the power of its letter is -/
abbrev Rw := Int × List (Int × Int)
def FrsAt (K : PySem.W.Frag) (H : Hp) (us : List V) (qs : List (Int × Int)) : Prop := Paired (FrAt K H) us qs
def RowAt (K : PySem.W.Frag) (H : Hp) (v : V) (r : Rw) : Prop := ∃ (p l : Addr) (us : List V), v = .ref p ∧ H p = some (.tup [.int r.1, .ref l]) ∧ H l = some (.lst us) ∧ FrsAt K H us r.2
def RowsIn (K : PySem.W.Frag) (H : Hp) (us : List V) (rs : List Rw) : Prop := Paired (RowAt K H) us rs
def RowsAt (K : PySem.W.Frag) (H : Hp) (v : V) (rs : List Rw) : Prop := ∃ (l : Addr) (us : List V), v = .ref l ∧ H l = some (.lst us) ∧ RowsIn K H us rs
theorem Paired.imp {α β : Type} {F G : α → β → Prop} (f : ∀ a b, F a b → G a b) : ∀ {l : List α} {m : List β}, Paired F l m → Paired G l m
  | _, _, .nil => .nil
  | _, _, .cons h t => .cons (f _ _ h) (Paired.imp f t)
theorem FrsAt.mono {K : PySem.W.Frag} {H H' : Hp} {us : List V} {qs : List (Int × Int)} (h : FrsAt K H us qs) (s : Same H H') : FrsAt K H' us qs := Paired.imp (fun _ _ x => x.mono s) h
theorem RowAt.mono {K : PySem.W.Frag} {H H' : Hp} {v : V} {r : Rw} (h : RowAt K H v r) (s : Same H H') : RowAt K H' v r := by
  obtain ⟨p, l, us, e, h1, h2, h3⟩ := h
  exact ⟨p, l, us, e, s _ _ h1, s _ _ h2, h3.mono s⟩
theorem RowsIn.mono {K : PySem.W.Frag} {H H' : Hp} {us : List V} {rs : List Rw} (h : RowsIn K H us rs) (s : Same H H') : RowsIn K H' us rs := Paired.imp (fun _ _ x => x.mono s) h
theorem RowsAt.mono {K : PySem.W.Frag} {H H' : Hp} {v : V} {rs : List Rw} (h : RowsAt K H v rs) (s : Same H H') : RowsAt K H' v rs := by
  obtain ⟨l, us, e, h1, h2⟩ := h
  exact ⟨l, us, e, s _ _ h1, h2.mono s⟩
noncomputable def rows2 (p q : Int) : List Rw := if bareZ (p * p - 4 * q) = 1 then [] else [(2, [(bareZ (p * p - 4 * q), 1)])]
section
variable {c : Cs} {P : Program} {w : World} {K : PySem.W.Frag} {mg : Str → Option Value} {base : Heap}
theorem frs_rep {H : Hp} {u : V} {q : Int × Int} (h : FrAt K H u q) : ∀ k : Nat, FrsAt K H (List.replicate k [u]).flatten (List.replicate k q)
  | 0 => .nil
  | k + 1 => .cons h (frs_rep h k)
abbrev s_nought : Stmt := top 43
abbrev N_nought : List Str := ["many"]
abbrev P_nought : List Str := ["many"]
theorem sc_nought : FnScope N_nought ["many"] (defScope s_nought) := ⟨rfl, rfl, rfl, by decide +kernel, rfl, by decide +kernel, by decide +kernel⟩

def sp_nought (K : PySem.W.Frag) : Sp := fun vs H Q _ => ∃ k : Nat, vs = [.int (k : Nat)] ∧ k ≤ 100 ∧ ∀ H' p us, Same H H' → H p = none → H' p = some (.lst us) → FrsAt K H' us (List.replicate k (0, 1)) → Q (.ref p) H'
theorem ok_nought (T : Txt K mg c) {f : Addr} {fd : FuncData} (F : L2.Fun K "nought" "nought" s_nought f fd) : FnOk P w K mg base CX0 1 f fd P_nought (sp_nought K) := by
  refine F.ok sc_nought (fun vs H Q E h => ?_) (fun cdv A outer s H vs Q E hr h => ?_)
  · obtain ⟨n, rfl, _⟩ := h
    rfl
  · obtain ⟨n, rfl, hn, k⟩ := h
    refine ⟨_, (pss_one (ps_ret (pe_op op_rep (pe_lst (pa_cons (pe_tup (pa_cons pe_int (pa_cons pe_int pa_nil))) pa_nil)) (pv 0)))), ?_⟩
    refine ⟨sz2, fun t ht => ⟨(show 1 ≤ sizeLine by decide), fun l hl => ?_⟩⟩
    refine ⟨_, rfl, l, _, _, rfl, rfl, upd_same, by omega, by omega, ?_, fun p hp => ?_⟩
    · show 1 * _ ≤ sizeLine
      rw [Nat.one_mul]
      exact Nat.le_trans (show (n : Int).toNat ≤ 100 by omega) (by decide)
    · have s1 := same_new (o := .tup [V.int 0, V.int 1]) ht
      have s2 := same_new (o := .lst [V.ref t]) hl
      have s3 := same_new (o := .lst (List.replicate (n : Int).toNat [V.ref t]).flatten) hp
      refine k _ p _ ((s1.trans s2).trans s3) ((s1.trans s2).free hp) upd_same ?_
      have : FrAt K (upd (upd (upd H t (.tup [V.int 0, V.int 1])) l (.lst [V.ref t])) p (.lst (List.replicate (n : Int).toNat [V.ref t]).flatten)) (.ref t) (0, 1) := FrAt.mono (FrAt.new (q := (0, 1)) upd_same) (s2.trans s3)
      exact frs_rep this n
abbrev s_whole_root : Stmt := top 50
abbrev N_whole_root : List Str := ["polynomial", "root", "c", "b", "a"]
abbrev P_whole_root : List Str := ["polynomial"]
theorem sc_whole_root : FnScope N_whole_root ["polynomial"] (defScope s_whole_root) := ⟨rfl, rfl, rfl, by decide +kernel, rfl, by decide +kernel, by decide +kernel⟩

def sp_whole_root (K : PySem.W.Frag) : Sp := fun vs H Q _ => ∃ (l : Addr) (ns : List Int) (c b a : Int), vs = [.ref l] ∧ SqL K H l (ns.map V.int) ∧ (∃ d, ns = [c, b, a, d]) ∧ Bd 100 c ∧ Bd 100 b ∧ Bd 100 a ∧ ∀ H', Same H H' → Q (ovI (wholeZ c b a)) H'
theorem ok_whole_root (T : Txt K mg c) {f : Addr} {fd : FuncData} (F : L2.Fun K "whole_root" "whole_root" s_whole_root f fd) : FnOk P w K mg base CX0 1 f fd P_whole_root (sp_whole_root K) := by
  refine F.ok sc_whole_root (fun vs H Q E h => ?_) (fun cdv A outer s H vs Q E hr h => ?_)
  · obtain ⟨l, ns, c, b, a, rfl, _⟩ := h
    rfl
  · obtain ⟨l, ns, c, b, a, rfl, hS, ⟨d, rfl⟩, bc, bb, ba, k⟩ := h
    refine ⟨_, (pss_cons (ps_asg (pe_slice sl_list (pv 0) po_none (po_some pe_int)) (pg_unl rfl (pgs_cons (pg_name (i := 2) sc_whole_root.nd rfl (by first | exact Or.inl rfl | exact Or.inr rfl)) (pgs_cons (pg_name (i := 3) sc_whole_root.nd rfl (by first | exact Or.inl rfl | exact Or.inr rfl)) (pgs_cons (pg_name (i := 4) sc_whole_root.nd rfl (by first | exact Or.inl rfl | exact Or.inr rfl)) pgs_nil)))))
      (pss_cons (ps_for PassesOwn.never rfl (pi_range2 rfl T.z_range (pa_cons (pe_un un_neg pe_int) (pa_cons pe_int pa_nil))) (pg_name (i := 1) sc_whole_root.nd rfl (by first | exact Or.inl rfl | exact Or.inr rfl)) (pss_one (ps_if (pt_cmpR op_eq (pe_op op_add (pe_op op_mulW (pe_op op_add (pe_op op_mulW (pe_op op_add (pv 1) (pv 4)) (pv 1)) (pv 3)) (pv 1)) (pv 2)) pe_int (nomark _)) (pss_one (ps_ret (pv 1))) pss_nil)))
      (pss_one (ps_ret pe_non)))), ?_⟩
    refine ⟨_, rfl, _, rfl, l, _, rfl, hS, fun q hq => ?_⟩
    have s1 := same_new (o := .lst [V.int c, V.int b, V.int a]) hq
    refine ⟨q, _, rfl, SqL.of upd_same, rfl, _, _, rfl, _, _, rfl, _, _, rfl, rfl, ?_⟩
    refine ⟨_, rfl, -100, 101, rfl, ⟨by decide, by decide, by decide, by decide⟩, for_range (lo := -100) (n := 201) (fun i σ H' => H' = upd H q (.lst [V.int c, V.int b, V.int a]) ∧ ∃ o : Option V, σ = [some (.ref l), o, some (.int c), some (.int b), some (.int a)] ∧ rootFrom c b a 201 (-100) = rootFrom c b a (201 - i) (-100 + (i : Nat))) ⟨rfl, _, rfl, rfl⟩ ?_ ?_⟩
    · rintro i σ H' hi ⟨rfl, o, rfl, he⟩
      have bi : Bd 200 (-100 + (i : Int)) := by unfold Bd; omega
      obtain ⟨m, hm⟩ : ∃ m, 201 - i = m + 1 := ⟨201 - i - 1, by omega⟩
      refine ⟨_, rfl, _, rfl, _, _, rfl, rfl, _, rfl, _, _, rfl, rfl, (bi.add ba).cm bi, _, rfl, _, _, rfl, rfl, _, rfl, _, _, rfl, rfl, (((bi.add ba).mul bi).add bb).cm bi, _, rfl, _, _, rfl, rfl, rfl, _, rfl, ?_⟩
      refine ite2 (fun hc => ?_) (fun hc => ?_)
      · have e0 : ((-100 + (i : Int) + a) * (-100 + (i : Int)) + b) * (-100 + (i : Int)) + c = 0 := by
          have := of_decide_eq_true hc
          injection this
        have ew : wholeZ c b a = some (-100 + (i : Int)) := by
          unfold wholeZ
          rw [he, hm]
          exact if_pos e0
        have := k _ s1
        rw [ew] at this
        exact ⟨_, rfl, this⟩
      · have e0 : ¬ ((-100 + (i : Int) + a) * (-100 + (i : Int)) + b) * (-100 + (i : Int)) + c = 0 := fun z => hc (decide_eq_true (by rw [← z]))
        refine ⟨rfl, _, rfl, ?_⟩
        rw [he, hm]
        have e1 : rootFrom c b a (m + 1) (-100 + (i : Int)) = rootFrom c b a m (-100 + (i : Int) + 1) := if_neg e0
        rw [e1]
        have e2 : 201 - (i + 1) = m := by omega
        rw [e2]
        congr 1
        omega
    · rintro σ H' ⟨rfl, o, rfl, he⟩
      have ew : wholeZ c b a = none := he
      have := k _ s1
      rw [ew] at this
      exact this
abbrev s_rows_by_two : Stmt := top 52
abbrev N_rows_by_two : List Str := ["p", "q", "number"]
abbrev P_rows_by_two : List Str := ["p", "q"]
theorem sc_rows_by_two : FnScope N_rows_by_two ["p", "q"] (defScope s_rows_by_two) := ⟨rfl, rfl, rfl, by decide +kernel, rfl, by decide +kernel, by decide +kernel⟩

def sp_rows_by_two (K : PySem.W.Frag) : Sp := fun vs H Q _ => ∃ p q : Int, vs = [.int p, .int q] ∧ Bd 1000000 p ∧ Bd 1000000 q ∧ p * p - 4 * q ≠ 0 ∧ ∀ H' v, Same H H' → RowsAt K H' v (rows2 p q) → Q v H'
theorem ok_rows_by_two (T : Txt K mg c) {f : Addr} {fd : FuncData} (F : L2.Fun K "rows_by_two" "rows_by_two" s_rows_by_two f fd) (h_bare_of : Cal P w K mg base 2 "bare_of" sp_bare_of []) : FnOk P w K mg base CX0 3 f fd P_rows_by_two (sp_rows_by_two K) := by
  refine F.ok sc_rows_by_two (fun vs H Q E h => ?_) (fun cdv A outer s H vs Q E hr h => ?_)
  · obtain ⟨p, q, rfl, _⟩ := h
    rfl
  · obtain ⟨p, q, rfl, bp, bq, ne, k⟩ := h
    refine ⟨_, (pss_cons (ps_set (i := 2) sc_rows_by_two.nd rfl (by first | exact Or.inl rfl | exact Or.inr rfl) (pe_c h_bare_of hr (by decide) rfl (pa_cons (pe_op op_sub (pe_op op_mulW (pv 0) (pv 0)) (pe_op op_mulW pe_int (pv 1))) pa_nil)))
      (pss_cons (ps_if (pt_cmpR op_eq (pv 2) pe_int (nomark _)) (pss_one (ps_ret (pe_lst pa_nil))) pss_nil)
      (pss_one (ps_ret (pe_lst (pa_cons (pe_tup (pa_cons pe_int (pa_cons (pe_lst (pa_cons (pe_tup (pa_cons (pv 2) (pa_cons pe_int pa_nil))) pa_nil)) pa_nil))) pa_nil)))))), ?_⟩
    refine ⟨_, rfl, _, rfl, _, _, rfl, rfl, bp.cm bp, _, rfl, _, _, rfl, rfl, (bd_lit (n := 4)).cm bq, _, _, rfl, rfl, p * p - 4 * q, rfl, ne, ?_, fun b hb => ?_⟩
    · exact Nat.le_trans ((bp.mul bp).sub ((bd_lit (n := 4)).mul bq)) (by decide)
    · have e := bareZ_of ne hb
      refine ⟨_, rfl, rfl, _, rfl, ?_⟩
      refine ite2 (fun hc => ?_) (fun hc => ?_)
      · have b1 : b = 1 := by
          have := of_decide_eq_true hc
          injection this
        refine ⟨(show 0 ≤ sizeLine by decide), fun l hl => k _ _ (same_new hl) ⟨l, [], rfl, upd_same, ?_⟩⟩
        unfold rows2
        rw [e, if_pos b1]
        exact .nil
      · have b1 : b ≠ 1 := fun z => hc (decide_eq_true (by rw [z]))
        refine ⟨_, rfl, sz2, fun t ht => ⟨(show 1 ≤ sizeLine by decide), fun l hl => ⟨sz2, fun r hr_ => ⟨(show 1 ≤ sizeLine by decide), fun m hm => ?_⟩⟩⟩⟩
        have s1 := same_new (o := .tup [V.int b, V.int 1]) ht
        have s2 := same_new (o := .lst [V.ref t]) hl
        have s3 := same_new (o := .tup [V.int 2, V.ref l]) hr_
        have s4 := same_new (o := .lst [V.ref r]) hm
        refine k _ _ (((s1.trans s2).trans s3).trans s4) ⟨m, [.ref r], rfl, upd_same, ?_⟩
        unfold rows2
        rw [e, if_neg b1]
        exact .cons ⟨r, l, [.ref t], rfl, s4 _ _ upd_same, s4 _ _ (s3 _ _ upd_same), .cons ⟨t, rfl, s4 _ _ (s3 _ _ (s2 _ _ upd_same))⟩ .nil⟩ .nil
end
end My

namespace My
open PySem PySem.Spec PyProof.Rows L2
open C8 (Cal pe_c pe_gc)
/-- a cubic with a whole root: what tells by alike roots -/
theorem cubic_left {c b a r : Int} (h : ((r + a) * r + b) * r + c = 0) : toldOf [c, b, a, 1] = ((a + r) * (a + r) - 4 * (b + r * (a + r))) * ((r * r + (a + r) * r + (b + r * (a + r))) * (r * r + (a + r) * r + (b + r * (a + r)))) := by
  show 18 * a * b * c - 4 * a * a * a * c + a * a * b * b - 4 * b * b * b - 27 * c * c = _
  have e : c = -(((r + a) * r + b) * r) := by omega
  subst e
  grind
theorem rootFrom_ok {c b a : Int} : ∀ {n : Nat} {r z : Int}, rootFrom c b a n r = some z → ((z + a) * z + b) * z + c = 0
  | 0, r, z, h => by cases h
  | n + 1, r, z, h => by
    have h' : (if ((r + a) * r + b) * r + c = 0 then some r else rootFrom c b a n (r + 1)) = some z := h
    by_cases e : ((r + a) * r + b) * r + c = 0
    · rw [if_pos e] at h'
      cases h'
      exact e
    · rw [if_neg e] at h'
      exact rootFrom_ok h'
theorem left_ne {c b a r : Int} (h : wholeZ c b a = some r) (t : toldOf [c, b, a, 1] ≠ 0) : (a + r) * (a + r) - 4 * (b + r * (a + r)) ≠ 0 := fun z => t (by
  rw [cubic_left (rootFrom_ok h), z, Int.zero_mul])
noncomputable def rows3 (c b a : Int) : List Rw := match wholeZ c b a with
  | some r => rows2 (a + r) (b + r * (a + r))
  | none => (3, [(0 - c, 1), (0 - b, 1), (0 - a, 1)]) :: (if rootZ (toldOf [c, b, a, 1]) = none then [(2, [(bareZ (toldOf [c, b, a, 1]), 1), (0, 1), (0, 1)])] else [])
noncomputable def halvesZ (b a : Int) : Option (Int × Int) := match rootZ (a * a - 4 * b) with
  | some m => some (Int.fdiv (0 - a - (m : Nat)) 2, Int.fdiv ((m : Nat) - a) 2)
  | none => none
noncomputable def withinZ (b a : Int) : Option Nat := match rootZ b with
  | none => none
  | some m => match rootZ (2 * (m : Nat) - a) with
    | some r => some r
    | none => rootZ (0 - a - 2 * (m : Nat))
theorem rootZ_is {n : Int} {r : Nat} (h : rootZ n = some r) : n = (r : Int) * r := by
  unfold rootZ at h
  split at h
  · rename_i e
    have := Classical.choose_spec e
    rw [Option.some.inj h] at this
    exact this
  · cases h
theorem rootZ_bd {n : Int} {k r : Nat} (h : rootZ n = some r) (b : Bd (k * k) n) : r ≤ k := by
  have e := rootZ_is h
  refine Nat.le_of_not_lt fun z => ?_
  have : (k + 1) * (k + 1) ≤ r * r := Nat.mul_le_mul z z
  have e2 : (k + 1) * (k + 1) = k * k + 2 * k + 1 := by rw [Nat.add_mul, Nat.mul_add]; omega
  have e3 : n.natAbs = r * r := by rw [e, Int.natAbs_mul]; rfl
  unfold Bd at b
  omega
section
variable {c : Cs} {P : Program} {w : World} {K : PySem.W.Frag} {mg : Str → Option Value} {base : Heap}
abbrev s_left_by : Stmt := top 51
abbrev N_left_by : List Str := ["polynomial", "root", "c", "b", "a"]
abbrev P_left_by : List Str := ["polynomial", "root"]
theorem sc_left_by : FnScope N_left_by ["polynomial", "root"] (defScope s_left_by) := ⟨rfl, rfl, rfl, by decide +kernel, rfl, by decide +kernel, by decide +kernel⟩

def sp_left_by (K : PySem.W.Frag) : Sp := fun vs H Q _ => ∃ (l : Addr) (ns : List Int) (c b a r : Int), vs = [.ref l, .int r] ∧ SqL K H l (ns.map V.int) ∧ (∃ d, ns = [c, b, a, d]) ∧ Bd 100 b ∧ Bd 100 a ∧ Bd 100 r ∧ ∀ H' p, Same H H' → H' p = some (.tup [.int (a + r), .int (b + r * (a + r))]) → Q (.ref p) H'
theorem ok_left_by (T : Txt K mg c) {f : Addr} {fd : FuncData} (F : L2.Fun K "left_by" "left_by" s_left_by f fd) : FnOk P w K mg base CX0 1 f fd P_left_by (sp_left_by K) := by
  refine F.ok sc_left_by (fun vs H Q E h => ?_) (fun cdv A outer s H vs Q E hr h => ?_)
  · obtain ⟨l, ns, c, b, a, r, rfl, _⟩ := h
    rfl
  · obtain ⟨l, ns, c, b, a, r, rfl, hS, ⟨d, rfl⟩, bb, ba, br, k⟩ := h
    refine ⟨_, (pss_cons (ps_asg (pe_slice sl_list (pv 0) po_none (po_some pe_int)) (pg_unl rfl (pgs_cons (pg_name (i := 2) sc_left_by.nd rfl (by first | exact Or.inl rfl | exact Or.inr rfl)) (pgs_cons (pg_name (i := 3) sc_left_by.nd rfl (by first | exact Or.inl rfl | exact Or.inr rfl)) (pgs_cons (pg_name (i := 4) sc_left_by.nd rfl (by first | exact Or.inl rfl | exact Or.inr rfl)) pgs_nil)))))
      (pss_one (ps_ret (pe_tup (pa_cons (pe_op op_add (pv 4) (pv 1)) (pa_cons (pe_op op_add (pv 3) (pe_op op_mulW (pv 1) (pe_op op_add (pv 4) (pv 1)))) pa_nil)))))), ?_⟩
    refine ⟨_, rfl, _, rfl, l, _, rfl, hS, fun q hq => ?_⟩
    have s1 := same_new (o := .lst [V.int c, V.int b, V.int a]) hq
    refine ⟨q, _, rfl, SqL.of upd_same, rfl, _, _, rfl, _, _, rfl, _, _, rfl, rfl, ?_⟩
    refine ⟨_, rfl, _, rfl, _, _, rfl, rfl, _, rfl, _, rfl, _, rfl, _, rfl, _, _, rfl, rfl, _, _, rfl, rfl, br.cm (ba.add br), _, _, rfl, rfl, sz2, fun p hp => ?_⟩
    exact k _ p (s1.trans (same_new hp)) upd_same
abbrev s_halves : Stmt := top 54
abbrev N_halves : List Str := ["polynomial", "many", "b", "a"]
abbrev P_halves : List Str := ["polynomial"]
theorem sc_halves : FnScope N_halves ["polynomial"] (defScope s_halves) := ⟨rfl, rfl, rfl, by decide +kernel, rfl, by decide +kernel, by decide +kernel⟩

def sp_halves (K : PySem.W.Frag) : Sp := fun vs H Q _ => ∃ (l : Addr) (ns : List Int) (b a : Int), vs = [.ref l] ∧ SqL K H l (ns.map V.int) ∧ (∃ x y z, ns = [b, x, a, y, z]) ∧ Bd 100 b ∧ Bd 100 a ∧
  (halvesZ b a = none → Q .non H) ∧ (∀ x y, halvesZ b a = some (x, y) → ∀ H' p, Same H H' → H p = none → H' p = some (.lst [.int x, .int y]) → Q (.ref p) H')
theorem ok_halves (T : Txt K mg c) {f : Addr} {fd : FuncData} (F : L2.Fun K "halves" "halves" s_halves f fd) (h_root_whole : Cal P w K mg base 1 "root_whole" sp_root []) : FnOk P w K mg base CX0 2 f fd P_halves (sp_halves K) := by
  refine F.ok sc_halves (fun vs H Q E h => ?_) (fun cdv A outer s H vs Q E hr h => ?_)
  · obtain ⟨l, ns, b, a, rfl, _⟩ := h
    rfl
  · obtain ⟨l, ns, b, a, rfl, hS, ⟨x, y, z, rfl⟩, bb, ba, k0, k1⟩ := h
    refine ⟨_, (pss_cons (ps_par (i := 2) (j := 3) (by rfl) sc_halves.nd rfl rfl (by decide) rfl rfl (pa_cons (pe_ix ix_list (pv 0) pe_int (fun _ _ => rfl)) (pa_cons (pe_ix ix_list (pv 0) pe_int (fun _ _ => rfl)) pa_nil)) (by rfl))
      (pss_cons (ps_set (i := 1) sc_halves.nd rfl (by first | exact Or.inl rfl | exact Or.inr rfl) (pe_c h_root_whole hr (by decide) rfl (pa_cons (pe_op op_sub (pe_op op_mulW (pv 3) (pv 3)) (pe_op op_mulW pe_int (pv 2))) pa_nil)))
      (pss_cons (ps_if (pt_cmpR op_isN (pv 1) pe_non (nomark _)) (pss_one (ps_ret pe_non)) pss_nil)
      (pss_one (ps_ret (pe_lst (pa_cons (pe_op op_fdivA (pe_op op_sub (pe_op op_sub pe_int (pv 3)) (pv 1)) pe_int) (pa_cons (pe_op op_fdivA (pe_op op_sub (pv 1) (pv 3)) pe_int) pa_nil)))))))), ?_⟩
    refine ⟨_, rfl, l, _, _, _, rfl, rfl, hS, rfl, _, rfl, l, _, _, _, rfl, rfl, hS, rfl, _, _, rfl, ?_⟩
    refine ⟨_, rfl, _, rfl, _, _, rfl, rfl, ba.cm ba, _, rfl, _, _, rfl, rfl, (bd_lit (n := 4)).cm bb, _, _, rfl, rfl, a * a - 4 * b, rfl, ?_, fun m hm => ?_, fun no => ?_⟩
    · have := (ba.mul ba).sub ((bd_lit (n := 4) (x := 4)).mul bb)
      unfold Bd at this
      omega
    · have e := rootZ_of hm
      refine ⟨_, rfl, rfl, _, rfl, ?_⟩
      refine ite2 (fun hd => nomatch of_decide_eq_true hd) (fun _ => ?_)
      have c2 : ∀ i, CFd i 2 := fun i => ⟨(show (2 : Int) ≠ 0 by decide), (show (2 : Int).natAbs.log2 < 9000 by decide +kernel)⟩
      refine ⟨_, rfl, _, _, rfl, rfl, _, rfl, _, _, rfl, rfl, _, _, rfl, rfl, c2 _, _, rfl, _, rfl, _, _, rfl, rfl, _, _, rfl, rfl, c2 _, sz2, fun p hp => ?_⟩
      exact k1 _ _ (by unfold halvesZ; rw [e]) _ p (same_new hp) hp upd_same
    · have e := rootZ_no no
      refine ⟨_, rfl, rfl, _, rfl, ?_⟩
      refine ite2 (fun _ => ?_) (fun hd => absurd (decide_eq_true rfl) hd)
      exact k0 (by unfold halvesZ; rw [e])
abbrev s_by_squares : Stmt := top 55
abbrev N_by_squares : List Str := ["polynomial", "number", "b", "a"]
abbrev P_by_squares : List Str := ["polynomial"]
theorem sc_by_squares : FnScope N_by_squares ["polynomial"] (defScope s_by_squares) := ⟨rfl, rfl, rfl, by decide +kernel, rfl, by decide +kernel, by decide +kernel⟩

def sp_by_squares (K : PySem.W.Frag) : Sp := fun vs H Q _ => ∃ (l : Addr) (ns : List Int) (b a : Int), vs = [.ref l] ∧ SqL K H l (ns.map V.int) ∧ (∃ x y z, ns = [b, x, a, y, z]) ∧ Bd 100 b ∧ Bd 100 a ∧ a * a - 4 * b ≠ 0 ∧
  ∀ (n : Int) (m : Nat) H' p, n = bareZ (a * a - 4 * b) → Bare n (a * a - 4 * b) → a * a - 4 * b = n * ((m : Int) * m) → Same H H' → H' p = some (.tup [.int n, .int (m : Nat)]) → Q (.ref p) H'
theorem ok_by_squares (T : Txt K mg c) {f : Addr} {fd : FuncData} (F : L2.Fun K "by_squares" "by_squares" s_by_squares f fd) (h_root_whole : Cal P w K mg base 1 "root_whole" sp_root []) (h_bare_of : Cal P w K mg base 2 "bare_of" sp_bare_of []) : FnOk P w K mg base CX0 3 f fd P_by_squares (sp_by_squares K) := by
  refine F.ok sc_by_squares (fun vs H Q E h => ?_) (fun cdv A outer s H vs Q E hr h => ?_)
  · obtain ⟨l, ns, b, a, rfl, _⟩ := h
    rfl
  · obtain ⟨l, ns, b, a, rfl, hS, ⟨x, y, z, rfl⟩, bb, ba, d0, k⟩ := h
    refine ⟨_, (pss_cons (ps_par (i := 2) (j := 3) (by rfl) sc_by_squares.nd rfl rfl (by decide) rfl rfl (pa_cons (pe_ix ix_list (pv 0) pe_int (fun _ _ => rfl)) (pa_cons (pe_ix ix_list (pv 0) pe_int (fun _ _ => rfl)) pa_nil)) (by rfl))
      (pss_cons (ps_set (i := 1) sc_by_squares.nd rfl (by first | exact Or.inl rfl | exact Or.inr rfl) (pe_c h_bare_of hr (by decide) rfl (pa_cons (pe_op op_sub (pe_op op_mulW (pv 3) (pv 3)) (pe_op op_mulW pe_int (pv 2))) pa_nil)))
      (pss_one (ps_ret (pe_tup (pa_cons (pv 1) (pa_cons (pe_c h_root_whole hr (by decide) rfl (pa_cons (pe_op op_fdivA (pe_op op_sub (pe_op op_mulW (pv 3) (pv 3)) (pe_op op_mulW pe_int (pv 2))) (pv 1)) pa_nil)) pa_nil))))))), ?_⟩
    have bD : Bd 10400 (a * a - 4 * b) := (ba.mul ba).sub ((bd_lit (n := 4)).mul bb)
    refine ⟨_, rfl, l, _, _, _, rfl, rfl, hS, rfl, _, rfl, l, _, _, _, rfl, rfl, hS, rfl, _, _, rfl, ?_⟩
    refine ⟨_, rfl, _, rfl, _, _, rfl, rfl, ba.cm ba, _, rfl, _, _, rfl, rfl, (bd_lit (n := 4)).cm bb, _, _, rfl, rfl, a * a - 4 * b, rfl, d0, Nat.le_trans bD (by decide), fun n hn => ?_⟩
    obtain ⟨n0, sn, q, eq⟩ := id hn
    have q0 : q ≠ 0 := fun z => d0 (by rw [eq, z]; simp)
    have bn : n.natAbs ≤ 10400 := by
      have e := congrArg Int.natAbs eq
      rw [Int.natAbs_mul] at e
      have p : 0 < (q * q).natAbs := Int.natAbs_pos.mpr (Int.mul_ne_zero q0 q0)
      have := Nat.le_mul_of_pos_right n.natAbs p
      unfold Bd at bD
      omega
    have bq : (q * q).natAbs ≤ 10400 := by
      have e := congrArg Int.natAbs eq
      rw [Int.natAbs_mul] at e
      have p : 0 < n.natAbs := Int.natAbs_pos.mpr n0
      have := Nat.le_mul_of_pos_left (q * q).natAbs p
      unfold Bd at bD
      omega
    have ef : Int.fdiv (a * a - 4 * b) n = q * q := by
      rw [eq]; exact Int.mul_fdiv_cancel_left _ n0
    refine ⟨_, rfl, _, rfl, _, rfl, _, _, rfl, rfl, ba.cm ba, _, rfl, _, _, rfl, rfl, (bd_lit (n := 4)).cm bb, _, _, rfl, rfl, _, rfl, _, _, rfl, rfl, ⟨n0, log_small (by omega)⟩, Int.fdiv (a * a - 4 * b) n, rfl, by rw [ef]; omega, fun r hr_ => ?_, fun no => absurd ⟨q, ef⟩ no⟩
    refine ⟨sz2, fun p hp => k n r _ p (bareZ_of d0 hn).symm hn ?_ (same_new hp) upd_same⟩
    rw [← hr_, ef]; exact eq
abbrev s_root_within : Stmt := top 56
abbrev N_root_within : List Str := ["polynomial", "many", "number", "b", "a"]
abbrev P_root_within : List Str := ["polynomial"]
theorem sc_root_within : FnScope N_root_within ["polynomial"] (defScope s_root_within) := ⟨rfl, rfl, rfl, by decide +kernel, rfl, by decide +kernel, by decide +kernel⟩

def sp_root_within (K : PySem.W.Frag) : Sp := fun vs H Q _ => ∃ (l : Addr) (ns : List Int) (b a : Int), vs = [.ref l] ∧ SqL K H l (ns.map V.int) ∧ (∃ x y z, ns = [b, x, a, y, z]) ∧ Bd 100 b ∧ Bd 100 a ∧ ∀ H', Same H H' → Q (atV (withinZ b a)) H'
theorem ok_root_within (T : Txt K mg c) {f : Addr} {fd : FuncData} (F : L2.Fun K "root_within" "root_within" s_root_within f fd) (h_root_whole : Cal P w K mg base 1 "root_whole" sp_root []) : FnOk P w K mg base CX0 2 f fd P_root_within (sp_root_within K) := by
  refine F.ok sc_root_within (fun vs H Q E h => ?_) (fun cdv A outer s H vs Q E hr h => ?_)
  · obtain ⟨l, ns, b, a, rfl, _⟩ := h
    rfl
  · obtain ⟨l, ns, b, a, rfl, hS, ⟨x, y, z, rfl⟩, bb, ba, k⟩ := h
    refine ⟨_, (pss_cons (ps_par (i := 3) (j := 4) (by rfl) sc_root_within.nd rfl rfl (by decide) rfl rfl (pa_cons (pe_ix ix_list (pv 0) pe_int (fun _ _ => rfl)) (pa_cons (pe_ix ix_list (pv 0) pe_int (fun _ _ => rfl)) pa_nil)) (by rfl))
      (pss_cons (ps_set (i := 1) sc_root_within.nd rfl (by first | exact Or.inl rfl | exact Or.inr rfl) (pe_c h_root_whole hr (by decide) rfl (pa_cons (pv 3) pa_nil)))
      (pss_cons (ps_if (pt_cmpR op_isN (pv 1) pe_non (nomark _)) (pss_one (ps_ret pe_non)) pss_nil)
      (pss_cons (ps_for PassesOwn.never rfl (pi_tup (pe_tup (pa_cons (pe_op op_sub (pe_op op_mulW pe_int (pv 1)) (pv 4)) (pa_cons (pe_op op_sub (pe_op op_sub pe_int (pv 4)) (pe_op op_mulW pe_int (pv 1))) pa_nil)))) (pg_name (i := 2) sc_root_within.nd rfl (by first | exact Or.inl rfl | exact Or.inr rfl)) (pss_one (ps_if (pt_cmpR op_notN (pe_c h_root_whole hr (by decide) rfl (pa_cons (pv 2) pa_nil)) pe_non (nomark _)) (pss_one (ps_ret (pe_c h_root_whole hr (by decide) rfl (pa_cons (pv 2) pa_nil)))) pss_nil)))
      (pss_one (ps_ret pe_non)))))), ?_⟩
    refine ⟨_, rfl, l, _, _, _, rfl, rfl, hS, rfl, _, rfl, l, _, _, _, rfl, rfl, hS, rfl, _, _, rfl, ?_⟩
    refine ⟨_, rfl, b, rfl, ?_, fun m hm => ?_, fun no => ?_⟩
    · unfold Bd at bb; omega
    · have e := rootZ_of hm
      have bm : m ≤ 10 := rootZ_bd (k := 10) e bb
      have bm' : Bd 10 (m : Nat) := bm
      refine ⟨_, rfl, rfl, _, rfl, ?_⟩
      refine ite2 (fun hd => nomatch of_decide_eq_true hd) (fun _ => ?_)
      refine ⟨_, rfl, _, _, rfl, rfl, (bd_lit (n := 2)).cm bm', _, rfl, _, _, rfl, rfl, _, rfl, _, _, rfl, rfl, _, rfl, _, _, rfl, rfl, (bd_lit (n := 2)).cm bm', _, _, rfl, rfl, sz2, fun t ht => ?_⟩
      have s1 := same_new (o := .tup [V.int (2 * (m : Nat) - a), V.int (0 - a - 2 * (m : Nat))]) ht
      have ez : withinZ b a = (match rootZ (2 * (m : Nat) - a) with
        | some r => some r
        | none => rootZ (0 - a - 2 * (m : Nat))) := by
        unfold withinZ
        rw [e]
      refine ⟨t, rfl, ⟨_, SqT.of upd_same⟩, for_tup (K := K) (a := t) (xs := [V.int (2 * (m : Nat) - a), V.int (0 - a - 2 * (m : Nat))]) (fun i σ H' => (∃ o : Option V, σ = [some (.ref l), some (.int (m : Nat)), o, some (.int b), some (.int a)]) ∧ H' = upd H t (.tup [V.int (2 * (m : Nat) - a), V.int (0 - a - 2 * (m : Nat))]) ∧ (0 < i → rootZ (2 * (m : Nat) - a) = none) ∧ (1 < i → rootZ (0 - a - 2 * (m : Nat)) = none)) ⟨⟨_, rfl⟩, rfl, by omega, by omega⟩ (fun i σ H' _ ⟨_, e, _⟩ => by rw [e]; exact SqT.of upd_same) ?_ ?_⟩
      · rintro i x σ H' hi ⟨⟨o, rfl⟩, rfl, g0, g1⟩
        have key : ∃ z : Int, x = .int z ∧ z < 2 ^ 58 ∧ (∀ r, rootZ z = some r → withinZ b a = some r) ∧ (rootZ z = none → (0 < i + 1 → rootZ (2 * (m : Nat) - a) = none) ∧ (1 < i + 1 → rootZ (0 - a - 2 * (m : Nat)) = none)) := by
          unfold Bd at ba
          rcases i with _ | _ | i
          · refine ⟨_, (Option.some.inj hi).symm, by omega, fun r hr_ => ?_, fun n => ⟨fun _ => n, fun q => by omega⟩⟩
            rw [ez, hr_]
          · refine ⟨_, (Option.some.inj hi).symm, by omega, fun r hr_ => ?_, fun n => ⟨fun _ => g0 (by decide), fun q => n⟩⟩
            rw [ez, g0 (by decide)]
            exact hr_
          · simp at hi
        obtain ⟨z, rfl, zb, zs, zn⟩ := key
        refine ⟨_, rfl, z, rfl, zb, fun r hr_ => ?_, fun no => ?_⟩
        · refine ⟨rfl, _, rfl, ?_⟩
          refine ite2 (fun _ => ?_) (fun hd => absurd rfl hd)
          refine ⟨_, rfl, z, rfl, zb, fun r2 hr2 => ?_, fun no => absurd ⟨(r : Nat), hr_⟩ no⟩
          have := k _ s1
          rw [zs r2 (rootZ_of hr2)] at this
          exact this
        · refine ⟨rfl, _, rfl, ?_⟩
          refine ite2 (fun hd => nomatch hd) (fun _ => ?_)
          have := zn (rootZ_no no)
          exact ⟨⟨_, rfl⟩, rfl, this.1, this.2⟩
      · rintro σ H' ⟨⟨o, rfl⟩, rfl, g0, g1⟩
        have := k _ s1
        rw [ez, g0 (show 0 < 2 by decide), g1 (show 1 < 2 by decide)] at this
        exact this
    · have e := rootZ_no no
      refine ⟨_, rfl, rfl, _, rfl, ?_⟩
      refine ite2 (fun _ => ?_) (fun hd => absurd (decide_eq_true rfl) hd)
      have := k _ (Same.refl H)
      unfold withinZ at this
      rw [e] at this
      exact this
theorem same_upd {H H' : Hp} {m : Addr} {o : HO} (h : H m = none) (s : Same H H') : Same H (upd H' m o) := fun b u hb => by rw [upd_ne (ne_of_none hb h)]; exact s _ _ hb
theorem FrAt.updL {H : Hp} {D : Addr} {xs ys : List V} {v : V} {q : Int × Int} (hD : H D = some (.lst xs)) (h : FrAt K H v q) : FrAt K (upd H D (.lst ys)) v q := by
  obtain ⟨p, rfl, hp⟩ := h
  refine ⟨p, rfl, ?_⟩
  rw [upd_ne (fun z => by rw [z, hD] at hp; cases hp)]
  exact hp
theorem FrsAt.updL {H : Hp} {D : Addr} {xs ys us : List V} {qs : List (Int × Int)} (hD : H D = some (.lst xs)) (h : FrsAt K H us qs) : FrsAt K (upd H D (.lst ys)) us qs := Paired.imp (fun _ _ x => x.updL hD) h
abbrev s_rows_by_three : Stmt := top 53
abbrev N_rows_by_three : List Str := ["polynomial", "root", "rows", "number", "p", "q"]
abbrev P_rows_by_three : List Str := ["polynomial"]
theorem sc_rows_by_three : FnScope N_rows_by_three ["polynomial"] (defScope s_rows_by_three) := ⟨rfl, rfl, rfl, by decide +kernel, rfl, by decide +kernel, by decide +kernel⟩

def sp_rows_by_three (K : PySem.W.Frag) : Sp := fun vs H Q _ => ∃ (l : Addr) (ns : List Int) (c b a : Int), vs = [.ref l] ∧ SqL K H l (ns.map V.int) ∧ ns = [c, b, a, 1] ∧ Bd 100 c ∧ Bd 100 b ∧ Bd 100 a ∧ toldOf ns ≠ 0 ∧ ∀ H' v, Same H H' → RowsAt K H' v (rows3 c b a) → Q v H'
theorem ok_rows_by_three (T : Txt K mg c) {f : Addr} {fd : FuncData} (F : L2.Fun K "rows_by_three" "rows_by_three" s_rows_by_three f fd) (h_root_whole : Cal P w K mg base 1 "root_whole" sp_root []) (h_bare_of : Cal P w K mg base 2 "bare_of" sp_bare_of []) (h_whole_root : Cal P w K mg base 1 "whole_root" (sp_whole_root K) [])
    (h_left_by : Cal P w K mg base 1 "left_by" (sp_left_by K) []) (h_rows_by_two : Cal P w K mg base 3 "rows_by_two" (sp_rows_by_two K) []) (h_told_by : Cal P w K mg base 1 "told_by" (sp_told_by K) []) : FnOk P w K mg base CX0 4 f fd P_rows_by_three (sp_rows_by_three K) := by
  refine F.ok sc_rows_by_three (fun vs H Q E h => ?_) (fun cdv A outer s H vs Q E hr h => ?_)
  · obtain ⟨l, ns, c, b, a, rfl, _⟩ := h
    rfl
  · obtain ⟨l, ns, c, b, a, rfl, hS, rfl, bc, bb, ba, t0, k⟩ := h
    refine ⟨_, (pss_cons (ps_set (i := 1) sc_rows_by_three.nd rfl (by first | exact Or.inl rfl | exact Or.inr rfl) (pe_c h_whole_root hr (by decide) rfl (pa_cons (pv 0) pa_nil)))
      (pss_cons (ps_if (pt_cmpR op_notN (pv 1) pe_non (nomark _)) (pss_cons (ps_asg (pe_c h_left_by hr (by decide) rfl (pa_cons (pv 0) (pa_cons (pv 1) pa_nil))) (pg_tup rfl (pgs_cons (pg_name (i := 4) sc_rows_by_three.nd rfl (by first | exact Or.inl rfl | exact Or.inr rfl)) (pgs_cons (pg_name (i := 5) sc_rows_by_three.nd rfl (by first | exact Or.inl rfl | exact Or.inr rfl)) pgs_nil))))
      (pss_one (ps_ret (pe_c h_rows_by_two hr (by decide) rfl (pa_cons (pv 4) (pa_cons (pv 5) pa_nil)))))) pss_nil)
      (pss_cons (ps_set (i := 2) sc_rows_by_three.nd rfl (by first | exact Or.inl rfl | exact Or.inr rfl) (pe_lst (pa_cons (pe_tup (pa_cons pe_int (pa_cons (pe_lc (own := [("number", 3)]) (g := gName 3) (by rfl) sc_rows_by_three.nd (pi_list (pe_slice sl_list (pv 0) po_none (po_some pe_int))) (blkOk_by (own := [("number", 3)]) (N := N_rows_by_three) (sc := defScope s_rows_by_three) (by decide +kernel)) (fun _ _ _ _ _ => (pg_name (i := 3) sc_rows_by_three.nd rfl (by first | exact Or.inl rfl | exact Or.inr rfl))) (fun _ _ _ _ _ => pts_nil) (fun _ _ _ _ _ => (pe_tup (pa_cons (pe_op op_sub pe_int (pv 3)) (pa_cons pe_int pa_nil))))) pa_nil))) pa_nil)))
      (pss_cons (ps_set (i := 3) sc_rows_by_three.nd rfl (by first | exact Or.inl rfl | exact Or.inr rfl) (pe_c h_told_by hr (by decide) rfl (pa_cons (pv 0) pa_nil)))
      (pss_cons (ps_if (pt_cmpR op_isN (pe_c h_root_whole hr (by decide) rfl (pa_cons (pv 3) pa_nil)) pe_non (nomark _)) (pss_one (ps_expr (pe_bm PySem.F.plainAttrs_list PySem.F.slot_list_append PySem.F.type_list_append mt_append (pv 2) (pa_cons (pe_tup (pa_cons pe_int (pa_cons (pe_lst (pa_cons (pe_tup (pa_cons (pe_c h_bare_of hr (by decide) rfl (pa_cons (pv 3) pa_nil)) (pa_cons pe_int pa_nil))) (pa_cons (pe_tup (pa_cons pe_int (pa_cons pe_int pa_nil))) (pa_cons (pe_tup (pa_cons pe_int (pa_cons pe_int pa_nil))) pa_nil)))) pa_nil))) pa_nil)))) pss_nil)
      (pss_one (ps_ret (pv 2)))))))), ?_⟩
    refine ⟨_, rfl, l, _, c, b, a, rfl, hS, ⟨1, rfl⟩, bc, bb, ba, fun H1 s1 => ?_⟩
    have hS1 := s1.seq hS
    have t1 := t0
    cases ew : wholeZ c b a with
    | some r =>
      have br := wholeZ_in ew
      refine ⟨_, rfl, rfl, _, rfl, ?_⟩
      refine ite2 (fun _ => ?_) (fun hd => absurd rfl hd)
      refine ⟨_, rfl, _, rfl, l, _, c, b, a, r, rfl, hS1, ⟨1, rfl⟩, bb, ba, br, fun H2 p s2 hp => ?_⟩
      refine ⟨p, _, rfl, SqT.of hp, rfl, _, _, rfl, _, _, rfl, rfl, ?_⟩
      refine ⟨_, rfl, _, rfl, _, _, rfl, Nat.le_trans (ba.add br) (by decide), Nat.le_trans (bb.add (br.mul (ba.add br))) (by decide), left_ne ew t0, fun H3 v s3 hv => ?_⟩
      refine k _ v ((s1.trans s2).trans s3) ?_
      unfold rows3
      rw [ew]
      exact hv
    | none =>
      refine ⟨_, rfl, rfl, _, rfl, ?_⟩
      refine ite2 (fun hd => nomatch hd) (fun _ => ?_)
      refine ⟨_, rfl, _, rfl, l, _, rfl, hS1, fun q hq => ?_⟩
      have s2 := s1.trans (same_new (o := .lst [V.int c, V.int b, V.int a]) hq)
      refine ⟨q, rfl, ⟨_, SqL.of upd_same⟩, fun D hD => lc_list (K := K) (a := q) (xs := [c, b, a].map V.int) (fun i H' => ∃ us, H' D = some (.lst us) ∧ us.length = i ∧ FrsAt K H' us (([c, b, a].take i).map fun x => (0 - x, 1)) ∧ Same (upd H1 q (.lst [V.int c, V.int b, V.int a])) H') ⟨[], upd_same, rfl, .nil, same_new hD⟩ (fun i H' _ ⟨_, _, _, _, sm⟩ => SqL.of (sm _ _ upd_same)) ?_ ?_⟩
      · rintro i x H' hi ⟨us, hD', hl, hf, sm⟩
        obtain ⟨z, hz, rfl⟩ := item_of hi
        refine ⟨rfl, _, rfl, _, _, rfl, rfl, sz2, fun t ht => ?_⟩
        have hi3 : i < 3 := (List.getElem?_eq_some_iff.mp hz).1
        have hD2 := same_new (o := .tup [V.int (0 - z), V.int 1]) ht _ _ hD'
        refine ⟨us, hD2, small1000 (by omega), us ++ [.ref t], upd_same, by rw [List.length_append, hl]; rfl, ?_, ?_⟩
        · rw [take_more hz, List.map_append]
          exact FrsAt.updL hD2 (Paired.snoc (hf.mono (same_new ht)) (FrAt.new (q := (0 - z, 1)) upd_same))
        · intro b' u hb
          have : b' ≠ D := ne_of_none hb hD
          rw [upd_ne this]
          exact same_new ht _ _ (sm _ _ hb)
      · rintro H2 ⟨us, hD', hl, hf, sm⟩
        have s3 := s2.trans sm
        refine ⟨sz2, fun t ht => ⟨(show 1 ≤ sizeLine by decide), fun m hm => ?_⟩⟩
        have s4 := same_new (o := .tup [V.int 3, V.ref D]) ht
        have s5 := same_new (o := .lst [V.ref t]) hm
        have s6 := s3.trans (s4.trans s5)
        have row : RowAt K (upd (upd H2 t (.tup [V.int 3, V.ref D])) m (.lst [V.ref t])) (.ref t) (3, [(0 - c, 1), (0 - b, 1), (0 - a, 1)]) := ⟨t, D, us, rfl, s5 _ _ upd_same, s5 _ _ (s4 _ _ hD'), hf.mono (s4.trans s5)⟩
        refine ⟨_, rfl, l, _, rfl, s6.seq hS, (by show 2 ≤ 4; decide), (by show 4 ≤ 5; decide), ?_, fun H3 s7 => ?_⟩
        · intro x hx
          simp only [List.mem_cons, List.not_mem_nil, or_false] at hx
          rcases hx with rfl | rfl | rfl | rfl
          · exact bc
          · exact bb
          · exact ba
          · exact bd_lit
        have bt : Bd (10 ^ 9) (toldOf [c, b, a, 1]) := by
          have b18 : Bd 18 18 := bd_lit
          have b4 : Bd 4 4 := bd_lit
          have b27 : Bd 27 27 := bd_lit
          have := (((((((b18.mul ba).mul bb).mul bc).sub ((((b4.mul ba).mul ba).mul ba).mul bc)).add (((ba.mul ba).mul bb).mul bb)).sub (((b4.mul bb).mul bb).mul bb)).sub ((b27.mul bc).mul bc))
          exact Nat.le_trans this (by decide)
        refine ⟨_, rfl, toldOf [c, b, a, 1], rfl, ?_, fun r hr_ => ?_, fun no => ?_⟩
        · unfold Bd at bt; omega
        · have e := rootZ_of hr_
          refine ⟨rfl, _, rfl, ?_⟩
          refine ite2 (fun hd => nomatch of_decide_eq_true hd) (fun _ => ?_)
          refine ⟨_, rfl, k _ _ (s6.trans s7) ⟨m, [.ref t], rfl, s7 _ _ upd_same, ?_⟩⟩
          unfold rows3
          rw [ew]
          show RowsIn K H3 [.ref t] ((3, [(0 - c, 1), (0 - b, 1), (0 - a, 1)]) :: (if rootZ (toldOf [c, b, a, 1]) = none then _ else []))
          rw [e, if_neg (by intro z; cases z)]
          exact .cons (row.mono s7) .nil
        · have e := rootZ_no no
          refine ⟨rfl, _, rfl, ?_⟩
          refine ite2 (fun _ => ?_) (fun hd => absurd (decide_eq_true rfl) hd)
          refine ⟨_, rfl, .inl ⟨rfl, _, SqL.of (s7 _ _ upd_same)⟩, _, rfl, toldOf [c, b, a, 1], rfl, t0, Nat.le_trans bt (by decide), fun n hn => ⟨sz2, fun ta hta => ⟨sz2, fun tb htb => ⟨sz2, fun tc htc => ⟨sz3, fun ld hld => ⟨sz2, fun te hte => ?_⟩⟩⟩⟩⟩⟩
          have en := bareZ_of t0 hn
          have u1 := same_new (o := .tup [V.int n, V.int 1]) hta
          have u2 := same_new (o := .tup [V.int 0, V.int 1]) htb
          have u3 := same_new (o := .tup [V.int 0, V.int 1]) htc
          have u4 := same_new (o := .lst [V.ref ta, V.ref tb, V.ref tc]) hld
          have u5 := same_new (o := .tup [V.int 2, V.ref ld]) hte
          have hm' := u5 _ _ (u4 _ _ (u3 _ _ (u2 _ _ (u1 _ _ (s7 _ _ (upd_same (H := upd H2 t (.tup [V.int 3, V.ref D])) (a := m) (o := .lst [V.ref t])))))))
          refine ⟨m, _, _, rfl, rfl, hm', (show 1 < sizeLine by decide), ?_⟩
          have hmn : H m = none := (s3.trans s4).free hm
          have sD : Same H2 (upd (upd (upd (upd (upd H3 ta (.tup [V.int n, V.int 1])) tb (.tup [V.int 0, V.int 1])) tc (.tup [V.int 0, V.int 1])) ld (.lst [V.ref ta, V.ref tb, V.ref tc])) te (.tup [V.int 2, V.ref ld])) := (((((s4.trans s5).trans s7).trans u1).trans u2).trans u3).trans (u4.trans u5)
          have Dm : D ≠ m := ne_of_none (s4 _ _ hD') hm
          have lm : ld ≠ m := fun z => by rw [z] at hld; rw [(u3 _ _ (u2 _ _ (u1 _ _ (s7 _ _ (upd_same (H := upd H2 t (.tup [V.int 3, V.ref D])) (a := m) (o := .lst [V.ref t])))))) ] at hld; cases hld
          have tm : ∀ {x : Addr} {ys : List V} {H8 : Hp}, H8 m = some (.lst [V.ref t]) → H8 x = some (.tup ys) → x ≠ m := fun h1 h2 z => by rw [z, h1] at h2; cases h2
          have ht8 := (s5.trans s7) _ _ (upd_same (H := H2) (a := t) (o := .tup [V.int 3, V.ref D]))
          have ht9 := u5 _ _ (u4 _ _ (u3 _ _ (u2 _ _ (u1 _ _ ht8))))
          refine ⟨_, rfl, k _ _ (same_upd hmn (((((((s6.trans s7).trans u1).trans u2).trans u3).trans u4).trans u5))) ⟨m, [.ref t, .ref te], rfl, upd_same, ?_⟩⟩
          unfold rows3
          rw [ew]
          show RowsIn K _ [.ref t, .ref te] ((3, [(0 - c, 1), (0 - b, 1), (0 - a, 1)]) :: (if rootZ (toldOf [c, b, a, 1]) = none then _ else []))
          rw [e, if_pos rfl, en]
          refine .cons ⟨t, D, us, rfl, ?_, ?_, (hf.mono sD).updL hm'⟩ (.cons ⟨te, ld, [.ref ta, .ref tb, .ref tc], rfl, ?_, ?_, ?_⟩ .nil)
          · rw [upd_ne (tm hm' ht9)]; exact ht9
          · rw [upd_ne Dm]; exact sD _ _ hD'
          · rw [upd_ne (tm hm' upd_same)]; exact upd_same
          · rw [upd_ne lm]; exact u5 _ _ upd_same
          · refine FrsAt.updL hm' (.cons ⟨ta, rfl, u5 _ _ (u4 _ _ (u3 _ _ (u2 _ _ upd_same)))⟩ (.cons ⟨tb, rfl, u5 _ _ (u4 _ _ (u3 _ _ upd_same))⟩ (.cons ⟨tc, rfl, u5 _ _ (u4 _ _ upd_same)⟩ .nil)))
end
end My

namespace My
open PySem PySem.Spec PyProof.Rows L2
open C8 (Cal pe_c pe_gc)
theorem halves_even {m a b : Int} (h : m * m = a * a - 4 * b) : ∃ x y, 0 - a - m = 2 * x ∧ m - a = 2 * y ∧ x * y = b := by
  have e : (m + a) % 2 = 0 := by
    rcases Int.emod_two_eq (m + a) with z | z
    · exact z
    · exfalso
      obtain ⟨k, hk⟩ : ∃ k, m + a = 2 * k + 1 := ⟨(m + a) / 2, by omega⟩
      have hm : m = 2 * k + 1 - a := by omega
      subst hm
      have key : 4 * (k * k + k - a * k + b) = 2 * a - 1 := by grind
      omega
  obtain ⟨k, hk⟩ : ∃ k, m + a = 2 * k := ⟨(m + a) / 2, by omega⟩
  have hm : m = 2 * k - a := by omega
  subst hm
  refine ⟨-k, k - a, by omega, by omega, ?_⟩
  have key : 4 * (-k * (k - a)) = 4 * b := by grind
  omega
theorem halves_ne {b a x y : Int} (h : halvesZ b a = some (x, y)) (b0 : b ≠ 0) : x ≠ 0 ∧ y ≠ 0 ∧ x * y = b := by
  unfold halvesZ at h
  cases e : rootZ (a * a - 4 * b) with
  | none => rw [e] at h; cases h
  | some m =>
    rw [e] at h
    obtain ⟨u, v, h1, h2, h3⟩ := halves_even (rootZ_is e).symm
    have hp := Option.some.inj h
    have hx : x = u := by
      have : Int.fdiv (0 - a - (m : Int)) 2 = x := congrArg Prod.fst hp
      rw [h1, Int.mul_fdiv_cancel_left _ (by decide)] at this
      exact this.symm
    have hy : y = v := by
      have : Int.fdiv ((m : Int) - a) 2 = y := congrArg Prod.snd hp
      rw [h2, Int.mul_fdiv_cancel_left _ (by decide)] at this
      exact this.symm
    subst hx hy
    refine ⟨fun z => b0 ?_, fun z => b0 ?_, h3⟩
    · rw [← h3, z, Int.zero_mul]
    · rw [← h3, z, Int.mul_zero]
def numsOf : List Int → List Int
  | [p, q] => if p = q then [p] else [p, q]
  | l => l
noncomputable def numsZ (x y : Int) : List Int := numsOf ([bareZ x, bareZ y].filter (fun n => decide (n ≠ 1)))
def rowsOn : Nat → List Int → List Rw
  | _, [] => []
  | i, n :: r => (2, (n, 1) :: List.replicate i (0, 1)) :: rowsOn (i + 1) r
theorem rowsOn_len : ∀ (ms : List Int) (k : Nat), (rowsOn k ms).length = ms.length
  | [], _ => rfl
  | _ :: r, k => congrArg Nat.succ (rowsOn_len r (k + 1))
theorem rowsOn_at : ∀ {ms : List Int} {k i : Nat} {z : Int}, ms[i]? = some z → (rowsOn k ms)[i]? = some (2, (z, 1) :: List.replicate (k + i) (0, 1))
  | [], k, i, z, h => by simp at h
  | n :: r, k, 0, z, h => by
    have e : n = z := Option.some.inj h
    subst e
    rfl
  | n :: r, k, i + 1, z, h => by
    have ih := rowsOn_at (ms := r) (k := k + 1) (i := i) h
    show (rowsOn (k + 1) r)[i]? = _
    rw [ih, Nat.add_right_comm, Nat.add_assoc]
noncomputable def manyZ (b a : Int) : Int := ((rootZ ((a * a - 4 * b).fdiv (bareZ (a * a - 4 * b)))).getD 0 : Nat)
noncomputable def rows4 (b a : Int) : List Rw := match halvesZ b a with
  | some (x, y) => rowsOn 0 (numsZ x y)
  | none => (2, [(bareZ (a * a - 4 * b), 1)]) :: (if withinZ b a = none then (2, [low (0 - a, 2), low (manyZ b a, 2)]) :: (if rootZ b = none ∧ rootZ (b * bareZ (a * a - 4 * b)) = none then [(2, (bareZ b, 1) :: List.replicate 3 (0, 1))] else []) else [])
section
variable {c : Cs} {P : Program} {w : World} {K : PySem.W.Frag} {mg : Str → Option Value} {base : Heap}
/-- a row whose power does not stand at m -/
def RowNe (K : PySem.W.Frag) (H : Hp) (m : Addr) (v : V) (r : Rw) : Prop := ∃ (p l : Addr) (us : List V), v = .ref p ∧ l ≠ m ∧ H p = some (.tup [.int r.1, .ref l]) ∧ H l = some (.lst us) ∧ FrsAt K H us r.2
theorem RowNe.mono {H H' : Hp} {m : Addr} {v : V} {r : Rw} (h : RowNe K H m v r) (s : Same H H') : RowNe K H' m v r := by
  obtain ⟨p, l, us, e, n, h1, h2, h3⟩ := h
  exact ⟨p, l, us, e, n, s _ _ h1, s _ _ h2, h3.mono s⟩
theorem RowNe.row {H : Hp} {m : Addr} {v : V} {r : Rw} (h : RowNe K H m v r) : RowAt K H v r := by
  obtain ⟨p, l, us, e, n, h1, h2, h3⟩ := h
  exact ⟨p, l, us, e, h1, h2, h3⟩
theorem RowNe.upd {H : Hp} {m : Addr} {v : V} {r : Rw} {xs ys : List V} (hm : H m = some (.lst xs)) (h : RowNe K H m v r) : RowNe K (L2.upd H m (.lst ys)) m v r := by
  obtain ⟨p, l, us, e, n, h1, h2, h3⟩ := h
  refine ⟨p, l, us, e, n, ?_, ?_, h3.updL hm⟩
  · rw [upd_ne (fun z => by rw [z, hm] at h1; cases h1)]; exact h1
  · rw [upd_ne n]; exact h2
def RowsNe (K : PySem.W.Frag) (H : Hp) (m : Addr) (us : List V) (rs : List Rw) : Prop := Paired (RowNe K H m) us rs
theorem RowsNe.mono {H H' : Hp} {m : Addr} {us : List V} {rs : List Rw} (h : RowsNe K H m us rs) (s : Same H H') : RowsNe K H' m us rs := Paired.imp (fun _ _ x => x.mono s) h
theorem RowsNe.more {H : Hp} {m : Addr} {us : List V} {rs : List Rw} {u : V} {r : Rw} (h : RowsNe K H m us rs) (hm : H m = some (.lst us)) (x : RowNe K H m u r) : RowsNe K (L2.upd H m (.lst (us ++ [u]))) m (us ++ [u]) (rs ++ [r]) :=
  Paired.snoc (Paired.imp (fun _ _ z => z.upd hm) h) (x.upd hm)
theorem RowsNe.rows {H : Hp} {m : Addr} {us : List V} {rs : List Rw} (h : RowsNe K H m us rs) : RowsIn K H us rs := Paired.imp (fun _ _ x => x.row) h
theorem sz1 {a : V} : [a].length ≤ sizeLine := by show 1 ≤ sizeLine; decide
abbrev s_rows_by_four : Stmt := top 57
abbrev N_rows_by_four : List Str := ["polynomial", "some", "rows", "b", "a", "numbers", "number", "many", "at"]
abbrev P_rows_by_four : List Str := ["polynomial"]
theorem sc_rows_by_four : FnScope N_rows_by_four ["polynomial"] (defScope s_rows_by_four) := ⟨rfl, rfl, rfl, by decide +kernel, rfl, by decide +kernel, by decide +kernel⟩

def sp_rows_by_four (K : PySem.W.Frag) : Sp := fun vs H Q _ => ∃ (l : Addr) (b a : Int), vs = [.ref l] ∧ SqL K H l ([b, 0, a, 0, 1].map V.int) ∧ Bd 100 b ∧ Bd 100 a ∧ b ≠ 0 ∧ a * a - 4 * b ≠ 0 ∧ ∀ H' v, Same H H' → RowsAt K H' v (rows4 b a) → Q v H'
theorem ok_rows_by_four (T : Txt K mg c) {f : Addr} {fd : FuncData} (F : L2.Fun K "rows_by_four" "rows_by_four" s_rows_by_four f fd) (h_root_whole : Cal P w K mg base 1 "root_whole" sp_root []) (h_bare_of : Cal P w K mg base 2 "bare_of" sp_bare_of []) (h_halves : Cal P w K mg base 2 "halves" (sp_halves K) [])
    (h_nought : Cal P w K mg base 1 "nought" (sp_nought K) []) (h_by_squares : Cal P w K mg base 3 "by_squares" (sp_by_squares K) []) (h_root_within : Cal P w K mg base 2 "root_within" (sp_root_within K) []) (h_lowest : Cal P w K mg base 2 "lowest" (sp_lowest K) []) : FnOk P w K mg base CX0 4 f fd P_rows_by_four (sp_rows_by_four K) := by
  refine F.ok sc_rows_by_four (fun vs H Q E h => ?_) (fun cdv A outer s H vs Q E hr h => ?_)
  · obtain ⟨l, b, a, rfl, _⟩ := h
    rfl
  · obtain ⟨l, b, a, rfl, hS, bb, ba, b0, d0, k⟩ := h
    refine ⟨_, (pss_cons (ps_par (i := 3) (j := 4) (by rfl) sc_rows_by_four.nd rfl rfl (by decide) rfl rfl (pa_cons (pe_ix ix_list (pv 0) pe_int (fun _ _ => rfl)) (pa_cons (pe_ix ix_list (pv 0) pe_int (fun _ _ => rfl)) pa_nil)) (by rfl))
      (pss_cons (ps_set (i := 1) sc_rows_by_four.nd rfl (by first | exact Or.inl rfl | exact Or.inr rfl) (pe_c h_halves hr (by decide) rfl (pa_cons (pv 0) pa_nil)))
      (pss_cons (ps_if (pt_cmpR op_notN (pv 1) pe_non (nomark _)) (pss_cons (ps_setLc (i := 5) (own := [("number", 6)]) (g := gName 6) (by rfl) sc_rows_by_four.nd rfl rfl (sw_true rfl rfl rfl (by decide +kernel)) (pi_list (pe_lst (pa_cons (pe_c h_bare_of hr (by decide) rfl (pa_cons (pe_ix ix_list (pv 1) pe_int (fun _ _ => rfl)) pa_nil)) (pa_cons (pe_c h_bare_of hr (by decide) rfl (pa_cons (pe_ix ix_list (pv 1) pe_int (fun _ _ => rfl)) pa_nil)) pa_nil)))) (blkOk_by (own := [("number", 6)]) (N := N_rows_by_four) (sc := defScope s_rows_by_four) (by decide +kernel)) (fun _ _ _ _ _ => (pg_name (i := 6) sc_rows_by_four.nd rfl (by first | exact Or.inl rfl | exact Or.inr rfl))) (fun _ _ _ _ _ => (pts_one (pt_cmpR op_ne (pv 6) pe_int (nomark _)))) (fun _ _ _ _ _ => (pv 6)))
      (pss_cons (ps_if (pt_cmpR op_lt (pe_lenSetD rfl T.z_len rfl T.z_set (pv 5)) (pe_callB call_len_seq (by rfl) T.z_len (by decide +kernel) (pa_cons (pv 5) pa_nil)) (nomark _)) (pss_one (ps_set (i := 5) sc_rows_by_four.nd rfl (by first | exact Or.inl rfl | exact Or.inr rfl) (pe_slice sl_list (pv 5) po_none (po_some pe_int)))) pss_nil)
      (pss_one (ps_ret (pe_lc (own := [("at", 8), ("number", 6)]) (g := gTup K 2 (gCons (gName 8) (gCons (gName 6) gNil))) (by rfl) sc_rows_by_four.nd (pi_enum (by rfl) T.z_enumerate (pa_cons (pv 5) pa_nil)) (blkOk_by (own := [("at", 8), ("number", 6)]) (N := N_rows_by_four) (sc := defScope s_rows_by_four) (by decide +kernel)) (fun _ _ _ _ _ => (pg_tup rfl (pgs_cons (pg_name (i := 8) sc_rows_by_four.nd rfl (by first | exact Or.inl rfl | exact Or.inr rfl)) (pgs_cons (pg_name (i := 6) sc_rows_by_four.nd rfl (by first | exact Or.inl rfl | exact Or.inr rfl)) pgs_nil)))) (fun _ _ _ _ _ => pts_nil) (fun _ _ _ _ _ => (pe_tup (pa_cons pe_int (pa_cons (pe_op op_cat (pe_lst (pa_cons (pe_tup (pa_cons (pv 6) (pa_cons pe_int pa_nil))) pa_nil)) (pe_c h_nought hr (by decide) rfl (pa_cons (pv 8) pa_nil))) pa_nil))))))))) pss_nil)
      (pss_cons (ps_asg (pe_c h_by_squares hr (by decide) rfl (pa_cons (pv 0) pa_nil)) (pg_tup rfl (pgs_cons (pg_name (i := 6) sc_rows_by_four.nd rfl (by first | exact Or.inl rfl | exact Or.inr rfl)) (pgs_cons (pg_name (i := 7) sc_rows_by_four.nd rfl (by first | exact Or.inl rfl | exact Or.inr rfl)) pgs_nil))))
      (pss_cons (ps_set (i := 2) sc_rows_by_four.nd rfl (by first | exact Or.inl rfl | exact Or.inr rfl) (pe_lst (pa_cons (pe_tup (pa_cons pe_int (pa_cons (pe_lst (pa_cons (pe_tup (pa_cons (pv 6) (pa_cons pe_int pa_nil))) pa_nil)) pa_nil))) pa_nil)))
      (pss_cons (ps_if (pt_cmpR op_notN (pe_c h_root_within hr (by decide) rfl (pa_cons (pv 0) pa_nil)) pe_non (nomark _)) (pss_one (ps_ret (pv 2))) pss_nil)
      (pss_cons (ps_expr (pe_bm PySem.F.plainAttrs_list PySem.F.slot_list_append PySem.F.type_list_append mt_append (pv 2) (pa_cons (pe_tup (pa_cons pe_int (pa_cons (pe_lst (pa_cons (pe_c h_lowest hr (by decide) rfl (pa_cons (pe_op op_sub pe_int (pv 4)) (pa_cons pe_int pa_nil))) (pa_cons (pe_c h_lowest hr (by decide) rfl (pa_cons (pv 7) (pa_cons pe_int pa_nil))) pa_nil))) pa_nil))) pa_nil)))
      (pss_cons (ps_if (PW.pt (pw_and (pt_cmpR op_isN (pe_c h_root_whole hr (by decide) rfl (pa_cons (pv 3) pa_nil)) pe_non (nomark _)) (pw_and1 (pt_cmpR op_isN (pe_c h_root_whole hr (by decide) rfl (pa_cons (pe_op op_mulW (pv 3) (pv 6)) pa_nil)) pe_non (nomark _))))) (pss_one (ps_expr (pe_bm PySem.F.plainAttrs_list PySem.F.slot_list_append PySem.F.type_list_append mt_append (pv 2) (pa_cons (pe_tup (pa_cons pe_int (pa_cons (pe_op op_cat (pe_lst (pa_cons (pe_tup (pa_cons (pe_c h_bare_of hr (by decide) rfl (pa_cons (pv 3) pa_nil)) (pa_cons pe_int pa_nil))) pa_nil)) (pe_c h_nought hr (by decide) rfl (pa_cons pe_int pa_nil))) pa_nil))) pa_nil)))) pss_nil)
      (pss_one (ps_ret (pv 2))))))))))), ?_⟩
    refine ⟨_, rfl, l, _, _, _, rfl, rfl, hS, rfl, _, rfl, l, _, _, _, rfl, rfl, hS, rfl, _, _, rfl, ?_⟩
    refine ⟨_, rfl, l, _, b, a, rfl, hS, ⟨0, 0, 1, rfl⟩, bb, ba, fun en => ?_, fun x y es H1 p1 s1 hn1 hp1 => ?_⟩
    · refine ⟨_, rfl, rfl, _, rfl, ?_⟩
      refine ite2 (fun hd => nomatch hd) (fun _ => ?_)
      refine ⟨_, rfl, l, _, b, a, rfl, hS, ⟨0, 0, 1, rfl⟩, bb, ba, d0, fun n m H1 p e1 hn hD s1 hp => ?_⟩
      refine ⟨p, _, rfl, SqT.of hp, rfl, _, _, rfl, _, _, rfl, rfl, ?_⟩
      have em : manyZ b a = m := by
        unfold manyZ
        rw [← e1, hD, Int.mul_fdiv_cancel_left _ hn.1, rootZ_of rfl]; rfl
      have bm : m ≤ 102 := by
        have bD : Bd 10400 (a * a - 4 * b) := (ba.mul ba).sub ((bd_lit (n := 4)).mul bb)
        have e := congrArg Int.natAbs hD
        rw [Int.natAbs_mul, Int.natAbs_mul] at e
        have p0 : 0 < n.natAbs := Int.natAbs_pos.mpr hn.1
        have := Nat.le_mul_of_pos_left (m * m) p0
        have e' : (a * a - 4 * b).natAbs = n.natAbs * (m * m) := e
        unfold Bd at bD
        refine Nat.le_of_not_lt fun z => ?_
        have : 103 * 103 ≤ m * m := Nat.mul_le_mul z z
        omega
      have bn : Bd 10400 n := by
        have bD : Bd 10400 (a * a - 4 * b) := (ba.mul ba).sub ((bd_lit (n := 4)).mul bb)
        have e := congrArg Int.natAbs hD
        rw [Int.natAbs_mul] at e
        have p0 : 0 < ((m : Int) * m).natAbs := Int.natAbs_pos.mpr fun z => d0 (by rw [hD, z, Int.mul_zero])
        have := Nat.le_mul_of_pos_right n.natAbs p0
        unfold Bd at bD ⊢
        omega
      refine ⟨_, rfl, sz2, fun t1 ht1 => ⟨sz1, fun l1 hl1 => ⟨sz2, fun t2 ht2 => ⟨sz1, fun mm hmm => ?_⟩⟩⟩⟩
      have u1 := same_new (o := .tup [V.int n, V.int 1]) ht1
      have u2 := same_new (o := .lst [V.ref t1]) hl1
      have u3 := same_new (o := .tup [V.int 2, V.ref l1]) ht2
      have u4 := same_new (o := .lst [V.ref t2]) hmm
      have sA := ((s1.trans u1).trans u2).trans u3
      have sB := sA.trans u4
      have hmn : H mm = none := sA.free hmm
      have l1m : l1 ≠ mm := ne_of_none (u3 _ _ upd_same) hmm
      have row1 := RowsNe.mono (K := K) (m := mm) (us := [.ref t2]) (rs := [(2, [(n, 1)])]) (H' := _) (.cons ⟨t2, l1, [.ref t1], rfl, l1m, upd_same, u3 _ _ upd_same, .cons ⟨t1, rfl, u3 _ _ (u2 _ _ upd_same)⟩ .nil⟩ .nil) u4
      have hm1 := upd_same (H := upd (upd (upd H1 t1 (.tup [V.int n, V.int 1])) l1 (.lst [V.ref t1])) t2 (.tup [V.int 2, V.ref l1])) (a := mm) (o := .lst [V.ref t2])
      refine ⟨_, rfl, l, _, b, a, rfl, sB.seq hS, ⟨0, 0, 1, rfl⟩, bb, ba, fun H2 s2 => ?_⟩
      have sC := sB.trans s2
      have fin : ∀ (H' : Hp) (us : List V) (rs : List Rw), Same H H' → H' mm = some (.lst us) → RowsNe K H' mm us rs → rs = rows4 b a → Q (.ref mm) H' := fun H' us rs s h1 h2 h3 => k H' _ s ⟨mm, us, rfl, h1, by rw [← h3]; exact h2.rows⟩
      cases ew : withinZ b a with
      | some r =>
        refine ⟨rfl, _, rfl, ?_⟩
        refine ite2 (fun _ => ?_) (fun hd => absurd rfl hd)
        refine ⟨_, rfl, fin H2 _ _ sC (s2 _ _ hm1) (row1.mono s2) ?_⟩
        unfold rows4
        rw [en, ← e1]
        show _ = (2, [(n, 1)]) :: (if withinZ b a = none then _ else [])
        rw [ew, if_neg (by intro z; cases z)]
      | none =>
        refine ⟨rfl, _, rfl, ?_⟩
        refine ite2 (fun hd => nomatch hd) (fun _ => ?_)
        refine ⟨_, rfl, .inl ⟨rfl, _, SqL.of (s2 _ _ hm1)⟩, _, rfl, _, _, rfl, rfl, (0 - a, 2), rfl, (by show (2 : Int) ≠ 0; decide), (by show Sz 8000 2; exact Sz.mono (n := 2) (by unfold Sz; decide) (by decide)), fun H3 pa s3 hpa _ => ⟨_, rfl, ((m : Int), 2), rfl, (by show (2 : Int) ≠ 0; decide), (by show Sz 8000 2; exact Sz.mono (n := 2) (by unfold Sz; decide) (by decide)), fun H4 pb s4 hpb _ => ⟨sz2, fun l2 hl2 => ⟨sz2, fun t3 ht3 => ?_⟩⟩⟩⟩
        have v1 := same_new (o := .lst [V.ref pa, V.ref pb]) hl2
        have v2 := same_new (o := .tup [V.int 2, V.ref l2]) ht3
        have s24 := (s3.trans s4).trans (v1.trans v2)
        have hm2 := s24 _ _ (s2 _ _ hm1)
        refine ⟨mm, _, _, rfl, rfl, hm2, (show 1 < sizeLine by decide), ?_⟩
        have l2m : l2 ≠ mm := fun z => by rw [z] at hl2; rw [s4 _ _ (s3 _ _ (s2 _ _ hm1))] at hl2; cases hl2
        have row2 := (row1.mono (s2.trans s24)).more hm2 (u := .ref t3) (r := (2, [low (0 - a, 2), low ((m : Int), 2)])) ⟨t3, l2, [.ref pa, .ref pb], rfl, l2m, upd_same, v2 _ _ upd_same, .cons ⟨pa, rfl, v2 _ _ (v1 _ _ (s4 _ _ hpa))⟩ (.cons ⟨pb, rfl, v2 _ _ (v1 _ _ hpb)⟩ .nil)⟩
        have sD := same_upd (o := .lst ([V.ref t2] ++ [V.ref t3])) hmn (sC.trans s24)
        have base_ : rows4 b a = [(2, [(n, 1)])] ++ [(2, [low (0 - a, 2), low ((m : Int), 2)])] ++ (if rootZ b = none ∧ rootZ (b * n) = none then [(2, (bareZ b, 1) :: List.replicate 3 (0, 1))] else []) := by
          unfold rows4
          rw [en, ← e1, em]
          show (2, [(n, 1)]) :: (if withinZ b a = none then _ else []) = _
          rw [ew, if_pos rfl]; rfl
        refine ⟨_, rfl, b, rfl, ?_, fun r hr_ => ?_, fun no => ?_⟩
        · unfold Bd at bb; omega
        · refine ⟨rfl, _, rfl, ?_⟩
          refine ite2 (fun hd => nomatch of_decide_eq_true hd) (fun _ => ?_)
          refine ⟨_, rfl, fin _ _ _ sD upd_same row2 ?_⟩
          rw [base_, rootZ_of hr_, if_neg (fun z => by cases z.1)]; rfl
        · have eb := rootZ_no no
          refine ⟨rfl, _, rfl, ?_⟩
          refine ite2 (fun _ => ?_) (fun hd => absurd (decide_eq_true rfl) hd)
          refine ⟨_, rfl, _, rfl, _, _, rfl, rfl, bb.cm bn, b * n, rfl, ?_, fun r hr_ => ?_, fun no2 => ?_⟩
          · have := bb.mul bn
            unfold Bd at this
            omega
          · refine ⟨rfl, _, rfl, ?_⟩
            refine ite2 (fun hd => nomatch of_decide_eq_true hd) (fun _ => ?_)
            refine ⟨_, rfl, fin _ _ _ sD upd_same row2 ?_⟩
            rw [base_, rootZ_of hr_, if_neg (fun z => by cases z.2)]; rfl
          · have ebn := rootZ_no no2
            refine ⟨rfl, _, rfl, ?_⟩
            refine ite2 (fun _ => ?_) (fun hd => absurd (decide_eq_true rfl) hd)
            refine ⟨_, rfl, .inl ⟨rfl, _, SqL.of upd_same⟩, _, rfl, b, rfl, b0, Nat.le_trans bb (by decide), fun nb hnb => ⟨sz2, fun tq htq => ⟨sz1, fun lq hlq => ⟨3, rfl, by decide, fun H5 pn usn s5 hpn0 hpn hfn => ⟨lq, pn, _, _, rfl, rfl, s5 _ _ upd_same, hpn, ?_, fun pc hpc => ⟨sz2, fun t5 ht5 => ?_⟩⟩⟩⟩⟩⟩
            · have := Paired.length hfn
              show 1 + usn.length ≤ sizeLine
              rw [this]
              show 4 ≤ sizeLine
              decide
            have w1 := same_new (o := .tup [V.int nb, V.int 1]) htq
            have w2 := same_new (o := .lst [V.ref tq]) hlq
            have w3 := same_new (o := .lst ([V.ref tq] ++ usn)) hpc
            have w4 := same_new (o := .tup [V.int 2, V.ref pc]) ht5
            have sE := ((w1.trans w2).trans s5).trans (w3.trans w4)
            have hm3 := sE _ _ (upd_same (H := upd (upd H4 l2 (.lst [V.ref pa, V.ref pb])) t3 (.tup [V.int 2, V.ref l2])) (a := mm) (o := .lst ([V.ref t2] ++ [V.ref t3])))
            refine ⟨mm, _, _, rfl, rfl, hm3, (show 2 < sizeLine by decide), ?_⟩
            have hm5 := ((w1.trans w2).trans s5) _ _ (upd_same (H := upd (upd H4 l2 (.lst [V.ref pa, V.ref pb])) t3 (.tup [V.int 2, V.ref l2])) (a := mm) (o := .lst ([V.ref t2] ++ [V.ref t3])))
            have pcm : pc ≠ mm := fun z => by rw [z] at hpc; rw [hm5] at hpc; cases hpc
            have row3 := (row2.mono sE).more hm3 (u := .ref t5) (r := (2, (nb, 1) :: List.replicate 3 (0, 1))) ⟨t5, pc, _, rfl, pcm, upd_same, w4 _ _ upd_same, .cons ⟨tq, rfl, w4 _ _ (w3 _ _ (s5 _ _ (w2 _ _ upd_same)))⟩ (hfn.mono (w3.trans w4))⟩
            refine ⟨_, rfl, fin _ _ _ (same_upd hmn (sD.trans sE)) upd_same row3 ?_⟩
            rw [base_, eb, ebn, if_pos ⟨rfl, rfl⟩, bareZ_of b0 hnb]
    · refine ⟨_, rfl, rfl, _, rfl, ?_⟩
      refine ite2 (fun _ => ?_) (fun hd => absurd rfl hd)
      obtain ⟨x0, y0, exy⟩ := halves_ne es b0
      have bx : Bd 100 x := by
        have e := congrArg Int.natAbs exy
        rw [Int.natAbs_mul] at e
        have p0 : 0 < y.natAbs := Int.natAbs_pos.mpr y0
        have := Nat.le_mul_of_pos_right x.natAbs p0
        unfold Bd at bb ⊢
        omega
      have by' : Bd 100 y := by
        have e := congrArg Int.natAbs exy
        rw [Int.natAbs_mul] at e
        have p0 : 0 < x.natAbs := Int.natAbs_pos.mpr x0
        have := Nat.le_mul_of_pos_left y.natAbs p0
        unfold Bd at bb ⊢
        omega
      have loop : ∀ (H' : Hp) (D2 : Addr) (ms : List Int) (o1 o2 o6 o7 o8 : Option V) (v5 : Option V), Same H H' → H' D2 = some (.lst (ms.map V.int)) → ms = numsZ x y → ms.length ≤ 2 → v5 = some (.ref D2) →
          tLc (iEnum K (tCons (tVar 5) tNil)) (gTup K 2 (gCons (gName 8) (gCons (gName 6) gNil))) tYes (tTup (tCons (tC (V.int 2)) (tCons (tOp rCat (tLst (tCons (tTup (tCons (tVar 6) (tCons (tC (V.int 1)) tNil))) tNil)) (tCall (sp_nought K) [] C8.E0 (tCons (tVar 8) tNil))) tNil))) [8, 6]
            [some (.ref l), o1, o2, some (.int b), some (.int a), v5, o6, o7, o8] H' Q := by
        rintro H' D2 ms o1 o2 o6 o7 o8 v5 sH hD2 hms hl2 rfl
        refine ⟨_, rfl, D2, _, rfl, SqL.of hD2, fun E hE => lc_it walk_enum (fun i H'' => ∃ us, H'' E = some (.lst us) ∧ us.length = i ∧ RowsNe K H'' E us ((rowsOn 0 ms).take i) ∧ Same H' H'') ⟨[], upd_same, rfl, .nil, same_new hE⟩ (fun i H'' _ ⟨_, _, _, _, sm⟩ => SqL.of (sm _ _ hD2)) ?_ ?_⟩
        · rintro i v H1 H2 hi ⟨us, hE', hlen, hr_, sm⟩ ⟨t, y1, y2, rfl, hn, rfl, hy1, hy2⟩
          cases hy1
          obtain ⟨z, hz, rfl⟩ := item_of hy2
          refine ⟨t, _, rfl, SqT.of upd_same, rfl, _, _, rfl, _, _, rfl, rfl, rfl, ?_⟩
          have hi2 : i < 2 := Nat.lt_of_lt_of_le (List.getElem?_eq_some_iff.mp hz).1 hl2
          have w0 := same_new (o := .tup [V.int (i : Nat), V.int z]) hn
          refine ⟨_, rfl, sz2, fun ta hta => ⟨sz1, fun la hla => ⟨_, rfl, i, rfl, by omega, fun H5 pn usn s5 hn0 hpn hfn => ⟨la, pn, _, _, rfl, rfl, s5 _ _ upd_same, hpn, ?_, fun pc hpc => ⟨sz2, fun t5 ht5 => ?_⟩⟩⟩⟩⟩
          · have := Paired.length hfn
            rw [List.length_replicate] at this
            show 1 + usn.length ≤ sizeLine
            exact Nat.le_of_lt (small1000 (by omega))
          have w1 := same_new (o := .tup [V.int z, V.int 1]) hta
          have w2 := same_new (o := .lst [V.ref ta]) hla
          have w3 := same_new (o := .lst ([V.ref ta] ++ usn)) hpc
          have w4 := same_new (o := .tup [V.int 2, V.ref pc]) ht5
          have wA := ((w0.trans w1).trans w2).trans s5
          have wB := wA.trans (w3.trans w4)
          have hE5 := wB _ _ hE'
          have pcE : pc ≠ E := fun z => by rw [z] at hpc; rw [wA _ _ hE'] at hpc; cases hpc
          refine ⟨us, hE5, small1000 (by omega), us ++ [.ref t5], upd_same, by rw [List.length_append, hlen]; rfl, ?_, same_upd hE (sm.trans wB)⟩
          have ra := rowsOn_at (k := 0) hz
          rw [Nat.zero_add] at ra
          rw [take_more ra]
          exact (hr_.mono wB).more hE5 ⟨t5, pc, _, rfl, pcE, upd_same, w4 _ _ upd_same, .cons ⟨ta, rfl, w4 _ _ (w3 _ _ (s5 _ _ (w2 _ _ upd_same)))⟩ (hfn.mono (w3.trans w4))⟩
        · rintro H'' ⟨us, hE', hlen, hr_, sm⟩
          rw [List.length_map, ← rowsOn_len ms 0, List.take_length] at hr_
          refine k _ _ (sH.trans sm) ⟨E, us, rfl, hE', ?_⟩
          unfold rows4
          rw [es]
          show RowsIn K H'' us (rowsOn 0 (numsZ x y))
          rw [← hms]
          exact hr_.rows
      refine ⟨_, rfl, p1, _, _, _, rfl, rfl, SqL.of hp1, rfl, x, rfl, x0, Nat.le_trans bx (by decide), fun ux hux => ⟨_, rfl, p1, _, _, _, rfl, rfl, SqL.of hp1, rfl, y, rfl, y0, Nat.le_trans by' (by decide), fun uy huy => ⟨sz2, fun lx hlx => ⟨lx, rfl, ⟨_, SqL.of upd_same⟩, fun D hD => lc_list (K := K) (a := lx) (xs := [ux, uy].map V.int) (fun i H' => H' D = some (.lst ((([ux, uy].take i).filter (fun n => decide (n ≠ 1))).map V.int)) ∧ Same (upd H1 lx (.lst [V.int ux, V.int uy])) H') ⟨upd_same, same_new hD⟩ (fun i H' _ ⟨_, sm⟩ => SqL.of (sm _ _ upd_same)) ?_ ?_⟩⟩⟩⟩
      · rintro i z H' hi ⟨hD', sm⟩
        obtain ⟨z, hz, rfl⟩ := item_of hi
        refine ⟨rfl, _, rfl, rfl, _, rfl, ?_⟩
        refine ite2 (fun hc => ?_) (fun hc => ?_)
        · have z1 : z ≠ 1 := fun e => by rw [e] at hc; cases hc
          refine ⟨_, rfl, _, hD', ?_, ?_, same_upd hD sm⟩
          · rw [List.length_map]
            exact Nat.lt_of_le_of_lt (List.length_filter_le _ _) (Nat.lt_of_le_of_lt (List.length_take_le _ _) (small1000 (by have := (List.getElem?_eq_some_iff.mp hz).1; simp at this; omega)))
          · rw [upd_same, take_more hz, List.filter_append, List.map_append]
            have : List.filter (fun n => decide (n ≠ 1)) [z] = [z] := by simp [z1]
            rw [this]; rfl
        · have z1 : z = 1 := by
            refine Classical.byContradiction fun q => hc ?_
            have : ¬ (V.int z = V.int 1) := fun w => q (by injection w)
            rw [decide_eq_false this]; rfl
          refine ⟨?_, sm⟩
          rw [take_more hz, List.filter_append]
          have : List.filter (fun n => decide (n ≠ 1)) [z] = [] := by simp [z1]
          rw [this, List.append_nil]; exact hD'
      · rintro H2 ⟨hD', sm⟩
        have s2 := (s1.trans (same_new hlx)).trans sm
        rw [← bareZ_of x0 hux, ← bareZ_of y0 huy] at hD'
        have hD'' : H2 D = some (.lst (([bareZ x, bareZ y].filter (fun n => decide (n ≠ 1))).map V.int)) := hD'
        obtain ⟨ns, hns⟩ : ∃ ns, ns = [bareZ x, bareZ y].filter (fun n => decide (n ≠ 1)) := ⟨_, rfl⟩
        rw [← hns] at hD''
        have nl : ns.length ≤ 2 := by rw [hns]; exact List.length_filter_le _ _
        refine ⟨_, rfl, D, ns, rfl, SqL.of hD'', by omega, _, rfl, D, _, rfl, .inl (SqL.of hD''), _, _, rfl, rfl, _, rfl, ?_⟩
        have en : numsZ x y = numsOf ns := by
          unfold numsZ
          rw [← hns]
        have s2x := s2
        rcases ns with _ | ⟨p, _ | ⟨q, _ | ⟨r, ns⟩⟩⟩
        · refine ite2 (fun hc => absurd hc (by decide)) (fun _ => ?_)
          exact loop H2 D [] _ _ _ _ _ _ s2 hD'' en.symm (by decide) rfl
        · refine ite2 (fun hc => absurd hc (by rw [show (PyProof.Rows.firstMet (fun i => [p].getD i 0) [p].length).length = 1 from fm1 p]; show ¬ (decide (((1 : Nat) : Int) < ((1 : Nat) : Int)) = true); decide)) (fun _ => ?_)
          exact loop H2 D [p] _ _ _ _ _ _ s2 hD'' en.symm (by show 1 ≤ 2; decide) rfl
        · have ef : (PyProof.Rows.firstMet (fun i => [p, q].getD i 0) [p, q].length).length = if p = q then 1 else 2 := fm2 p q
          by_cases e : p = q
          · refine ite2 (fun _ => ?_) (fun hc => absurd (by rw [ef, if_pos e]; rfl) hc)
            refine ⟨_, rfl, _, rfl, D, _, rfl, SqL.of hD'', fun D2 hD2 => ?_⟩
            have en' : [p] = numsZ x y := by
              rw [en]
              exact (if_pos e).symm
            exact loop _ D2 [p] _ _ _ _ _ _ (s2.trans (same_new hD2)) upd_same en' (by show 1 ≤ 2; decide) rfl
          · refine ite2 (fun hc => absurd hc (by rw [ef, if_neg e]; show ¬ (decide (((2 : Nat) : Int) < ((2 : Nat) : Int)) = true); decide)) (fun _ => ?_)
            have en' : [p, q] = numsZ x y := by
              rw [en]
              exact (if_neg e).symm
            exact loop H2 D [p, q] _ _ _ _ _ _ s2 hD'' en' (by show 2 ≤ 2; decide) rfl
        · simp at nl
end
end My

namespace My
open PySem PySem.Spec PyProof.Rows L2
open C8 (Cal pe_c pe_gc)
noncomputable def rowsZ : List Int → List Rw
  | [q, p, _] => rows2 p q
  | [c, b, a, _] => rows3 c b a
  | [b, _, a, _, _] => rows4 b a
  | _ => []
def waysStep (found : List (List Int)) (r : Rw) : List (List Int) := ((List.range r.1.toNat).map fun o => found.map fun p => p ++ [((o : Nat) : Int)]).flatten
def waysOf (rs : List Rw) : List (List Int) := rs.foldl waysStep [[]]
def wPart (found : List (List Int)) (n : Nat) : List (List Int) := ((List.range n).map fun o => found.map fun p => p ++ [((o : Nat) : Int)]).flatten
theorem wPart_more (found : List (List Int)) (n : Nat) : wPart found (n + 1) = wPart found n ++ found.map fun p => p ++ [((n : Nat) : Int)] := by
  unfold wPart
  rw [List.range_succ, List.map_append, List.flatten_append]
  simp
theorem wPart_ok {found : List (List Int)} {m : Nat} (h : ∀ p ∈ found, p.length ≤ m) : ∀ n : Nat, (wPart found n).length = n * found.length ∧ ∀ p ∈ wPart found n, p.length ≤ m + 1
  | 0 => ⟨by rw [Nat.zero_mul]; rfl, fun p hp => by cases hp⟩
  | n + 1 => by
    obtain ⟨a, b⟩ := wPart_ok h n
    rw [wPart_more]
    refine ⟨by rw [List.length_append, a, List.length_map, Nat.add_mul, Nat.one_mul], fun p hp => ?_⟩
    rcases List.mem_append.mp hp with q | q
    · exact b p q
    · obtain ⟨z, hz, rfl⟩ := List.mem_map.mp q
      have := h z hz
      rw [List.length_append]
      show z.length + 1 ≤ m + 1
      omega
theorem ways_ok : ∀ (rs : List Rw) (ws : List (List Int)) (n m : Nat), ws.length ≤ n → (∀ p ∈ ws, p.length ≤ m) → (∀ r ∈ rs, r.1 = 2 ∨ r.1 = 3) → (rs.foldl waysStep ws).length ≤ n * 3 ^ rs.length ∧ ∀ p ∈ rs.foldl waysStep ws, p.length ≤ m + rs.length
  | [], ws, n, m, h1, h2, _ => ⟨by simpa using h1, h2⟩
  | r :: rs, ws, n, m, h1, h2, h3 => by
    obtain ⟨a, b⟩ := wPart_ok h2 r.1.toNat
    have hr := h3 r (List.mem_cons_self ..)
    have hn : r.1.toNat ≤ 3 := by omega
    have l : (waysStep ws r).length ≤ 3 * n := by
      have e : (waysStep ws r).length = r.1.toNat * ws.length := a
      rw [e]
      exact Nat.mul_le_mul hn h1
    obtain ⟨x, y⟩ := ways_ok rs (waysStep ws r) (3 * n) (m + 1) l b fun q hq => h3 q (List.mem_cons_of_mem _ hq)
    refine ⟨Nat.le_trans x ?_, fun p hp => ?_⟩
    · show 3 * n * 3 ^ rs.length ≤ n * 3 ^ (rs.length + 1)
      rw [Nat.pow_succ, Nat.mul_comm 3 n, Nat.mul_assoc, Nat.mul_comm 3]
      exact Nat.le_refl _
    · have := y p hp
      show p.length ≤ m + (rs.length + 1)
      omega
/-- a list of whole numbers that does not stand at m -/
def LNe (H : Hp) (m : Addr) (u : V) (ws : List Int) : Prop := ∃ a, u = .ref a ∧ a ≠ m ∧ H a = some (.lst (ws.map V.int))
def LsNe (H : Hp) (m : Addr) (us : List V) (wss : List (List Int)) : Prop := Paired (LNe H m) us wss
def LAt (H : Hp) (u : V) (ws : List Int) : Prop := ∃ a, u = .ref a ∧ H a = some (.lst (ws.map V.int))
def LsIn (H : Hp) (us : List V) (wss : List (List Int)) : Prop := Paired (LAt H) us wss
theorem LsIn.mono {H H' : Hp} {us : List V} {wss : List (List Int)} (h : LsIn H us wss) (s : Same H H') : LsIn H' us wss := Paired.imp (fun _ _ ⟨a, e, x⟩ => ⟨a, e, s _ _ x⟩) h
theorem LsNe.mono {H H' : Hp} {m : Addr} {us : List V} {wss : List (List Int)} (h : LsNe H m us wss) (s : Same H H') : LsNe H' m us wss := Paired.imp (fun _ _ ⟨a, e, n, x⟩ => ⟨a, e, n, s _ _ x⟩) h
theorem LsNe.upd {H : Hp} {m : Addr} {us : List V} {wss : List (List Int)} {o : HO} (h : LsNe H m us wss) : LsNe (L2.upd H m o) m us wss := Paired.imp (fun _ _ ⟨a, e, n, x⟩ => ⟨a, e, n, by rw [upd_ne n]; exact x⟩) h
theorem LsNe.ins {H : Hp} {m : Addr} {us : List V} {wss : List (List Int)} (h : LsNe H m us wss) : LsIn H us wss := Paired.imp (fun _ _ ⟨a, e, _, x⟩ => ⟨a, e, x⟩) h
theorem LsIn.ne {H : Hp} {m : Addr} {us : List V} {wss : List (List Int)} (h : LsIn H us wss) (hm : H m = none) : LsNe H m us wss := Paired.imp (fun _ _ ⟨a, e, x⟩ => ⟨a, e, ne_of_none x hm, x⟩) h
theorem Paired.imp2 {α β : Type} {F G R : α → β → Prop} (f : ∀ a b, F a b → G a b → R a b) : ∀ {l : List α} {m : List β}, Paired F l m → Paired G l m → Paired R l m
  | _, _, .nil, _ => .nil
  | _, _, .cons h t, .cons h' t' => .cons (f _ _ h h') (Paired.imp2 f t t')
theorem Paired.app {α β : Type} {F : α → β → Prop} : ∀ {l l' : List α} {m m' : List β}, Paired F l m → Paired F l' m' → Paired F (l ++ l') (m ++ m')
  | _, _, _, _, .nil, h => h
  | _, _, _, _, .cons x t, h => .cons x (Paired.app t h)
theorem Paired.at {α β : Type} {F : α → β → Prop} : ∀ {l : List α} {m : List β} {i : Nat} {x : α}, Paired F l m → l[i]? = some x → ∃ y, m[i]? = some y ∧ F x y
  | _, _, i, x, .nil, h => by simp at h
  | _, _, 0, x, .cons f t, h => by
    cases h
    exact ⟨_, rfl, f⟩
  | _, _, i + 1, x, .cons f t, h => Paired.at (i := i) t h
section
variable {c : Cs} {P : Program} {w : World} {K : PySem.W.Frag} {mg : Str → Option Value} {base : Heap}
abbrev s_rows_of : Stmt := top 58
abbrev N_rows_of : List Str := ["polynomial"]
abbrev P_rows_of : List Str := ["polynomial"]
theorem sc_rows_of : FnScope N_rows_of ["polynomial"] (defScope s_rows_of) := ⟨rfl, rfl, rfl, by decide +kernel, rfl, by decide +kernel, by decide +kernel⟩

def sp_rows_of (K : PySem.W.Frag) : Sp := fun vs H Q _ => ∃ (l : Addr) (ns : List Int), vs = [.ref l] ∧ SqL K H l (ns.map V.int) ∧ GoodP ns ∧ ∀ H' v, Same H H' → RowsAt K H' v (rowsZ ns) → Q v H'
theorem ok_rows_of (T : Txt K mg c) {f : Addr} {fd : FuncData} (F : L2.Fun K "rows_of" "rows_of" s_rows_of f fd) (h_rows_by_two : Cal P w K mg base 3 "rows_by_two" (sp_rows_by_two K) []) (h_rows_by_three : Cal P w K mg base 4 "rows_by_three" (sp_rows_by_three K) []) (h_rows_by_four : Cal P w K mg base 4 "rows_by_four" (sp_rows_by_four K) []) : FnOk P w K mg base CX0 5 f fd P_rows_of (sp_rows_of K) := by
  refine F.ok sc_rows_of (fun vs H Q E h => ?_) (fun cdv A outer s H vs Q E hr h => ?_)
  · obtain ⟨l, ns, rfl, _⟩ := h
    rfl
  · obtain ⟨l, ns, rfl, hS, G, k⟩ := h
    refine ⟨_, (pss_cons (ps_if (pt_cmpR op_eq (pe_callB call_len_seq (by rfl) T.z_len (by decide +kernel) (pa_cons (pv 0) pa_nil)) pe_int (nomark _)) (pss_one (ps_ret (pe_lst pa_nil))) pss_nil)
      (pss_cons (ps_if (pt_cmpR op_eq (pe_callB call_len_seq (by rfl) T.z_len (by decide +kernel) (pa_cons (pv 0) pa_nil)) pe_int (nomark _)) (pss_one (ps_ret (pe_c h_rows_by_two hr (by decide) rfl (pa_cons (pe_ix ix_list (pv 0) pe_int (fun _ _ => rfl)) (pa_cons (pe_ix ix_list (pv 0) pe_int (fun _ _ => rfl)) pa_nil))))) pss_nil)
      (pss_cons (ps_if (pt_cmpR op_eq (pe_callB call_len_seq (by rfl) T.z_len (by decide +kernel) (pa_cons (pv 0) pa_nil)) pe_int (nomark _)) (pss_one (ps_ret (pe_c h_rows_by_three hr (by decide) rfl (pa_cons (pv 0) pa_nil)))) pss_nil)
      (pss_one (ps_ret (pe_c h_rows_by_four hr (by decide) rfl (pa_cons (pv 0) pa_nil))))))), ?_⟩
    refine ⟨_, rfl, l, _, rfl, .inl hS, rfl, _, rfl, ?_⟩
    have l2 := G.l2
    have l5 := G.l5
    have gl := G.last
    have g1 := G.mid1
    have g3 := G.mid3
    have gt := G.told
    rcases ns with _ | ⟨n0, _ | ⟨n1, _ | ⟨n2, _ | ⟨n3, _ | ⟨n4, _ | ⟨n5, r⟩⟩⟩⟩⟩⟩
    · simp at l2
    · simp at l2
    · refine ite2 (fun hc => ?_) (fun hc => absurd (by simp) hc)
      exact ⟨(show 0 ≤ sizeLine by decide), fun p hp => k _ _ (same_new hp) ⟨p, [], rfl, upd_same, .nil⟩⟩
    · refine ite2 (fun hc => absurd hc (by simp)) (fun hc => ?_)
      refine ⟨_, rfl, l, _, rfl, .inl hS, rfl, _, rfl, ?_⟩
      refine ite2 (fun hc => ?_) (fun hc => absurd (by simp) hc)
      have bq : Bd 100 n0 := G.sm _ (by simp)
      have bp : Bd 100 n1 := G.sm _ (by simp)
      exact ⟨_, rfl, l, _, _, _, rfl, rfl, hS, rfl, _, rfl, l, _, _, _, rfl, rfl, hS, rfl, n1, n0, rfl, Nat.le_trans bp (by decide), Nat.le_trans bq (by decide), gt, k⟩
    · refine ite2 (fun hc => absurd hc (by simp)) (fun hc => ?_)
      refine ⟨_, rfl, l, _, rfl, .inl hS, rfl, _, rfl, ?_⟩
      refine ite2 (fun hc => absurd hc (by simp)) (fun hc => ?_)
      refine ⟨_, rfl, l, _, rfl, .inl hS, rfl, _, rfl, ?_⟩
      refine ite2 (fun hc => ?_) (fun hc => absurd (by simp) hc)
      have e3 : n3 = 1 := Option.some.inj gl
      subst e3
      exact ⟨_, rfl, l, _, n0, n1, n2, rfl, hS, rfl, G.sm _ (by simp), G.sm _ (by simp), G.sm _ (by simp), gt, k⟩
    · refine ite2 (fun hc => absurd hc (by simp)) (fun hc => ?_)
      refine ⟨_, rfl, l, _, rfl, .inl hS, rfl, _, rfl, ?_⟩
      refine ite2 (fun hc => absurd hc (by simp)) (fun hc => ?_)
      refine ⟨_, rfl, l, _, rfl, .inl hS, rfl, _, rfl, ?_⟩
      refine ite2 (fun hc => absurd hc (by simp)) (fun hc => ?_)
      have e4 : n4 = 1 := Option.some.inj gl
      have e1 : n1 = 0 := Option.some.inj (g1 rfl)
      have e3 : n3 = 0 := Option.some.inj (g3 rfl)
      subst e4 e1 e3
      have gt' : n0 * (n2 * n2 - 4 * n0) ≠ 0 := gt
      exact ⟨_, rfl, l, n0, n2, rfl, hS, G.sm _ (by simp), G.sm _ (by simp), fun z => gt' (by rw [z, Int.zero_mul]), fun z => gt' (by rw [z, Int.mul_zero]), k⟩
    · simp at l5
abbrev s_ways_of : Stmt := top 44
abbrev N_ways_of : List Str := ["rows", "found", "degree", "power", "longer", "often", "powers"]
abbrev P_ways_of : List Str := ["rows"]
theorem sc_ways_of : FnScope N_ways_of ["rows"] (defScope s_ways_of) := ⟨rfl, rfl, rfl, by decide +kernel, rfl, by decide +kernel, by decide +kernel⟩

def sp_ways_of (K : PySem.W.Frag) : Sp := fun vs H Q _ => ∃ (v : V) (rs : List Rw), vs = [v] ∧ RowsAt K H v rs ∧ rs.length ≤ 3 ∧ (∀ r ∈ rs, r.1 = 2 ∨ r.1 = 3) ∧ ∀ H' p us, Same H H' → H p = none → H' p = some (.lst us) → LsIn H' us (waysOf rs) → Q (.ref p) H'
theorem ok_ways_of (T : Txt K mg c) {f : Addr} {fd : FuncData} (F : L2.Fun K "ways_of" "ways_of" s_ways_of f fd) : FnOk P w K mg base CX0 1 f fd P_ways_of (sp_ways_of K) := by
  refine F.ok sc_ways_of (fun vs H Q E h => ?_) (fun cdv A outer s H vs Q E hr h => ?_)
  · obtain ⟨v, rs, rfl, _⟩ := h
    rfl
  · obtain ⟨v, rs, rfl, ⟨l, urs, rfl, hl, hrs⟩, l3, dg, k⟩ := h
    refine ⟨_, (pss_cons (ps_set (i := 1) sc_ways_of.nd rfl (by first | exact Or.inl rfl | exact Or.inr rfl) (pe_lst (pa_cons (pe_lst pa_nil) pa_nil)))
      (pss_cons (ps_for PassesOwn.never rfl (pi_list (pv 0)) (pg_tup rfl (pgs_cons (pg_name (i := 2) sc_ways_of.nd rfl (by first | exact Or.inl rfl | exact Or.inr rfl)) (pgs_cons (pg_name (i := 3) sc_ways_of.nd rfl (by first | exact Or.inl rfl | exact Or.inr rfl)) pgs_nil))) (pss_cons (ps_set (i := 4) sc_ways_of.nd rfl (by first | exact Or.inl rfl | exact Or.inr rfl) (pe_lst pa_nil))
      (pss_cons (ps_for PassesOwn.never rfl (pi_range1 rfl T.z_range (pa_cons (pv 2) pa_nil)) (pg_name (i := 5) sc_ways_of.nd rfl (by first | exact Or.inl rfl | exact Or.inr rfl)) (pss_one (ps_aug (i := 4) sc_ways_of.nd rfl (by first | exact Or.inl rfl | exact Or.inr rfl) (pe_lc (own := [("powers", 6)]) (g := gName 6) (by rfl) sc_ways_of.nd (pi_list (pv 1)) (blkOk_by (own := [("powers", 6)]) (N := N_ways_of) (sc := defScope s_ways_of) (by decide +kernel)) (fun _ _ _ _ _ => (pg_name (i := 6) sc_ways_of.nd rfl (by first | exact Or.inl rfl | exact Or.inr rfl))) (fun _ _ _ _ _ => pts_nil) (fun _ _ _ _ _ => (pe_op op_cat (pv 6) (pe_lst (pa_cons (pv 5) pa_nil))))) iop_ext)))
      (pss_one (ps_set (i := 1) sc_ways_of.nd rfl (by first | exact Or.inl rfl | exact Or.inr rfl) (pv 4))))))
      (pss_one (ps_ret (pv 1))))), ?_⟩
    refine ⟨(show 0 ≤ sizeLine by decide), fun e he => ⟨sz1, fun f0 hf0 => ?_⟩⟩
    have s0 := (same_new (o := .lst []) he).trans (same_new (o := .lst [V.ref e]) hf0)
    have len := Paired.length hrs
    refine ⟨_, rfl, l, rfl, ⟨_, SqL.of (s0 _ _ hl)⟩, for_list (K := K) (a := l) (xs := urs) (fun i σ H' => ∃ (f : Addr) (us : List V) (o2 o3 o4 o5 o6 : Option V), σ = [some (.ref l), some (.ref f), o2, o3, o4, o5, o6] ∧ H' f = some (.lst us) ∧ H f = none ∧ LsIn H' us (waysOf (rs.take i)) ∧ Same H H') ⟨f0, [.ref e], _, _, _, _, _, rfl, upd_same, (same_new (o := .lst []) he).free hf0, .cons ⟨e, rfl, ?_⟩ .nil, s0⟩ (fun i σ H' _ ⟨_, _, _, _, _, _, _, _, _, _, _, sm⟩ => SqL.of (sm _ _ hl)) ?_ ?_⟩
    · rw [upd_ne (ne_of_none upd_same hf0)]
      exact upd_same
    · rintro i x σ H' hi ⟨f, us, o2, o3, o4, o5, o6, rfl, hf, hfn, hus, sm⟩
      obtain ⟨r, hri, ⟨p, lp, up, rfl, hp, hlp, _⟩⟩ := Paired.at hrs hi
      have hd := dg r (List.mem_of_getElem? hri)
      have i3 : i < 3 := Nat.lt_of_lt_of_le (List.getElem?_eq_some_iff.mp hri).1 l3
      obtain ⟨W, hW⟩ : ∃ W, W = waysOf (rs.take i) := ⟨_, rfl⟩
      have wok := ways_ok (rs.take i) [[]] 1 0 (by decide) (fun p hp => by rw [List.mem_singleton.mp hp]; decide) (fun r hr => dg r (List.mem_of_mem_take hr))
      have tl : (rs.take i).length ≤ 2 := by rw [List.length_take]; omega
      have Wl : W.length ≤ 9 := by
        rw [hW]
        refine Nat.le_trans wok.1 ?_
        rw [Nat.one_mul]
        exact Nat.le_trans (Nat.pow_le_pow_right (by decide) tl) (by decide)
      have Wp : ∀ p ∈ W, p.length ≤ 2 := fun p hp => by
        rw [hW] at hp
        have := wok.2 p hp
        omega
      rw [← hW] at hus
      have ul := Paired.length hus
      refine ⟨p, _, rfl, SqT.of (sm _ _ hp), rfl, _, _, rfl, _, _, rfl, rfl, ?_⟩
      refine ⟨(show 0 ≤ sizeLine by decide), fun L hL => ?_⟩
      refine ⟨_, rfl, r.1, rfl, by omega, by omega, for_range (lo := 0) (n := r.1.toNat) (fun o σ H2 => (∃ (o5 o6 : Option V), σ = [some (.ref l), some (.ref f), some (.int r.1), some (.ref lp), some (.ref L), o5, o6]) ∧ ∃ xs, H2 L = some (.lst xs) ∧ LsNe H2 L xs (wPart W o) ∧ Same H' H2) ⟨⟨_, _, rfl⟩, [], upd_same, .nil, same_new hL⟩ ?_ ?_⟩
      · rintro o σ H2 ho ⟨⟨q5, q6, rfl⟩, xs, hLx, hxs, s2⟩
        have o3' : o < 3 := by omega
        have xl := Paired.length hxs
        have pl := (wPart_ok Wp o).1
        have pl27 : (wPart W o).length ≤ 27 := by
          rw [pl]
          exact Nat.mul_le_mul (show o ≤ 3 by omega) Wl
        refine ⟨_, rfl, _, rfl, f, rfl, ⟨_, SqL.of (s2 _ _ hf)⟩, fun E hE => lc_list (K := K) (a := f) (xs := us) (fun j H3 => ∃ ys, H3 E = some (.lst ys) ∧ ys.length = j ∧ LsNe H3 E ys ((W.take j).map fun p => p ++ [((o : Nat) : Int)]) ∧ LsNe H3 L ys ((W.take j).map fun p => p ++ [((o : Nat) : Int)]) ∧ Same H2 H3) ⟨[], upd_same, rfl, .nil, .nil, same_new hE⟩ (fun j H3 _ ⟨_, _, _, _, _, s3⟩ => SqL.of (s3 _ _ (s2 _ _ hf))) ?_ ?_⟩
        · rintro j x H3 hj ⟨ys, hEy, yl, yE, yL, s3⟩
          obtain ⟨ws, hws, ⟨a, rfl, ha⟩⟩ := Paired.at hus hj
          have wl := Wp ws (List.mem_of_getElem? hws)
          have ha3 := s3 _ _ (s2 _ _ ha)
          refine ⟨rfl, _, rfl, _, rfl, sz1, fun t ht => ?_⟩
          have w1 := same_new (o := .lst [V.int (0 + (o : Int))]) ht
          refine ⟨a, t, _, _, rfl, rfl, w1 _ _ ha3, upd_same, ?_, fun q hq => ?_⟩
          · rw [List.length_map]
            show ws.length + 1 ≤ sizeLine
            exact Nat.le_of_lt (small1000 (by omega))
          have w2 := same_new (o := .lst (ws.map V.int ++ [V.int (0 + (o : Int))])) hq
          have w12 := w1.trans w2
          have hE3 := w12 _ _ hEy
          have jl : j < 9 := Nat.lt_of_lt_of_le (List.getElem?_eq_some_iff.mp hws).1 Wl
          have qE : q ≠ E := fun z => by rw [z] at hq; rw [w1 _ _ hEy] at hq; cases hq
          have qL : q ≠ L := fun z => by rw [z] at hq; rw [w1 _ _ (s3 _ _ hLx)] at hq; cases hq
          have LE : L ≠ E := ne_of_none hLx hE
          have ewq : (ws.map V.int ++ [V.int (0 + (o : Int))]) = (ws ++ [((o : Nat) : Int)]).map V.int := by
            rw [List.map_append, Int.zero_add]; rfl
          refine ⟨ys, hE3, small1000 (by omega), ys ++ [.ref q], upd_same, by rw [List.length_append, yl]; rfl, ?_, ?_, same_upd hE (s3.trans w12)⟩
          · rw [take_more hws, List.map_append]
            exact Paired.app (yE.mono w12).upd (.cons ⟨q, rfl, qE, by rw [upd_ne qE, upd_same, ewq]⟩ .nil)
          · rw [take_more hws, List.map_append]
            have keep : ∀ {u : V} {z : List Int}, LNe H3 E u z → LNe H3 L u z → LNe (upd (upd (upd H3 t (.lst [V.int (0 + (o : Int))])) q (.lst (ws.map V.int ++ [V.int (0 + (o : Int))]))) E (.lst (ys ++ [V.ref q]))) L u z := fun ⟨a1, e1, n1, x1⟩ ⟨a2, e2, n2, x2⟩ => by
              subst e1
              cases e2
              exact ⟨a1, rfl, n2, by rw [upd_ne n1]; exact w12 _ _ x1⟩
            exact Paired.app (Paired.imp2 (fun _ _ => keep) yE yL) (.cons ⟨q, rfl, qL, by rw [upd_ne qE, upd_same, ewq]⟩ .nil)
        · rintro H3 ⟨ys, hEy, yl, yE, yL, s3⟩
          rw [ul, List.take_length] at yE yL
          refine ⟨L, E, xs, ys, rfl, rfl, s3 _ _ hLx, hEy, ?_, ?_⟩
          · exact Nat.le_of_lt (small1000 (by omega))
          · refine ⟨⟨_, _, rfl⟩, xs ++ ys, upd_same, ?_, same_upd hL (s2.trans s3)⟩
            rw [wPart_more]
            exact Paired.app (hxs.mono s3).upd yL.upd
      · rintro σ H2 ⟨⟨q5, q6, rfl⟩, xs, hLx, hxs, s2⟩
        refine ⟨_, rfl, L, xs, _, _, _, _, _, rfl, hLx, sm.free hL, ?_, sm.trans s2⟩
        rw [take_more hri]
        unfold waysOf
        rw [List.foldl_append]
        show LsIn H2 xs (waysStep (waysOf (rs.take i)) r)
        rw [← hW]
        exact hxs.ins
    · rintro σ H' ⟨f, us, o2, o3, o4, o5, o6, rfl, hf, hfn, hus, sm⟩
      rw [len, List.take_length] at hus
      exact ⟨_, rfl, k _ _ _ sm hfn hf hus⟩
end
end My

namespace My
open PySem PySem.Spec PyProof.Rows L2
open C8 (Cal pe_c pe_gc)
theorem rows2_ok (p q : Int) : (rows2 p q).length ≤ 1 ∧ ∀ r ∈ rows2 p q, r.1 = 2 ∨ r.1 = 3 := by
  unfold rows2
  split
  · exact ⟨Nat.zero_le _, fun r hr => by cases hr⟩
  · exact ⟨Nat.le_refl _, fun r hr => by rw [List.mem_singleton.mp hr]; exact .inl rfl⟩
theorem rows3_ok (c b a : Int) : (rows3 c b a).length ≤ 2 ∧ ∀ r ∈ rows3 c b a, r.1 = 2 ∨ r.1 = 3 := by
  unfold rows3
  cases wholeZ c b a with
  | some r =>
    have := rows2_ok (a + r) (b + r * (a + r))
    exact ⟨by have := this.1; show (rows2 (a + r) (b + r * (a + r))).length ≤ 2; omega, this.2⟩
  | none =>
    dsimp only
    split
    · refine ⟨Nat.le_refl _, fun r hr => ?_⟩
      rcases List.mem_cons.mp hr with e | hr
      · rw [e]; exact .inr rfl
      · rw [List.mem_singleton.mp hr]; exact .inl rfl
    · refine ⟨(show 1 ≤ 2 by decide), fun r hr => ?_⟩
      rw [List.mem_singleton.mp hr]; exact .inr rfl
theorem rowsOn_ok : ∀ (ms : List Int) (k : Nat), ∀ r ∈ rowsOn k ms, r.1 = 2 ∨ r.1 = 3
  | [], _, r, h => by cases h
  | n :: ms, k, r, h => by
    rcases List.mem_cons.mp h with e | h
    · rw [e]; exact .inl rfl
    · exact rowsOn_ok ms (k + 1) r h
theorem numsOf_len {l : List Int} (h : l.length ≤ 2) : (numsOf l).length ≤ 2 := by
  unfold numsOf
  split
  · split
    · show 1 ≤ 2; decide
    · show 2 ≤ 2; decide
  · exact h
theorem rows4_ok (b a : Int) : (rows4 b a).length ≤ 3 ∧ ∀ r ∈ rows4 b a, r.1 = 2 ∨ r.1 = 3 := by
  unfold rows4
  cases halvesZ b a with
  | some p =>
    obtain ⟨x, y⟩ := p
    refine ⟨?_, rowsOn_ok _ 0⟩
    show (rowsOn 0 (numsZ x y)).length ≤ 3
    rw [rowsOn_len]
    have : (numsZ x y).length ≤ 2 := numsOf_len (List.length_filter_le _ _)
    omega
  | none =>
    dsimp only
    split
    · split
      · refine ⟨Nat.le_refl _, fun r hr => ?_⟩
        rcases List.mem_cons.mp hr with e | hr
        · rw [e]; exact .inl rfl
        · rcases List.mem_cons.mp hr with e | hr
          · rw [e]; exact .inl rfl
          · rw [List.mem_singleton.mp hr]; exact .inl rfl
      · refine ⟨(show 2 ≤ 3 by decide), fun r hr => ?_⟩
        rcases List.mem_cons.mp hr with e | hr
        · rw [e]; exact .inl rfl
        · rw [List.mem_singleton.mp hr]; exact .inl rfl
    · refine ⟨(show 1 ≤ 3 by decide), fun r hr => ?_⟩
      rw [List.mem_singleton.mp hr]; exact .inl rfl
theorem rowsZ_ok (ns : List Int) : (rowsZ ns).length ≤ 3 ∧ ∀ r ∈ rowsZ ns, r.1 = 2 ∨ r.1 = 3 := by
  unfold rowsZ
  split
  · rename_i q p _
    have := rows2_ok p q
    exact ⟨by omega, this.2⟩
  · rename_i c b a _
    have := rows3_ok c b a
    exact ⟨by omega, this.2⟩
  · exact rows4_ok _ _
  · exact ⟨Nat.zero_le _, fun r hr => by cases hr⟩
/-- what the text says of the class House -/
structure HsOk (K : PySem.W.Frag) (C : Addr) : Prop where
  cls : Cls K C
  poly : NoAttr K C "poly"
  rows : NoAttr K C "rows"
  ways : NoAttr K C "ways"
  known : NoAttr K C "known"
  moved : NoAttr K C "moved"
section
variable {c : Cs} {CH : Addr} {P : Program} {w : World} {K : PySem.W.Frag} {mg : Str → Option Value} {base : Heap}
theorem FrAt.xt {H H' : Hp} {a C dx : Addr} {fs : List (Str × V)} {v : V} {q : Int × Int} (h : FrAt K H v q) (ha : H a = some (.ins C dx fs)) (x : Xt a H H') : FrAt K H' v q := by
  obtain ⟨p, rfl, hp⟩ := h
  exact ⟨p, rfl, x _ _ (fun z => by rw [z, ha] at hp; cases hp) hp⟩
theorem RowAt.xt {H H' : Hp} {a C dx : Addr} {fs : List (Str × V)} {v : V} {r : Rw} (h : RowAt K H v r) (ha : H a = some (.ins C dx fs)) (x : Xt a H H') : RowAt K H' v r := by
  obtain ⟨p, l, us, e, h1, h2, h3⟩ := h
  exact ⟨p, l, us, e, x _ _ (fun z => by rw [z, ha] at h1; cases h1) h1, x _ _ (fun z => by rw [z, ha] at h2; cases h2) h2, Paired.imp (fun _ _ y => y.xt ha x) h3⟩
theorem RowsAt.xt {H H' : Hp} {a C dx : Addr} {fs : List (Str × V)} {v : V} {rs : List Rw} (h : RowsAt K H v rs) (ha : H a = some (.ins C dx fs)) (x : Xt a H H') : RowsAt K H' v rs := by
  obtain ⟨l, us, e, h1, h2⟩ := h
  exact ⟨l, us, e, x _ _ (fun z => by rw [z, ha] at h1; cases h1) h1, Paired.imp (fun _ _ y => y.xt ha x) h2⟩
theorem LsIn.xt {H H' : Hp} {a C dx : Addr} {fs : List (Str × V)} {us : List V} {wss : List (List Int)} (h : LsIn H us wss) (ha : H a = some (.ins C dx fs)) (x : Xt a H H') : LsIn H' us wss := Paired.imp (fun _ _ ⟨b, e, y⟩ => ⟨b, e, x _ _ (fun z => by rw [z, ha] at y; cases y) y⟩) h
theorem putF_len (f : Str) (v : V) : ∀ fs : List (Str × V), (putF f v fs).length ≤ fs.length + 1
  | [] => Nat.le_refl _
  | (g, x) :: r => by
    show (if g = f then (g, v) :: r else (g, x) :: putF f v r).length ≤ _
    have := putF_len f v r
    split
    · show r.length + 1 ≤ r.length + 1 + 1
      omega
    · show (putF f v r).length + 1 ≤ r.length + 1 + 1
      omega
def houseF (l : Addr) (v : V) (p : Addr) : List (Str × V) := putF "moved" .non (putF "known" .non (putF "ways" (.ref p) (putF "rows" v (putF "poly" (.ref l) []))))
abbrev s_House_init : Stmt := inClass (top 46) 0
abbrev N_House_init : List Str := ["self", "poly", "rows"]
abbrev P_House_init : List Str := ["self", "poly", "rows"]
theorem sc_House_init : FnScope N_House_init ["self", "poly", "rows"] (defScope s_House_init) := ⟨rfl, rfl, rfl, by decide +kernel, rfl, by decide +kernel, by decide +kernel⟩

def sp_House_init (K : PySem.W.Frag) : Sp := fun vs H Q _ => ∃ (a C dx l : Addr) (v : V) (rs : List Rw), vs = [.ref a, .ref l, v] ∧ H a = some (.ins C dx []) ∧ HsOk K C ∧ RowsAt K H v rs ∧ rs.length ≤ 3 ∧ (∀ r ∈ rs, r.1 = 2 ∨ r.1 = 3) ∧
  ∀ H' p us, Xt a H H' → H' a = some (.ins C dx (houseF l v p)) → H' p = some (.lst us) → H p = none → LsIn H' us (waysOf rs) → Q .non H'
theorem ok_House_init (T : Txt K mg c) {f : Addr} {fd : FuncData} (F : L2.Fun K "__init__" "House.__init__" s_House_init f fd) (h_ways_of : Cal P w K mg base 1 "ways_of" (sp_ways_of K) []) : FnOk P w K mg base CX0 2 f fd P_House_init (sp_House_init K) := by
  refine F.ok sc_House_init (fun vs H Q E h => ?_) (fun cdv A outer s H vs Q E hr h => ?_)
  · obtain ⟨a, C, dx, l, v, rs, rfl, _⟩ := h
    rfl
  · obtain ⟨a, C, dx, l, v, rs, rfl, ha, hC, hrs, l3, dg, k⟩ := h
    refine ⟨_, (pss_cons (ps_fld (pv 0) (pv 1) rfl)
      (pss_cons (ps_fld (pv 0) (pv 2) rfl)
      (pss_cons (ps_fld (pv 0) (pe_c h_ways_of hr (by decide) rfl (pa_cons (pv 2) pa_nil)) rfl)
      (pss_cons (ps_fld (pv 0) pe_non rfl)
      (pss_one (ps_fld (pv 0) pe_non rfl)))))), ?_⟩
    have z1 := putF_len "poly" (.ref l) []
    have z2 := putF_len "rows" v (putF "poly" (.ref l) [])
    have x1 : Xt a H (upd H a (.ins C dx (putF "poly" (.ref l) []))) := Xt.upd
    refine ⟨_, rfl, _, rfl, a, C, dx, _, rfl, ha, hC.cls, hC.poly, (show 0 < 1000 by decide), ?_⟩
    refine ⟨_, rfl, _, rfl, a, C, dx, _, rfl, upd_same, hC.cls, hC.rows, (by show (putF "poly" (.ref l) []).length < 1000; have : ([] : List (Str × V)).length = 0 := rfl; omega), ?_⟩
    have x2 : Xt a H (upd (upd H a (.ins C dx (putF "poly" (.ref l) []))) a (.ins C dx (putF "rows" v (putF "poly" (.ref l) [])))) := x1.trans Xt.upd
    refine ⟨_, rfl, v, rs, rfl, hrs.xt ha x2, l3, dg, fun H1 p us s1 hp0 hp hus => ?_⟩
    have z3 := putF_len "ways" (.ref p) (putF "rows" v (putF "poly" (.ref l) []))
    have z4 := putF_len "known" .non (putF "ways" (.ref p) (putF "rows" v (putF "poly" (.ref l) [])))
    have ha1 := s1 _ _ (upd_same (H := upd H a (.ins C dx (putF "poly" (.ref l) []))) (a := a) (o := .ins C dx (putF "rows" v (putF "poly" (.ref l) []))))
    have z0 : ([] : List (Str × V)).length = 0 := rfl
    have x3 : Xt a H H1 := x2.trans (Xt.of s1)
    have pa : p ≠ a := fun z => by rw [z, ha1] at hp; cases hp
    refine ⟨_, rfl, a, C, dx, _, rfl, ha1, hC.cls, hC.ways, by omega, ?_⟩
    refine ⟨_, rfl, a, C, dx, _, rfl, upd_same, hC.cls, hC.known, by omega, ?_⟩
    refine ⟨_, rfl, a, C, dx, _, rfl, upd_same, hC.cls, hC.moved, by omega, ?_⟩
    have x4 : Xt a H1 (upd (upd (upd H1 a (.ins C dx (putF "ways" (.ref p) (putF "rows" v (putF "poly" (.ref l) []))))) a (.ins C dx (putF "known" .non (putF "ways" (.ref p) (putF "rows" v (putF "poly" (.ref l) [])))))) a (.ins C dx (houseF l v p))) := (Xt.upd.trans Xt.upd).trans Xt.upd
    refine k _ p us (x3.trans x4) upd_same (x4 _ _ pa hp) ?_ (hus.xt ha1 x4)
    rw [upd_ne pa, upd_ne pa] at hp0
    exact hp0
/-- a house that stands at h, of the polynomial ns -/
def HouseAt (K : PySem.W.Frag) (C : Addr) (H : Hp) (h : Addr) (ns : List Int) : Prop := ∃ (dx l : Addr) (v : V) (p : Addr) (us : List V), H h = some (.ins C dx (houseF l v p)) ∧ H l = some (.lst (ns.map V.int)) ∧ RowsAt K H v (rowsZ ns) ∧ H p = some (.lst us) ∧ LsIn H us (waysOf (rowsZ ns))
abbrev s_house_of : Stmt := top 59
abbrev N_house_of : List Str := ["polynomial"]
abbrev P_house_of : List Str := ["polynomial"]
theorem sc_house_of : FnScope N_house_of ["polynomial"] (defScope s_house_of) := ⟨rfl, rfl, rfl, by decide +kernel, rfl, by decide +kernel, by decide +kernel⟩

def sp_house_of (K : PySem.W.Frag) (c : Cs) (CH : Addr) : Sp := fun vs H Q E => ∃ (a : Addr) (ns : List Int), vs = [.ref a] ∧ SqL K H a (ns.map V.int) ∧
  ((faultOf ns).1 = false → ∀ d H', Same H H' → H d = none → H' d = some (.xd [("at", atV (faultOf ns).2)]) → E (.ref c.NoPoly) (some d) H') ∧
  ((faultOf ns).1 = true → ∀ H' h, Same H H' → H h = none → HouseAt K CH H' h ns → Q (.ref h) H')
theorem ok_house_of (T : Txt K mg c) (hH : HsOk K CH) {f : Addr} {fd : FuncData} (F : L2.Fun K "house_of" "house_of" s_house_of f fd) (h_must_poly : CalX P w K mg base 3 "must_poly" (sp_must_poly K c)) (h_rows_of : Cal P w K mg base 5 "rows_of" (sp_rows_of K) []) (m_House : C8.Mak P w K mg base 2 "House" CH (sp_House_init K) []) : FnOk P w K mg base (L2.CX P w) 6 f fd P_house_of (sp_house_of K c CH) := by
  refine F.okX sc_house_of (fun vs H Q E h => ?_) (fun cdv A outer s H vs Q E hr h => ?_)
  · obtain ⟨a, ns, rfl, _⟩ := h
    rfl
  · obtain ⟨a, ns, rfl, hS, kx, k⟩ := h
    refine ⟨_, (pss_cons (ps_expr (pe_cS h_must_poly hr (by decide) rfl (fun σ => passAt (takes_of rfl rfl rfl rfl) σ) (pa_cons (pv 0) pa_nil)))
      (pss_one (ps_ret (C8.pe_mk m_House hr (by decide) rfl (pa_cons (pe_callTy call_list_of (by rfl) T.z_list (by decide +kernel) (pa_cons (pv 0) pa_nil)) (pa_cons (pe_c h_rows_of hr (by decide) rfl (pa_cons (pv 0) pa_nil)) pa_nil)))))), ?_⟩
    refine ⟨_, rfl, a, ns, rfl, hS, fun g H1 s1 => ?_, fun g d H1 s1 n hd => kx g d H1 s1 n hd⟩
    have G := good_of g
    refine ⟨_, rfl, a, _, rfl, .inl (s1.seq hS), fun l hl => ?_⟩
    have s2 := s1.trans (same_new (o := .lst (ns.map V.int)) hl)
    refine ⟨_, rfl, a, ns, rfl, s2.seq hS, G, fun H2 v s3 hv => fun x dx hx hdx ne => ?_⟩
    have u1 := same_new (o := .own x) hdx
    have hx1 : upd H2 dx (.own x) x = none := by rw [upd_ne (Ne.symm ne)]; exact hx
    have u2 := u1.trans (same_new (o := .ins CH dx []) hx1)
    have rk := rowsZ_ok ns
    refine ⟨x, CH, dx, l, v, rowsZ ns, rfl, upd_same, hH, hv.mono u2, rk.1, rk.2, fun H3 p us x3 h3 hp hpn hus => ⟨rfl, ?_⟩⟩
    have hxn : H x = none := (s2.trans s3).free hx
    have s4 : Same H H3 := fun b o hb => x3 _ _ (ne_of_none hb hxn) (u2 _ _ (s3 _ _ (s2 _ _ hb)))
    have hl2 := s3 _ _ (upd_same (H := H1) (a := l) (o := .lst (ns.map V.int)))
    have lx : l ≠ x := ne_of_none hl2 hx
    exact k g H3 x s4 hxn ⟨dx, l, v, p, us, h3, x3 _ _ lx (u2 _ _ hl2), (hv.mono u2).xt upd_same x3, hp, hus⟩
end
end My

namespace My
open PySem PySem.Spec PyProof.Rows L2
open C8 (Cal pe_c pe_gc)
section
variable {c : Cs} {CH : Addr} {P : Program} {w : World} {K : PySem.W.Frag} {mg : Str → Option Value} {base : Heap}
abbrev s_Lcubic : Stmt := top 72
abbrev N_Lcubic : List Str := ["_law_poly_here", "_law_told", "_law_c", "_law_b", "_law_a"]
abbrev P_Lcubic : List Str := ["_law_poly_here"]
theorem sc_Lcubic : FnScope N_Lcubic ["_law_poly_here"] (defScope s_Lcubic) := ⟨rfl, rfl, rfl, by decide +kernel, rfl, by decide +kernel, by decide +kernel⟩

def sp_Lcubic (K : PySem.W.Frag) : Sp := fun vs H Q _ => ∃ (l : Addr) (c b a d : Int), vs = [.ref l] ∧ SqL K H l ([c, b, a, d].map V.int) ∧ Bd 100 c ∧ Bd 100 b ∧ Bd 100 a ∧ ∀ H', Same H H' → Q (.int (toldOf [c, b, a, d])) H'
theorem ok_Lcubic (T : Txt K mg c) {f : Addr} {fd : FuncData} (F : L2.Fun K "_law_cubic" "_law_cubic" s_Lcubic f fd) : FnOk P w K mg base CX0 1 f fd P_Lcubic (sp_Lcubic K) := by
  refine F.ok sc_Lcubic (fun vs H Q E h => ?_) (fun cdv A outer s H vs Q E hr h => ?_)
  · obtain ⟨l, c, b, a, d, rfl, _⟩ := h
    rfl
  · obtain ⟨l, c, b, a, d, rfl, hS, bc, bb, ba, k⟩ := h
    refine ⟨_, (pss_cons (ps_asg (pe_slice sl_list (pv 0) po_none (po_some pe_int)) (pg_unl rfl (pgs_cons (pg_name (i := 2) sc_Lcubic.nd rfl (by first | exact Or.inl rfl | exact Or.inr rfl)) (pgs_cons (pg_name (i := 3) sc_Lcubic.nd rfl (by first | exact Or.inl rfl | exact Or.inr rfl)) (pgs_cons (pg_name (i := 4) sc_Lcubic.nd rfl (by first | exact Or.inl rfl | exact Or.inr rfl)) pgs_nil)))))
      (pss_cons (ps_set (i := 1) sc_Lcubic.nd rfl (by first | exact Or.inl rfl | exact Or.inr rfl) (pe_op op_sub (pe_op op_mulW (pe_op op_mulW (pe_op op_mulW pe_int (pv 4)) (pv 3)) (pv 2)) (pe_op op_mulW (pe_op op_mulW (pe_op op_mulW (pe_op op_mulW pe_int (pv 4)) (pv 4)) (pv 4)) (pv 2))))
      (pss_one (ps_ret (pe_op op_sub (pe_op op_sub (pe_op op_add (pv 1) (pe_op op_mulW (pe_op op_mulW (pe_op op_mulW (pv 4) (pv 4)) (pv 3)) (pv 3))) (pe_op op_mulW (pe_op op_mulW (pe_op op_mulW pe_int (pv 3)) (pv 3)) (pv 3))) (pe_op op_mulW (pe_op op_mulW pe_int (pv 2)) (pv 2))))))), ?_⟩
    refine ⟨_, rfl, _, rfl, l, _, rfl, hS, fun q hq => ?_⟩
    have s1 := same_new (o := .lst [V.int c, V.int b, V.int a]) hq
    refine ⟨q, _, rfl, SqL.of upd_same, rfl, _, _, rfl, _, _, rfl, _, _, rfl, rfl, ?_⟩
    have b18 : Bd 18 18 := bd_lit
    have b4 : Bd 4 4 := bd_lit
    have b27 : Bd 27 27 := bd_lit
    refine ⟨_, rfl, _, _, rfl, rfl, b18.cm ba, _, rfl, _, _, rfl, rfl, (b18.mul ba).cm bb, _, rfl, _, _, rfl, rfl, ((b18.mul ba).mul bb).cm bc,
      _, rfl, _, _, rfl, rfl, b4.cm ba, _, rfl, _, _, rfl, rfl, (b4.mul ba).cm ba, _, rfl, _, _, rfl, rfl, ((b4.mul ba).mul ba).cm ba, _, rfl, _, _, rfl, rfl, (((b4.mul ba).mul ba).mul ba).cm bc, _, _, rfl, rfl, ?_⟩
    refine ⟨_, rfl, _, rfl, _, rfl, _, _, rfl, rfl, ba.cm ba, _, rfl, _, _, rfl, rfl, (ba.mul ba).cm bb, _, rfl, _, _, rfl, rfl, ((ba.mul ba).mul bb).cm bb, _, _, rfl, rfl,
      _, rfl, _, _, rfl, rfl, b4.cm bb, _, rfl, _, _, rfl, rfl, (b4.mul bb).cm bb, _, rfl, _, _, rfl, rfl, ((b4.mul bb).mul bb).cm bb, _, _, rfl, rfl,
      _, rfl, _, _, rfl, rfl, b27.cm bc, _, rfl, _, _, rfl, rfl, (b27.mul bc).cm bc, _, _, rfl, rfl, ?_⟩
    exact k _ s1
abbrev s_Lalike : Stmt := top 73
abbrev N_Lalike : List Str := ["_law_poly_here"]
abbrev P_Lalike : List Str := ["_law_poly_here"]
theorem sc_Lalike : FnScope N_Lalike ["_law_poly_here"] (defScope s_Lalike) := ⟨rfl, rfl, rfl, by decide +kernel, rfl, by decide +kernel, by decide +kernel⟩

def sp_Lalike (K : PySem.W.Frag) : Sp := fun vs H Q _ => ∃ (l : Addr) (ns : List Int), vs = [.ref l] ∧ SqL K H l (ns.map V.int) ∧ 2 ≤ ns.length ∧ ns.length ≤ 5 ∧ (∀ x ∈ ns, Bd 100 x) ∧ ∀ H', Same H H' → Q (.bl (decide (toldOf ns = 0))) H'
theorem ok_Lalike (T : Txt K mg c) {f : Addr} {fd : FuncData} (F : L2.Fun K "_law_alike" "_law_alike" s_Lalike f fd) (h_Lcubic : Cal P w K mg base 1 "_law_cubic" (sp_Lcubic K) []) : FnOk P w K mg base CX0 2 f fd P_Lalike (sp_Lalike K) := by
  refine F.ok sc_Lalike (fun vs H Q E h => ?_) (fun cdv A outer s H vs Q E hr h => ?_)
  · obtain ⟨l, ns, rfl, _⟩ := h
    rfl
  · obtain ⟨l, ns, rfl, hS, l2, l5, sm, k⟩ := h
    refine ⟨_, (pss_cons (ps_if (pt_cmpR op_eq (pe_callB call_len_seq (by rfl) T.z_len (by decide +kernel) (pa_cons (pv 0) pa_nil)) pe_int (nomark _)) (pss_one (ps_ret (pe_cmpR op_eq (pe_op op_mulW (pe_ix ix_list (pv 0) pe_int (fun _ _ => rfl)) (pe_ix ix_list (pv 0) pe_int (fun _ _ => rfl))) (pe_op op_mulW pe_int (pe_ix ix_list (pv 0) pe_int (fun _ _ => rfl))) (nomark _)))) pss_nil)
      (pss_cons (ps_if (pt_cmpR op_eq (pe_callB call_len_seq (by rfl) T.z_len (by decide +kernel) (pa_cons (pv 0) pa_nil)) pe_int (nomark _)) (pss_one (ps_ret (pe_cmpR op_eq (pe_c h_Lcubic hr (by decide) rfl (pa_cons (pv 0) pa_nil)) pe_int (nomark _)))) pss_nil)
      (pss_one (ps_ret (pe_and (pe_cmpR op_eq (pe_callB call_len_seq (by rfl) T.z_len (by decide +kernel) (pa_cons (pv 0) pa_nil)) pe_int (nomark _)) (pe_one (pe_or (pe_cmpR op_eq (pe_ix ix_list (pv 0) pe_int (fun _ _ => rfl)) pe_int (nomark _)) (pe_one (pe_cmpR op_eq (pe_op op_mulW (pe_ix ix_list (pv 0) pe_int (fun _ _ => rfl)) (pe_ix ix_list (pv 0) pe_int (fun _ _ => rfl))) (pe_op op_mulW pe_int (pe_ix ix_list (pv 0) pe_int (fun _ _ => rfl))) (nomark _)))))))))), ?_⟩
    have e0 : (List.map V.int ns).length = ns.length := List.length_map _
    have viE : ∀ x y : Int, (decide (V.int x = V.int y)) = decide (x = y) := fun x y => decide_eq_decide.mpr ⟨fun h => by injection h, fun h => by rw [h]⟩
    refine ⟨_, rfl, l, _, rfl, .inl hS, rfl, _, rfl, ?_⟩
    have k0 := k _ (Same.refl H)
    have b4 : Bd 4 4 := bd_lit
    rcases ns with _ | ⟨n0, _ | ⟨n1, _ | ⟨n2, _ | ⟨n3, _ | ⟨n4, _ | ⟨n5, r⟩⟩⟩⟩⟩⟩
    · simp at l2
    · simp at l2
    · refine ite2 (fun hc => absurd hc (by simp)) (fun hc => ?_)
      refine ⟨_, rfl, l, _, rfl, .inl hS, rfl, _, rfl, ?_⟩
      refine ite2 (fun hc => absurd hc (by simp)) (fun hc => ?_)
      refine ⟨_, rfl, l, _, rfl, .inl hS, rfl, _, rfl, ?_⟩
      refine ite2 (fun hc => absurd hc (by simp)) (fun hc => ?_)
      exact k0
    · have b0 : Bd 100 n0 := sm _ (by simp)
      have b1 : Bd 100 n1 := sm _ (by simp)
      refine ite2 (fun hc => ?_) (fun hc => absurd (by simp) hc)
      refine ⟨_, rfl, l, _, _, _, rfl, rfl, hS, rfl, _, rfl, l, _, _, _, rfl, rfl, hS, rfl, _, _, rfl, rfl, b1.cm b1, _, rfl, l, _, _, _, rfl, rfl, hS, rfl, _, _, rfl, rfl, b4.cm b0, rfl, ?_⟩
      have e : decide (V.int (n1 * n1) = V.int (4 * n0)) = decide (toldOf [n0, n1, n2] = 0) := by
        rw [viE]
        show decide (n1 * n1 = 4 * n0) = decide (n1 * n1 - 4 * n0 = 0)
        exact decide_eq_decide.mpr (by omega)
      show Q (.bl (decide (V.int (n1 * n1) = V.int (4 * n0)))) H
      rw [e]; exact k0
    · refine ite2 (fun hc => absurd hc (by simp)) (fun hc => ?_)
      refine ⟨_, rfl, l, _, rfl, .inl hS, rfl, _, rfl, ?_⟩
      refine ite2 (fun hc => ?_) (fun hc => absurd (by simp) hc)
      refine ⟨_, rfl, l, n0, n1, n2, n3, rfl, hS, sm _ (by simp), sm _ (by simp), sm _ (by simp), fun H' s1 => ⟨rfl, ?_⟩⟩
      rw [viE]
      exact k _ s1
    · have b0 : Bd 100 n0 := sm _ (by simp)
      have b2 : Bd 100 n2 := sm _ (by simp)
      refine ite2 (fun hc => absurd hc (by simp)) (fun hc => ?_)
      refine ⟨_, rfl, l, _, rfl, .inl hS, rfl, _, rfl, ?_⟩
      refine ite2 (fun hc => absurd hc (by simp)) (fun hc => ?_)
      refine ⟨_, rfl, l, _, rfl, .inl hS, rfl, _, rfl, ?_⟩
      refine ite2 (fun hc => ?_) (fun hc => absurd (by simp) hc)
      refine ⟨_, rfl, l, _, _, _, rfl, rfl, hS, rfl, rfl, _, rfl, ?_⟩
      have et : toldOf [n0, n1, n2, n3, n4] = n0 * (n2 * n2 - 4 * n0) := rfl
      rw [et] at k0
      refine ite2 (fun hc => ?_) (fun hc => ?_)
      · have z : n0 = 0 := by
          have := of_decide_eq_true hc
          injection this
        rw [z, Int.zero_mul] at k0
        exact k0
      · have z : n0 ≠ 0 := fun e => hc (decide_eq_true (by rw [e]))
        refine ⟨_, rfl, l, _, _, _, rfl, rfl, hS, rfl, _, rfl, l, _, _, _, rfl, rfl, hS, rfl, _, _, rfl, rfl, b2.cm b2, _, rfl, l, _, _, _, rfl, rfl, hS, rfl, _, _, rfl, rfl, b4.cm b0, rfl, ?_⟩
        have e : decide (V.int (n2 * n2) = V.int (4 * n0)) = decide (n0 * (n2 * n2 - 4 * n0) = 0) := by
          rw [viE]
          refine decide_eq_decide.mpr ⟨fun h => by rw [h, Int.sub_self, Int.mul_zero], fun h => ?_⟩
          rcases Int.mul_eq_zero.mp h with h | h
          · exact absurd h z
          · omega
        show Q (.bl (decide (V.int (n2 * n2) = V.int (4 * n0)))) H
        rw [e]; exact k0
    · simp at l5
abbrev s_Lfault : Stmt := top 74
abbrev N_Lfault : List Str := ["_law_poly_here", "_law_k", "_law_one"]
abbrev P_Lfault : List Str := ["_law_poly_here"]
theorem sc_Lfault : FnScope N_Lfault ["_law_poly_here"] (defScope s_Lfault) := ⟨rfl, rfl, rfl, by decide +kernel, rfl, by decide +kernel, by decide +kernel⟩

def sp_Lfault (K : PySem.W.Frag) : Sp := fun vs H Q _ => ∃ (l : Addr) (ns : List Int), vs = [.ref l] ∧ SqL K H l (ns.map V.int) ∧ ∀ H' p, Same H H' → H p = none → H' p = some (.lst [.bl (faultOf ns).1, atV (faultOf ns).2]) → Q (.ref p) H'
theorem ok_Lfault (T : Txt K mg c) {f : Addr} {fd : FuncData} (F : L2.Fun K "_law_fault" "_law_fault" s_Lfault f fd) (h_Lalike : Cal P w K mg base 2 "_law_alike" (sp_Lalike K) []) : FnOk P w K mg base CX0 3 f fd P_Lfault (sp_Lfault K) := by
  refine F.ok sc_Lfault (fun vs H Q E h => ?_) (fun cdv A outer s H vs Q E hr h => ?_)
  · obtain ⟨l, ns, rfl, _⟩ := h
    rfl
  · obtain ⟨p, ns, rfl, hS, k⟩ := h
    have bad : ∀ (g : Bool) (at_ : Option Nat), faultOf ns = (g, at_) → ∀ H' q, Same H H' → H q = none → H' q = some (.lst [.bl g, atV at_]) → Q (.ref q) H' := fun g at_ e H' q sm n hd => k H' q sm n (by rw [e]; exact hd)
    refine ⟨_, (pss_cons (ps_if (pt_not (pt_chain op_le op_le pe_int (pe_callB call_len_seq (by rfl) T.z_len (by decide +kernel) (pa_cons (pv 0) pa_nil)) pe_int)) (pss_one (ps_ret (pe_lst (pa_cons pe_bl (pa_cons pe_non pa_nil))))) pss_nil)
      (pss_cons (ps_for PassesOwn.never rfl (pi_enum (by rfl) T.z_enumerate (pa_cons (pv 0) pa_nil)) (pg_tup rfl (pgs_cons (pg_name (i := 1) sc_Lfault.nd rfl (by first | exact Or.inl rfl | exact Or.inr rfl)) (pgs_cons (pg_name (i := 2) sc_Lfault.nd rfl (by first | exact Or.inl rfl | exact Or.inr rfl)) pgs_nil))) (pss_one (ps_if (pt_cmpR op_gt (pe_callB call_abs (by rfl) T.z_abs (by decide +kernel) (pa_cons (pv 2) pa_nil)) pe_int (nomark _)) (pss_one (ps_ret (pe_lst (pa_cons pe_bl (pa_cons (pv 1) pa_nil))))) pss_nil)))
      (pss_cons (ps_if (pt_cmpR op_ne (pe_ix ix_list (pv 0) (pe_un un_neg pe_int) (fun _ _ => rfl)) pe_int (nomark _)) (pss_one (ps_ret (pe_lst (pa_cons pe_bl (pa_cons (pe_op op_sub (pe_callB call_len_seq (by rfl) T.z_len (by decide +kernel) (pa_cons (pv 0) pa_nil)) pe_int) pa_nil))))) pss_nil)
      (pss_cons (ps_for PassesOwn.never rfl (pi_list (pe_slice sl_list (pe_lst (pa_cons pe_int (pa_cons pe_int pa_nil))) po_none (po_some (pe_op op_mulW pe_int (pe_callTy call_int1 (by rfl) T.z_int (by decide +kernel) (pa_cons (pe_cmpR op_eq (pe_callB call_len_seq (by rfl) T.z_len (by decide +kernel) (pa_cons (pv 0) pa_nil)) pe_int (nomark _)) pa_nil)))))) (pg_name (i := 1) sc_Lfault.nd rfl (by first | exact Or.inl rfl | exact Or.inr rfl)) (pss_one (ps_if (pt_cmpR op_ne (pe_ix ix_list (pv 0) (pv 1) (fun _ _ => rfl)) pe_int (nomark _)) (pss_one (ps_ret (pe_lst (pa_cons pe_bl (pa_cons (pv 1) pa_nil))))) pss_nil)))
      (pss_one (ps_ret (pe_lst (pa_cons (pe_not (pe_c h_Lalike hr (by decide) rfl (pa_cons (pv 0) pa_nil))) (pa_cons pe_non pa_nil))))))))), ?_⟩
    have e0 : (List.map V.int ns).length = ns.length := List.length_map _
    refine ⟨_, rfl, p, _, rfl, .inl hS, _, _, rfl, rfl, _, rfl, ?_⟩
    refine ite2 (fun ha => ?_) (fun ha => ?_)
    · have ha' : 2 ≤ ns.length := by
        have := of_decide_eq_true ha
        rw [e0] at this
        omega
      refine ⟨_, _, rfl, rfl, _, rfl, ?_⟩
      refine ite2 (fun hb => ?_) (fun hb => ?_)
      · have hb' : 5 < ns.length := by
          have : ¬ (((List.map V.int ns).length : Nat) : Int) ≤ 5 := fun z => by rw [decide_eq_true z] at hb; cases hb
          rw [e0] at this
          omega
        exact ⟨sz2, fun q hq => bad _ _ (fault_len (.inr hb')) _ q (same_new hq) hq upd_same⟩
      · have hb' : ns.length ≤ 5 := by
          have : (((List.map V.int ns).length : Nat) : Int) ≤ 5 := by
            refine Classical.byContradiction fun z => hb ?_
            rw [decide_eq_false z]; rfl
          rw [e0] at this
          omega
        have hl : ¬ (ns.length < 2 ∨ 5 < ns.length) := by omega
        refine ⟨_, rfl, p, _, rfl, hS, for_it walk_enum (fun i σ H' => (∃ o1 o2 : Option V, σ = [some (.ref p), o1, o2]) ∧ Same H H' ∧ ∀ j y, j < i → ns[j]? = some y → y.natAbs ≤ 100) ⟨⟨none, none, rfl⟩, Same.refl H, fun j y hj => by omega⟩ (fun i σ H' _ ⟨_, sm, _⟩ => sm.seq hS) ?_ ?_⟩
        · rintro i x σ H1 H' hi ⟨⟨o1, o2, rfl⟩, sm, bd⟩ ⟨t, y1, y2, rfl, hn, rfl, hy1, hy2⟩
          cases hy1
          obtain ⟨z, hz, rfl⟩ := item_of hy2
          refine ⟨t, _, rfl, SqT.of upd_same, rfl, _, _, rfl, _, _, rfl, rfl, ?_⟩
          refine ⟨_, rfl, _, rfl, _, _, rfl, rfl, _, rfl, ?_⟩
          refine ite2 (fun hc => ?_) (fun hc => ?_)
          · have big : 100 < z.natAbs := by
              have := of_decide_eq_true hc
              rw [abs_int] at this
              omega
            exact ⟨_, rfl, sz2, fun q hq => bad _ _ (fault_big hl hz big bd) _ q ((sm.trans (same_new hn)).trans (same_new hq)) ((sm.trans (same_new hn)).free hq) upd_same⟩
          · have sml : z.natAbs ≤ 100 := by
              have : ¬ (100 : Int) < (if z < 0 then -z else z) := fun q => hc (decide_eq_true q)
              rw [abs_int] at this
              omega
            refine ⟨⟨_, _, rfl⟩, sm.trans (same_new hn), fun j y hj hy => ?_⟩
            by_cases e : j = i
            · rw [e, hz] at hy
              cases hy
              exact sml
            · exact bd j y (by omega) hy
        · rintro σ H1 ⟨⟨o1, o2, rfl⟩, sm, bd⟩
          have all : ∀ y ∈ ns, y.natAbs ≤ 100 := fun y hy => by
            obtain ⟨j, hj, e⟩ := List.getElem_of_mem hy
            refine bd j y (by rw [List.length_map]; exact hj) ?_
            rw [List.getElem?_eq_getElem hj, e]
          have ef := fault_small hl all
          obtain ⟨z, hz⟩ := atI_last (ns := ns) (by omega)
          refine ⟨_, rfl, _, rfl, p, _, _, _, rfl, rfl, sm.seq hS, atI_map hz, rfl, _, rfl, ?_⟩
          have nl : z = 1 → ¬ (atI ns (-1) ≠ some 1) := fun e q => q (by rw [hz, e])
          refine ite2 (fun hc => ?_) (fun hc => ?_)
          · have z1 : z ≠ 1 := fun e => by rw [e] at hc; cases hc
            have f3 : faultOf ns = (false, some (ns.length - 1)) := by
              rw [ef]
              exact if_pos (fun q => z1 (by rw [hz] at q; exact Option.some.inj q))
            refine ⟨_, rfl, p, _, rfl, .inl (sm.seq hS), _, _, rfl, rfl, sz2, fun q hq => bad _ _ f3 _ q (sm.trans (same_new hq)) (sm.free hq) ?_⟩
            have e1 : atV (some (ns.length - 1)) = V.int ((((List.map V.int ns).length : Nat) : Int) - 1) := by
              show V.int ((ns.length - 1 : Nat) : Int) = _
              rw [e0]
              congr 1
              omega
            rw [e1]
            exact upd_same
          · have z1 : z = 1 := by
              refine Classical.byContradiction fun q => hc ?_
              have : ¬ (V.int z = V.int 1) := fun w => q (by injection w)
              rw [decide_eq_false this]; rfl
            subst z1
            have ed : decide (V.int (((List.map V.int ns).length : Nat) : Int) = V.int 5) = decide (ns.length = 5) := decide_eq_decide.mpr ⟨fun h => by injection h with h; rw [e0] at h; omega, fun h => by rw [e0, h]; rfl⟩
            obtain ⟨xs, hxs, hx⟩ : ∃ xs, cutV [V.int 1, V.int 3] none (some (2 * (if decide (V.int (((List.map V.int ns).length : Nat) : Int) = V.int 5) = true then 1 else 0))) = xs ∧ ((ns.length = 5 ∧ xs = [.int 1, .int 3]) ∨ (ns.length ≠ 5 ∧ xs = [])) := by
              rw [ed]
              by_cases h5 : ns.length = 5
              · exact ⟨_, rfl, .inl ⟨h5, by rw [decide_eq_true h5]; rfl⟩⟩
              · exact ⟨_, rfl, .inr ⟨h5, by rw [decide_eq_false h5]; rfl⟩⟩
            refine ⟨sz2, fun l hl_ => ⟨_, rfl, p, _, rfl, .inl ((sm.trans (same_new hl_)).seq hS), rfl, .inr ⟨_, rfl, _, _, rfl, rfl, ?_, _, rfl, l, _, rfl, SqL.of upd_same, fun q hq => ?_⟩⟩⟩
            · rw [ed]
              by_cases h5 : ns.length = 5
              · rw [decide_eq_true h5]; exact (bd_lit (n := 2)).cm (bd_lit (n := 1))
              · rw [decide_eq_false h5]; exact (bd_lit (n := 2)).cm (bd_lit (n := 1))
            rw [hxs]
            have sm1 := (sm.trans (same_new (o := .lst [V.int 1, V.int 3]) hl_)).trans (same_new (o := .lst xs) hq)
            refine ⟨q, rfl, ⟨_, SqL.of upd_same⟩, for_list (K := K) (a := q) (xs := xs) (fun i σ H' => (∃ o1 o2 : Option V, σ = [some (.ref p), o1, o2]) ∧ Same (upd (upd H1 l (.lst [V.int 1, V.int 3])) q (.lst xs)) H' ∧ (0 < i → ns.length = 5 → ns[1]? = some 0) ∧ (1 < i → ns.length = 5 → ns[3]? = some 0)) ⟨⟨_, _, rfl⟩, Same.refl _, by omega, by omega⟩ (fun i σ H' _ ⟨_, s2, _⟩ => s2.seq (SqL.of upd_same)) ?_ ?_⟩
            · rintro i x σ H' hi ⟨⟨o1, o2, rfl⟩, s2, g1, g3⟩
              have sm2 := sm1.trans s2
              rcases hx with ⟨h5, rfl⟩ | ⟨h5, rfl⟩
              · have hix : (i = 0 ∧ x = .int 1) ∨ (i = 1 ∧ x = .int 3) := by
                  rcases i with _ | _ | i
                  · exact .inl ⟨rfl, (Option.some.inj hi).symm⟩
                  · exact .inr ⟨rfl, (Option.some.inj hi).symm⟩
                  · simp at hi
                have key : ∃ (j : Nat) (y : Int), x = V.int j ∧ ns[j]? = some y ∧ (y ≠ 0 → faultOf ns = (false, some j)) ∧ (y = 0 → (0 < i + 1 → ns.length = 5 → ns[1]? = some 0) ∧ (1 < i + 1 → ns.length = 5 → ns[3]? = some 0)) := by
                  rcases hix with ⟨rfl, rfl⟩ | ⟨rfl, rfl⟩
                  · refine ⟨1, ns[1], rfl, List.getElem?_eq_getElem (by omega), fun q => ?_, fun q => ⟨fun _ _ => ?_, fun q => by omega⟩⟩
                    · rw [ef]
                      unfold fault3
                      rw [if_neg (nl rfl), if_pos ⟨h5, fun w => q (by rw [List.getElem?_eq_getElem (by omega)] at w; exact Option.some.inj w)⟩]
                    · rw [List.getElem?_eq_getElem (by omega), q]
                  · refine ⟨3, ns[3], rfl, List.getElem?_eq_getElem (by omega), fun q => ?_, fun q => ⟨fun _ => g1 (by omega), fun _ _ => ?_⟩⟩
                    · rw [ef]
                      unfold fault3
                      rw [if_neg (nl rfl), if_neg (fun w => w.2 (g1 (by omega) h5)), if_pos ⟨h5, fun w => q (by rw [List.getElem?_eq_getElem (by omega)] at w; exact Option.some.inj w)⟩]
                    · rw [List.getElem?_eq_getElem (by omega), q]
                obtain ⟨j, y, rfl, hj, fy, fn⟩ := key
                refine ⟨_, rfl, _, rfl, p, _, _, _, rfl, rfl, sm2.seq hS, atI_map (atI_nat hj), rfl, _, rfl, ?_⟩
                refine ite2 (fun hc => ?_) (fun hc => ?_)
                · have y0 : y ≠ 0 := fun e => by rw [e] at hc; cases hc
                  exact ⟨_, rfl, sz2, fun q' hq' => bad _ _ (fy y0) _ q' (sm2.trans (same_new hq')) (sm2.free hq') upd_same⟩
                · have y0 : y = 0 := by
                    refine Classical.byContradiction fun q => hc ?_
                    have : ¬ (V.int y = V.int 0) := fun w => q (by injection w)
                    rw [decide_eq_false this]; rfl
                  exact ⟨⟨_, _, rfl⟩, s2, (fn y0).1, (fn y0).2⟩
              · simp at hi
            · rintro σ H' ⟨⟨o1, o2, rfl⟩, s2, g1, g3⟩
              have sm2 := sm1.trans s2
              have gg : (ns.length = 5 → ns[1]? = some 0) ∧ (ns.length = 5 → ns[3]? = some 0) := by
                rcases hx with ⟨h5, rfl⟩ | ⟨h5, rfl⟩
                · exact ⟨g1 (by decide), g3 (by decide)⟩
                · exact ⟨fun e => absurd e h5, fun e => absurd e h5⟩
              have f3 : faultOf ns = (decide (toldOf ns ≠ 0), none) := by
                rw [ef]
                unfold fault3
                rw [if_neg (nl rfl), if_neg (fun w => w.2 (gg.1 w.1)), if_neg (fun w => w.2 (gg.2 w.1))]
              refine ⟨_, rfl, p, ns, rfl, sm2.seq hS, ha', hb', all, fun H2 s3 => ?_⟩
              refine ⟨_, rfl, sz2, fun q' hq' => bad _ _ f3 _ q' ((sm2.trans s3).trans (same_new hq')) ((sm2.trans s3).free hq') ?_⟩
              have eb : (!decide (toldOf ns = 0)) = decide (toldOf ns ≠ 0) := by simp
              rw [← eb]
              exact upd_same
    · have ha' : ns.length < 2 := by
        have : ¬ (2 : Int) ≤ (((List.map V.int ns).length : Nat) : Int) := fun z => ha (decide_eq_true z)
        rw [e0] at this
        omega
      refine ⟨_, rfl, ?_⟩
      refine ite2 (fun _ => ?_) (fun hb => absurd (by first | rfl | (rw [eq_false_of_ne_true ha]; rfl)) hb)
      exact ⟨sz2, fun q hq => bad _ _ (fault_len (.inl ha')) _ q (same_new hq) hq upd_same⟩
end
end My

namespace My
open PySem PySem.Spec PyProof.Rows L2
open C8 (Cal pe_c pe_gc)
/-! ### data that is compared -/
def dInts (ns : List Int) : PyData := .list (ns.map PyData.int)
def dFr (q : Int × Int) : PyData := .tuple [.int q.1, .int q.2]
theorem canInts : ∀ ns : List Int, PyData.canLayAll0 (ns.map PyData.int) = true ∧ PyData.depthAll (ns.map PyData.int) ≤ 1
  | [] => ⟨rfl, by decide⟩
  | n :: r => by
    have h := canInts r
    refine ⟨?_, ?_⟩
    · show (PyData.canLay0 (.int n) && PyData.canLayAll0 (r.map PyData.int)) = true
      rw [h.1]; rfl
    · show max (PyData.depth (.int n)) (PyData.depthAll (r.map PyData.int)) ≤ 1
      have : PyData.depth (.int n) ≤ 1 := by unfold PyData.depth; omega
      omega
theorem shInts (ns : List Int) : SeqAt.shaped (dInts ns) = true := by
  unfold SeqAt.shaped dInts
  have h := canInts ns
  have d : PyData.depth (.list (ns.map PyData.int)) ≤ 64 := by
    show PyData.depthAll (ns.map PyData.int) + 1 ≤ 64
    omega
  rw [show PyData.canLay0 (.list (ns.map PyData.int)) = true from h.1, decide_eq_true d]; rfl
theorem dpAllInts {K : PySem.W.Frag} {H : Hp} : ∀ ns : List Int, DpAll K H (ns.map V.int) (ns.map PyData.int)
  | [] => .nil
  | n :: r => .cons (.int n) (dpAllInts r)
theorem dpInts {K : PySem.W.Frag} {H : Hp} {a : Addr} {ns : List Int} (h : SqL K H a (ns.map V.int)) : Dp K H (.ref a) (dInts ns) := .lst h (dpAllInts ns)
theorem dpFr {K : PySem.W.Frag} {H : Hp} {v : V} {q : Int × Int} (h : FrAt K H v q) : Dp K H v (dFr q) := by
  obtain ⟨p, rfl, hp⟩ := h
  exact .tup (SqT.of hp) (.cons (.int _) (.cons (.int _) .nil))
theorem eqInts (ns : List Int) : PyData.eqv (dInts ns) (dInts ns) = true := SeqAt.eqv_refl _ (SeqAt.canLay_of_shaped (shInts ns))
end My

namespace My
open PySem PySem.Spec PyProof.Rows L2
open C8 (Cal pe_c pe_gc)
/-- what the law's class answers of: no error, or one that was caught and kept; j: its sort -/
def Ask (K : PySem.W.Frag) (c : Cs) (H : Hp) (v : V) (j : Option Nat) : Prop := ∃ t, Row K c t j ∧
  ((v = .non ∧ t = .type "NoneType" ∧ j = none) ∨ ∃ a D d i, v = .ref a ∧ t = .ref D ∧ Kept H a D d ∧ ExcC K D ∧ j = some i ∧ i < 14)
theorem Kept.same {H H' : Hp} {a D : Addr} {d : Option Addr} (h : Kept H a D d) (s : Same H H') : Kept H' a D d := by
  obtain ⟨h1, h2⟩ := h
  refine ⟨s _ _ h1, ?_⟩
  rcases h2 with rfl | ⟨dd, fs, rfl, h3⟩
  · exact .inl rfl
  · exact .inr ⟨dd, fs, rfl, s _ _ h3⟩
theorem Ask.same {K : PySem.W.Frag} {c : Cs} {H H' : Hp} {v : V} {j : Option Nat} (h : Ask K c H v j) (s : Same H H') : Ask K c H' v j := by
  obtain ⟨t, r, h | ⟨a, D, d, i, e1, e2, k, x⟩⟩ := h
  · exact ⟨t, r, .inl h⟩
  · exact ⟨t, r, .inr ⟨a, D, d, i, e1, e2, k.same s, x⟩⟩
theorem Ask.is {K : PySem.W.Frag} {c : Cs} {H : Hp} {v : V} {j : Option Nat} {C : Addr} {b : Bool} {Q : VK} (h : Ask K c H v j) (f : ∀ t, Row K c t j → PySem.W.kitOne K t (.ref C) = some b) (q : Q (.bl b) H) : rIsi K [v, .ref C] H Q ∨ rIsK K [v, .ref C] H Q := by
  obtain ⟨t, r, ⟨rfl, rfl, rfl⟩ | ⟨a, D, d, i, rfl, rfl, k, x, rfl, hi⟩⟩ := h
  · exact .inl ⟨_, _, _, _, b, rfl, .own C, .base .non, f _ r, q⟩
  · exact .inr ⟨a, D, d, _, _, b, rfl, k, x, .own C, f _ r, q⟩
/-- what the law's class answers -/
def kindsOf (j : Option Nat) : List Int := match j with | some k => [(k : Int)] | none => []
def kindsTo (j : Option Nat) (i : Nat) : List Int := match j with | some k => if k < i then [(k : Int)] else [] | none => []
theorem kindsTo_all {j : Option Nat} (h : ∀ i, j = some i → i < 14) : kindsTo j 14 = kindsOf j := by
  cases j with
  | none => rfl
  | some k => exact if_pos (h k rfl)
theorem kindsTo_len (j : Option Nat) (i : Nat) : (kindsTo j i).length ≤ 1 := by
  unfold kindsTo
  cases j with
  | none => exact Nat.zero_le _
  | some k =>
    dsimp only
    split
    · exact Nat.le_refl _
    · exact Nat.zero_le _
theorem kindsTo_yes {j : Option Nat} {i : Nat} (h : (j == some i) = true) : kindsTo j (i + 1) = kindsTo j i ++ [(i : Int)] := by
  have e : j = some i := eq_of_beq h
  subst e
  show (if i < i + 1 then [(i : Int)] else []) = (if i < i then [(i : Int)] else []) ++ [(i : Int)]
  rw [if_pos (by omega), if_neg (by omega)]; rfl
theorem kindsTo_no {j : Option Nat} {i : Nat} (h : (j == some i) = false) : kindsTo j (i + 1) = kindsTo j i := by
  cases j with
  | none => rfl
  | some k =>
    have ne : k ≠ i := fun z => by rw [z] at h; simp at h
    show (if k < i + 1 then [(k : Int)] else []) = (if k < i then [(k : Int)] else [])
    by_cases l : k < i
    · rw [if_pos l, if_pos (by omega)]
    · rw [if_neg l, if_neg (by omega)]
def flagsV (j : Option Nat) : List V := [.bl (j == some 0), .bl (j == some 1), .bl (j == some 2), .bl (j == some 3), .bl (j == some 4), .bl (j == some 5), .bl (j == some 6), .bl (j == some 7), .bl (j == some 8), .bl (j == some 9), .bl (j == some 10), .bl (j == some 11), .bl (j == some 12), .bl (j == some 13)]
theorem flags_at {j : Option Nat} {i : Nat} (h : i < 14) : (flagsV j)[i]? = some (.bl (j == some i)) := by
  match i, h with
  | 0, _ | 1, _ | 2, _ | 3, _ | 4, _ | 5, _ | 6, _ | 7, _ | 8, _ | 9, _ | 10, _ | 11, _ | 12, _ | 13, _ => rfl
theorem Ask.lt {K : PySem.W.Frag} {c : Cs} {H : Hp} {v : V} {j : Option Nat} (h : Ask K c H v j) : ∀ i, j = some i → i < 14 := by
  obtain ⟨t, r, ⟨_, _, e⟩ | ⟨a, D, d, i, _, _, k, x, e, hi⟩⟩ := h
  · intro i z; rw [e] at z; cases z
  · intro i' z; rw [e] at z; cases z; exact hi
theorem Ask.non {K : PySem.W.Frag} {c : Cs} {H : Hp} {v : V} {j : Option Nat} (h : Ask K c H v j) : (v = .non ∧ j = none) ∨ (v ≠ .non ∧ ∃ i, j = some i) := by
  obtain ⟨t, r, ⟨e, _, e2⟩ | ⟨a, D, d, i, e, _, k, x, e2, hi⟩⟩ := h
  · exact .inl ⟨e, e2⟩
  · exact .inr ⟨(by rw [e]; exact fun z => nomatch z), i, e2⟩
section
variable {c : Cs} {P : Program} {w : World} {K : PySem.W.Frag} {mg : Str → Option Value} {base : Heap}
abbrev s_Lclass : Stmt := top 75
abbrev N_Lclass : List Str := ["_law_e", "_law_found", "_law_kinds", "_law_k"]
abbrev P_Lclass : List Str := ["_law_e"]
theorem sc_Lclass : FnScope N_Lclass ["_law_e"] (defScope s_Lclass) := ⟨rfl, rfl, rfl, by decide +kernel, rfl, by decide +kernel, by decide +kernel⟩

def sp_Lclass (K : PySem.W.Frag) (c : Cs) : Sp := fun vs H Q _ => ∃ (v : V) (j : Option Nat), vs = [v] ∧ Ask K c H v j ∧ ∀ H' p, Same H H' → H' p = some (.lst ((kindsOf j).map V.int)) → H p = none → Q (.ref p) H'
theorem ok_Lclass (T : Txt K mg c) {f : Addr} {fd : FuncData} (F : L2.Fun K "_law_class" "_law_class" s_Lclass f fd) : FnOk P w K mg base CX0 1 f fd P_Lclass (sp_Lclass K c) := by
  refine F.ok sc_Lclass (fun vs H Q E h => ?_) (fun cdv A outer s H vs Q E hr h => ?_)
  · obtain ⟨v, j, rfl, _⟩ := h
    rfl
  · obtain ⟨v, j, rfl, A0, k⟩ := h
    refine ⟨_, (pss_cons (ps_set (i := 1) sc_Lclass.nd rfl (by first | exact Or.inl rfl | exact Or.inr rfl) (pe_lst (pa_cons (pe_callB call_isA (by rfl) T.z_isinstance (by decide +kernel) (pa_cons (pv 0) (pa_cons (pe_gc (v := .ref c.NoPoly) rfl ⟨_, T.g_NoPoly, rfl⟩) pa_nil))) (pa_cons (pe_callB call_isA (by rfl) T.z_isinstance (by decide +kernel) (pa_cons (pv 0) (pa_cons (pe_gc (v := .ref c.NoHouse) rfl ⟨_, T.g_NoHouse, rfl⟩) pa_nil))) (pa_cons (pe_callB call_isA (by rfl) T.z_isinstance (by decide +kernel) (pa_cons (pv 0) (pa_cons (pe_gc (v := .ref c.NoLetter) rfl ⟨_, T.g_NoLetter, rfl⟩) pa_nil))) (pa_cons (pe_callB call_isA (by rfl) T.z_isinstance (by decide +kernel) (pa_cons (pv 0) (pa_cons (pe_gc (v := .ref c.NoCount) rfl ⟨_, T.g_NoCount, rfl⟩) pa_nil))) pa_nil))))))
      (pss_cons (ps_set (i := 1) sc_Lclass.nd rfl (by first | exact Or.inl rfl | exact Or.inr rfl) (pe_op op_cat (pv 1) (pe_lst (pa_cons (pe_callB call_isA (by rfl) T.z_isinstance (by decide +kernel) (pa_cons (pv 0) (pa_cons (pe_gc (v := .ref c.NoMove) rfl ⟨_, T.g_NoMove, rfl⟩) pa_nil))) (pa_cons (pe_callB call_isA (by rfl) T.z_isinstance (by decide +kernel) (pa_cons (pv 0) (pa_cons (pe_gc (v := .ref c.NoWord) rfl ⟨_, T.g_NoWord, rfl⟩) pa_nil))) (pa_cons (pe_callB call_isA (by rfl) T.z_isinstance (by decide +kernel) (pa_cons (pv 0) (pa_cons (pe_gc (v := .ref c.Full) rfl ⟨_, T.g_Full, rfl⟩) pa_nil))) (pa_cons (pe_callB call_isA (by rfl) T.z_isinstance (by decide +kernel) (pa_cons (pv 0) (pa_cons (pe_gc (v := .ref c.NoDeed) rfl ⟨_, T.g_NoDeed, rfl⟩) pa_nil))) pa_nil)))))))
      (pss_cons (ps_set (i := 1) sc_Lclass.nd rfl (by first | exact Or.inl rfl | exact Or.inr rfl) (pe_op op_cat (pv 1) (pe_lst (pa_cons (pe_callB call_isA (by rfl) T.z_isinstance (by decide +kernel) (pa_cons (pv 0) (pa_cons (pe_gc (v := .ref c.NoText) rfl ⟨_, T.g_NoText, rfl⟩) pa_nil))) (pa_cons (pe_callB call_isA (by rfl) T.z_isinstance (by decide +kernel) (pa_cons (pv 0) (pa_cons (pe_gc (v := .ref c.NoLine) rfl ⟨_, T.g_NoLine, rfl⟩) pa_nil))) (pa_cons (pe_callB call_isA (by rfl) T.z_isinstance (by decide +kernel) (pa_cons (pv 0) (pa_cons (pe_gc (v := .ref c.NoOver) rfl ⟨_, T.g_NoOver, rfl⟩) pa_nil))) (pa_cons (pe_callB call_isA (by rfl) T.z_isinstance (by decide +kernel) (pa_cons (pv 0) (pa_cons (pe_gc (v := .ref c.NoName) rfl ⟨_, T.g_NoName, rfl⟩) pa_nil))) pa_nil)))))))
      (pss_cons (ps_set (i := 1) sc_Lclass.nd rfl (by first | exact Or.inl rfl | exact Or.inr rfl) (pe_op op_cat (pv 1) (pe_lst (pa_cons (pe_callB call_isA (by rfl) T.z_isinstance (by decide +kernel) (pa_cons (pv 0) (pa_cons (pe_gc (v := .ref c.Twice) rfl ⟨_, T.g_Twice, rfl⟩) pa_nil))) (pa_cons (pe_callB call_isA (by rfl) T.z_isinstance (by decide +kernel) (pa_cons (pv 0) (pa_cons (pe_gc (v := .ref c.NoNumber) rfl ⟨_, T.g_NoNumber, rfl⟩) pa_nil))) pa_nil)))))
      (pss_cons (ps_setLc (i := 2) (own := [("_law_k", 3)]) (g := gName 3) (by rfl) sc_Lclass.nd rfl rfl (sw_true rfl rfl rfl (by decide +kernel)) (pi_range1 rfl T.z_range (pa_cons pe_int pa_nil)) (blkOk_by (own := [("_law_k", 3)]) (N := N_Lclass) (sc := defScope s_Lclass) (by decide +kernel)) (fun _ _ _ _ _ => (pg_name (i := 3) sc_Lclass.nd rfl (by first | exact Or.inl rfl | exact Or.inr rfl))) (fun _ _ _ _ _ => (pts_one (pt_val (pe_ix (show IxR _ (rIxL K) from ix_list) (pv 1) (pv 3) (fun _ _ => rfl))))) (fun _ _ _ _ _ => (pv 3)))
      (pss_cons (ps_if (PW.pt (pw_and (pt_cmpR op_notN (pv 0) pe_non (nomark _)) (pw_and1 (pt_cmpR (op_eqD hr.units) (pv 2) (pe_lst pa_nil) (nomark _))))) (pss_one (ps_ret (pe_lst (pa_cons pe_int pa_nil)))) pss_nil)
      (pss_cons (ps_if (pt_cmpR op_ne (pe_callB call_isA (by rfl) T.z_isinstance (by decide +kernel) (pa_cons (pv 0) (pa_cons (pe_gc (v := .ref c.RootError) rfl ⟨_, T.g_RootError, rfl⟩) pa_nil))) (pe_and (pe_cmpR (op_neD hr.units) (pv 2) (pe_lst pa_nil) (nomark _)) (pe_one (pe_cmpR op_lt (pe_ix ix_list (pv 2) pe_int (fun _ _ => rfl)) pe_int (nomark _)))) (nomark _)) (pss_one (ps_ret (pe_lst (pa_cons pe_int pa_nil)))) pss_nil)
      (pss_one (ps_ret (pv 2)))))))))), ?_⟩
    refine ⟨_, rfl, A0.is (fun t r => r.k_NoPoly) ⟨_, rfl, A0.is (fun t r => r.k_NoHouse) ⟨_, rfl, A0.is (fun t r => r.k_NoLetter) ⟨_, rfl, A0.is (fun t r => r.k_NoCount) ⟨sz4, fun p1 hp1 => ?_⟩⟩⟩⟩⟩
    have s1 := same_new (o := .lst [.bl (j == some 0), .bl (j == some 1), .bl (j == some 2), .bl (j == some 3)]) hp1
    have A1 := A0.same s1
    refine ⟨_, rfl, _, rfl, A1.is (fun t r => r.k_NoMove) ⟨_, rfl, A1.is (fun t r => r.k_NoWord) ⟨_, rfl, A1.is (fun t r => r.k_Full) ⟨_, rfl, A1.is (fun t r => r.k_NoDeed) ⟨sz4, fun p2 hp2 => ?_⟩⟩⟩⟩⟩
    refine ⟨p1, p2, _, _, rfl, rfl, same_new hp2 _ _ upd_same, upd_same, (show 8 ≤ sizeLine by decide), fun p3 hp3 => ?_⟩
    have s3 := (s1.trans (same_new (o := .lst [.bl (j == some 4), .bl (j == some 5), .bl (j == some 6), .bl (j == some 7)]) hp2)).trans (same_new (o := .lst ([V.bl (j == some 0), .bl (j == some 1), .bl (j == some 2), .bl (j == some 3)] ++ [.bl (j == some 4), .bl (j == some 5), .bl (j == some 6), .bl (j == some 7)])) hp3)
    have A3 := A0.same s3
    refine ⟨_, rfl, _, rfl, A3.is (fun t r => r.k_NoText) ⟨_, rfl, A3.is (fun t r => r.k_NoLine) ⟨_, rfl, A3.is (fun t r => r.k_NoOver) ⟨_, rfl, A3.is (fun t r => r.k_NoName) ⟨sz4, fun p4 hp4 => ?_⟩⟩⟩⟩⟩
    refine ⟨p3, p4, _, _, rfl, rfl, same_new hp4 _ _ upd_same, upd_same, (show 12 ≤ sizeLine by decide), fun p5 hp5 => ?_⟩
    have s5 := (s3.trans (same_new (o := .lst [.bl (j == some 8), .bl (j == some 9), .bl (j == some 10), .bl (j == some 11)]) hp4)).trans (same_new (o := .lst (([V.bl (j == some 0), .bl (j == some 1), .bl (j == some 2), .bl (j == some 3)] ++ [.bl (j == some 4), .bl (j == some 5), .bl (j == some 6), .bl (j == some 7)]) ++ [.bl (j == some 8), .bl (j == some 9), .bl (j == some 10), .bl (j == some 11)])) hp5)
    have A5 := A0.same s5
    refine ⟨_, rfl, _, rfl, A5.is (fun t r => r.k_Twice) ⟨_, rfl, A5.is (fun t r => r.k_NoNumber) ⟨sz2, fun p6 hp6 => ?_⟩⟩⟩
    refine ⟨p5, p6, _, _, rfl, rfl, same_new hp6 _ _ upd_same, upd_same, (show 14 ≤ sizeLine by decide), fun p7 hp7 => ?_⟩
    have s7 := (s5.trans (same_new (o := .lst [.bl (j == some 12), .bl (j == some 13)]) hp6)).trans (same_new (o := .lst (flagsV j)) hp7)
    refine ⟨14, rfl, by decide, by decide, fun D hD => lc_range (lo := 0) (n := 14) (fun i H' => H' D = some (.lst ((kindsTo j i).map V.int)) ∧ H' p7 = some (.lst (flagsV j)) ∧ Same H H') ⟨?_, same_new hD _ _ upd_same, s7.trans (same_new hD)⟩ ?_ ?_⟩
    · rw [upd_same]
      cases j with
      | none => rfl
      | some k => rfl
    · rintro i H' hi ⟨hD', h7, sm⟩
      refine ⟨rfl, _, rfl, _, rfl, p7, _, _, _, rfl, rfl, SqL.of h7, ?_, (j == some i), rfl, ?_⟩
      · rw [Int.zero_add]
        exact atI_nat (flags_at hi)
      have D7 : D ≠ p7 := fun z => by rw [z] at hD; rw [upd_same] at hD; cases hD
      have HD : H D = none := s7.free hD
      refine ite2 (fun hc => ?_) (fun hc => ?_)
      · refine ⟨_, rfl, _, hD', ?_, ?_, ?_, ?_⟩
        · rw [List.length_map]
          have := kindsTo_len j i
          exact Nat.lt_of_le_of_lt this (by decide)
        · rw [upd_same, kindsTo_yes hc, List.map_append, Int.zero_add]; rfl
        · rw [upd_ne D7.symm]; exact h7
        · intro b u hb
          rw [upd_ne (ne_of_none hb HD)]
          exact sm b u hb
      · refine ⟨?_, h7, sm⟩
        rw [kindsTo_no (by simpa using hc)]; exact hD'
    · rintro H8 ⟨hD', h7, sm⟩
      rw [kindsTo_all A0.lt] at hD'
      have HD : H D = none := s7.free hD
      rcases A0.non with ⟨rfl, rfl⟩ | ⟨vn, i, rfl⟩
      · refine ⟨_, rfl, rfl, _, rfl, ?_⟩
        refine ite2 (fun hc => absurd hc (by decide)) (fun _ => ?_)
        refine ⟨_, rfl, (A0.same sm).is (fun t r => r.k_RootError) ?_⟩
        refine ⟨_, rfl, (show 0 ≤ sizeLine by decide), fun p8 hp8 => ⟨dInts [], dInts [], dpInts (SqL.of (same_new hp8 _ _ hD')), dpInts (SqL.of upd_same), shInts [], shInts [], (!PyData.eqv (dInts []) (dInts [])), rfl, ?_⟩⟩
        rw [eqInts]
        refine ite2 (fun hc => nomatch hc) (fun _ => ?_)
        refine ⟨rfl, _, rfl, ?_⟩
        refine iteNS rfl ?_
        exact ⟨_, rfl, k _ D (sm.trans (same_new hp8)) (same_new hp8 _ _ hD') HD⟩
      · refine ⟨_, rfl, rfl, _, rfl, ?_⟩
        refine ite2 (fun _ => ?_) (fun hc => absurd (by rw [decide_eq_false vn]; rfl) hc)
        refine ⟨_, rfl, (show 0 ≤ sizeLine by decide), fun p8 hp8 => ⟨dInts [(i : Int)], dInts [], dpInts (SqL.of (same_new hp8 _ _ hD')), dpInts (SqL.of upd_same), shInts _, shInts [], (PyData.eqv (dInts [(i : Int)]) (dInts [])), rfl, ?_⟩⟩
        have e0 : PyData.eqv (dInts [(i : Int)]) (dInts []) = false := rfl
        rw [e0]
        refine ite2 (fun hc => nomatch hc) (fun _ => ?_)
        have s8 := sm.trans (same_new (o := .lst []) hp8)
        refine ⟨_, rfl, (A0.same s8).is (fun t r => r.k_RootError) ?_⟩
        refine ⟨_, rfl, (show 0 ≤ sizeLine by decide), fun p9 hp9 => ⟨dInts [(i : Int)], dInts [], dpInts (SqL.of (same_new hp9 _ _ (same_new hp8 _ _ hD'))), dpInts (SqL.of upd_same), shInts _, shInts [], (!PyData.eqv (dInts [(i : Int)]) (dInts [])), rfl, ?_⟩⟩
        rw [e0]
        refine ite2 (fun _ => ?_) (fun hc => absurd rfl hc)
        have hD9 := same_new (o := .lst []) hp9 _ _ (same_new (o := .lst []) hp8 _ _ hD')
        refine ⟨_, rfl, D, _, _, _, rfl, rfl, SqL.of hD9, rfl, _, _, rfl, rfl, rfl, _, rfl, ?_⟩
        have eb : (Option.any (fun i => decide (i < 10)) (some i)) = decide ((i : Int) < 10) := by
          show decide (i < 10) = decide ((i : Int) < 10)
          exact decide_eq_decide.mpr (by omega)
        rw [eb]
        refine iteNS rfl ?_
        exact ⟨_, rfl, k _ D (s8.trans (same_new hp9)) hD9 HD⟩
end
end My

namespace My
open PySem PySem.Spec PyProof.Rows L2
open C8 (Cal pe_c pe_gc)
/-- what the law's caught tells: the kinds, the place -/
def caughtOf (ns : List Int) (way : Nat) (bottom : Int) : Option Nat × Option Nat :=
  if (faultOf ns).1 = false then (some 0, (faultOf ns).2) else if 1 < way ∧ bottom = 0 then (some 13, none) else (none, none)
section
variable {c : Cs} {CH : Addr} {P : Program} {w : World} {K : PySem.W.Frag} {mg : Str → Option Value} {base : Heap}
abbrev s_Lcaught : Stmt := top 80
abbrev N_Lcaught : List Str := ["_law_way", "_law_poly_here", "_law_value", "_law_caught_here", "_law_e"]
abbrev P_Lcaught : List Str := ["_law_way", "_law_poly_here", "_law_value"]
theorem sc_Lcaught : FnScope N_Lcaught ["_law_way", "_law_poly_here", "_law_value"] (defScope s_Lcaught) := ⟨rfl, rfl, rfl, by decide +kernel, rfl, by decide +kernel, by decide +kernel⟩

def sp_Lcaught (K : PySem.W.Frag) : Sp := fun vs H Q _ => ∃ (way : Nat) (a : Addr) (v : V) (ns : List Int) (q : Int × Int), vs = [.int (way : Nat), .ref a, v] ∧ way < 4 ∧ SqL K H a (ns.map V.int) ∧ FrAt K H v q ∧ Sz 300 q.1 ∧ Sz 300 q.2 ∧
  ∀ H' p kl, Same H H' → H' p = some (.lst [.ref kl, atV (caughtOf ns way q.2).2]) → H' kl = some (.lst ((kindsOf (caughtOf ns way q.2).1).map V.int)) → Q (.ref p) H'
theorem ok_Lcaught (T : Txt K mg c) {f : Addr} {fd : FuncData} (F : L2.Fun K "_law_caught" "_law_caught" s_Lcaught f fd) (h_house_of : CalX P w K mg base 6 "house_of" (sp_house_of K c CH)) (k_house_of : KCalX P w K mg base 6 "house_of" (sp_house_of K c CH) 0 ["polynomial"] (fun _ zs => zs))
    (h_worth : CalX P w K mg base 4 "worth" (sp_worth K c)) (k_worth : KCalX P w K mg base 4 "worth" (sp_worth K c) 0 ["fraction", "polynomial"] (fun _ zs => zs.reverse)) (h_Lclass : Cal P w K mg base 1 "_law_class" (sp_Lclass K c) []) : FnOk P w K mg base CX0 7 f fd P_Lcaught (sp_Lcaught K) := by
  refine F.ok sc_Lcaught (fun vs H Q E h => ?_) (fun cdv A outer s H vs Q E hr h => ?_)
  · obtain ⟨way, a, v, ns, q, rfl, _⟩ := h
    rfl
  · obtain ⟨way, a, v, ns, q, rfl, hw, hS, hv, hz1, hz2, k⟩ := h
    refine ⟨_, (pss_cons (ps_set (i := 3) sc_Lcaught.nd rfl (by first | exact Or.inl rfl | exact Or.inr rfl) pe_non)
      (pss_cons (ps_try_keep (i := 4) rfl rfl rfl sc_Lcaught.nd rfl rfl takes0 (fun W pn xe tk po => (pss_one (ps_if (pt_cmpR op_eq (pv 0) pe_int (nomark _)) (pss_one (ps_expr (pe_cS h_house_of hr (by decide) rfl (fun σ => passAt tk σ) (pa_cons (pv 1) pa_nil)))) (pss_one (ps_if (pt_cmpR op_eq (pv 0) pe_int (nomark _)) (pss_one (ps_expr (pe_ck0S k_house_of hr (by decide) rfl (fun σ => passAt tk σ) (pk_cons (pv 1) pk_nil)))) (pss_one (ps_if (pt_cmpR op_eq (pv 0) pe_int (nomark _)) (pss_one (ps_expr (pe_cS h_worth hr (by decide) rfl (fun σ => passAt tk σ) (pa_cons (pv 1) (pa_cons (pv 2) pa_nil))))) (pss_one (ps_expr (pe_ck0S k_worth hr (by decide) rfl (fun σ => passAt tk σ) (pk_cons (pv 2) (pk_cons (pv 1) pk_nil)))))))))))) (.cons ⟨rfl, by decide, .inl T.g_RootError⟩ (fun a oe cls d pn => (pss_one (ps_set (i := 3) sc_Lcaught.nd rfl (by first | exact Or.inl rfl | exact Or.inr rfl) (pv 4)))) (.cons ⟨rfl, by decide, .inl T.g_NoNumber⟩ (fun a oe cls d pn => (pss_one (ps_set (i := 3) sc_Lcaught.nd rfl (by first | exact Or.inl rfl | exact Or.inr rfl) (pv 4)))) (.cons ⟨rfl, by decide, .inl T.g_NoOver⟩ (fun a oe cls d pn => (pss_one (ps_set (i := 3) sc_Lcaught.nd rfl (by first | exact Or.inl rfl | exact Or.inr rfl) (pv 4)))) .nil))))
      (pss_cons (ps_if (pt_val (pe_callB call_isA (by rfl) T.z_isinstance (by decide +kernel) (pa_cons (pv 3) (pa_cons (pe_gc (v := .ref c.NoPoly) rfl ⟨_, T.g_NoPoly, rfl⟩) pa_nil)))) (pss_one (ps_ret (pe_lst (pa_cons (pe_c h_Lclass hr (by decide) rfl (pa_cons (pv 3) pa_nil)) (pa_cons (pe_kf (pv 3)) pa_nil))))) pss_nil)
      (pss_one (ps_ret (pe_lst (pa_cons (pe_c h_Lclass hr (by decide) rfl (pa_cons (pv 3) pa_nil)) (pa_cons pe_non pa_nil)))))))), ?_⟩
    have fin : ∀ (H' : Hp) (v3 : V) (o4 : Option V) (j at_ : Option Nat), Same H H' → Ask K c H' v3 j → caughtOf ns way q.2 = (j, at_) →
        ((j = some 0 ∧ ∃ e d, v3 = .ref e ∧ H' e = some (ExV (.ref c.NoPoly) (some d) e) ∧ H' d = some (.xd [("at", atV at_)])) ∨ ((j == some 0) = false ∧ at_ = none)) →
        tSeq (tIfS (tB (tCB (fun xs H Q => rIsi K xs H Q ∨ rIsK K xs H Q) (tCons (tVar 3) (tCons (tC (V.ref c.NoPoly)) tNil)))) (tRet (tLst (tCons (tCall (sp_Lclass K c) [] C8.E0 (tCons (tVar 3) tNil)) (tCons (tKFld K (tVar 3) "at") tNil)))) tNext)
          (tRet (tLst (tCons (tCall (sp_Lclass K c) [] C8.E0 (tCons (tVar 3) tNil)) (tCons (tC V.non) tNil)))) ({ nx := fun _ H' => Q .non H', rt := Q } : Ends) [some (.int (way : Nat)), some (.ref a), some v, some v3, o4] H' := by
      intro H' v3 o4 j at_ sm A0 ec hj
      have ek1 : (caughtOf ns way q.2).1 = j := by rw [ec]
      have ek2 : (caughtOf ns way q.2).2 = at_ := by rw [ec]
      refine ⟨_, rfl, A0.is (fun t r => r.k_NoPoly) ⟨_, rfl, ?_⟩⟩
      refine ite2 (fun hc => ?_) (fun hc => ?_)
      · rcases hj with ⟨rfl, e, d, rfl, he, hd⟩ | ⟨hj, _⟩
        · refine ⟨_, rfl, _, _, rfl, A0, fun H2 p s2 hp hn => ⟨_, rfl, e, c.NoPoly, d, _, atV at_, rfl, s2 _ _ he, s2 _ _ hd, T.exc_NoPoly, T.no_NoPoly, rfl, sz2, fun r hr_ => ?_⟩⟩
          refine k _ r p ((sm.trans s2).trans (same_new hr_)) (by rw [ek2]; exact upd_same) ?_
          rw [ek1]
          exact same_new hr_ _ _ hp
        · rw [hj] at hc; cases hc
      · rcases hj with ⟨rfl, _⟩ | ⟨hj, rfl⟩
        · exact absurd rfl hc
        · refine ⟨_, rfl, _, _, rfl, A0, fun H2 p s2 hp hn => ⟨sz2, fun r hr_ => ?_⟩⟩
          refine k _ r p ((sm.trans s2).trans (same_new hr_)) (by rw [ek2]; exact upd_same) ?_
          rw [ek1]
          exact same_new hr_ _ _ hp
    have c0 : (faultOf ns).1 = false → caughtOf ns way q.2 = (some 0, (faultOf ns).2) := fun g => if_pos g
    have c13 : (faultOf ns).1 = true → 1 < way → q.2 = 0 → caughtOf ns way q.2 = (some 13, none) := fun g w z => by
      unfold caughtOf
      rw [if_neg (by rw [g]; decide), if_pos ⟨w, z⟩]
    have cn : (faultOf ns).1 = true → ¬ (1 < way ∧ q.2 = 0) → caughtOf ns way q.2 = (none, none) := fun g n => by
      unfold caughtOf
      rw [if_neg (by rw [g]; decide), if_neg n]
    have askN : ∀ H' : Hp, Ask K c H' .non none := fun H' => ⟨_, T.row_none, .inl ⟨rfl, rfl, rfl⟩⟩
    have polyX : (faultOf ns).1 = false → ∀ (d e : Addr) (H' : Hp) (o4 : Option V), Same H H' → H' d = some (.xd [("at", atV (faultOf ns).2)]) → H' e = none → _ := fun g d e H' o4 sm hd he =>
      fin (upd H' e (ExV (.ref c.NoPoly) (some d) e)) (.ref e) o4 (some 0) (faultOf ns).2 (sm.trans (same_new he))
        ⟨_, T.row_NoPoly, .inr ⟨e, c.NoPoly, some d, 0, rfl, rfl, ⟨upd_same, .inr ⟨d, _, rfl, same_new he _ _ hd⟩⟩, T.exc_NoPoly, rfl, by decide⟩⟩ (c0 g) (.inl ⟨rfl, e, d, rfl, upd_same, same_new he _ _ hd⟩)
    have numX : (faultOf ns).1 = true → 1 < way → q.2 = 0 → ∀ (e : Addr) (H' : Hp) (o4 : Option V), Same H H' → H' e = none → _ := fun g w z e H' o4 sm he =>
      fin (upd H' e (ExV (.ref c.NoNumber) none e)) (.ref e) o4 (some 13) none (sm.trans (same_new he))
        ⟨_, T.row_NoNumber, .inr ⟨e, c.NoNumber, none, 13, rfl, rfl, ⟨upd_same, .inl rfl⟩, T.exc_NoNumber, rfl, by decide⟩⟩ (c13 g w z) (.inr ⟨rfl, rfl⟩)
    have viE : ∀ y : Nat, (decide (V.int (way : Nat) = V.int (y : Nat))) = decide (way = y) := fun y => decide_eq_decide.mpr ⟨fun h => by injection h with h; omega, fun h => by rw [h]⟩
    have hw4 : way = 0 ∨ way = 1 ∨ way = 2 ∨ way = 3 := by omega
    rcases hw4 with rfl | rfl | rfl | rfl
    · refine ⟨_, rfl, rfl, _, rfl, ?_⟩
      refine ite2 (fun _ => ?_) (fun hc => absurd rfl hc)
      refine ⟨_, rfl, a, ns, rfl, hS, fun g d H1 s1 n hd => ?_, fun g H1 h s1 _ _ => ?_⟩
      · exact ⟨true, T.exm_NoPoly_RootError, fun _ e he => ⟨_, rfl, fun ne => polyX g d e H1 _ s1 hd ne⟩, fun z => nomatch z⟩
      · exact fin H1 .non _ none none s1 (askN _) (cn g (by omega)) (.inr ⟨rfl, rfl⟩)
    · refine ⟨_, rfl, rfl, _, rfl, ?_⟩
      refine ite2 (fun hc => absurd hc (by decide)) (fun _ => ?_)
      refine ⟨_, rfl, rfl, _, rfl, ?_⟩
      refine ite2 (fun _ => ?_) (fun hc => absurd rfl hc)
      refine ⟨_, rfl, rfl, rfl, a, ns, rfl, hS, fun g d H1 s1 n hd => ?_, fun g H1 h s1 _ _ => ?_⟩
      · exact ⟨true, T.exm_NoPoly_RootError, fun _ e he => ⟨_, rfl, fun ne => polyX g d e H1 _ s1 hd ne⟩, fun z => nomatch z⟩
      · exact fin H1 .non _ none none s1 (askN _) (cn g (by omega)) (.inr ⟨rfl, rfl⟩)
    · refine ⟨_, rfl, rfl, _, rfl, ?_⟩
      refine ite2 (fun hc => absurd hc (by decide)) (fun _ => ?_)
      refine ⟨_, rfl, rfl, _, rfl, ?_⟩
      refine ite2 (fun hc => absurd hc (by decide)) (fun _ => ?_)
      refine ⟨_, rfl, rfl, _, rfl, ?_⟩
      refine ite2 (fun _ => ?_) (fun hc => absurd rfl hc)
      refine ⟨_, rfl, _, rfl, a, v, ns, q, rfl, hS, hv, hz1, hz2, fun g d H1 s1 n hd => ?_, fun g z H1 s1 => ?_, fun g z H1 u s1 _ => ?_⟩
      · exact ⟨true, T.exm_NoPoly_RootError, fun _ e he => ⟨_, rfl, fun ne => polyX g d e H1 _ s1 hd ne⟩, fun z => nomatch z⟩
      · exact ⟨false, T.exm_NoNumber_RootError, (fun z => nomatch z), fun _ => ⟨true, T.exm_NoNumber_NoNumber, fun _ e he => ⟨_, rfl, fun ne => numX g (by decide) z e H1 _ s1 ne⟩, fun z => nomatch z⟩⟩
      · exact fin H1 .non _ none none s1 (askN _) (cn g fun w => z w.2) (.inr ⟨rfl, rfl⟩)
    · refine ⟨_, rfl, rfl, _, rfl, ?_⟩
      refine ite2 (fun hc => absurd hc (by decide)) (fun _ => ?_)
      refine ⟨_, rfl, rfl, _, rfl, ?_⟩
      refine ite2 (fun hc => absurd hc (by decide)) (fun _ => ?_)
      refine ⟨_, rfl, rfl, _, rfl, ?_⟩
      refine ite2 (fun hc => absurd hc (by decide)) (fun _ => ?_)
      refine ⟨_, rfl, _, rfl, rfl, rfl, a, v, ns, q, rfl, hS, hv, hz1, hz2, fun g d H1 s1 n hd => ?_, fun g z H1 s1 => ?_, fun g z H1 u s1 _ => ?_⟩
      · exact ⟨true, T.exm_NoPoly_RootError, fun _ e he => ⟨_, rfl, fun ne => polyX g d e H1 _ s1 hd ne⟩, fun z => nomatch z⟩
      · exact ⟨false, T.exm_NoNumber_RootError, (fun z => nomatch z), fun _ => ⟨true, T.exm_NoNumber_NoNumber, fun _ e he => ⟨_, rfl, fun ne => numX g (by decide) z e H1 _ s1 ne⟩, fun z => nomatch z⟩⟩
      · exact fin H1 .non _ none none s1 (askN _) (cn g fun w => z w.2) (.inr ⟨rfl, rfl⟩)
end
end My

namespace My
open PySem PySem.Spec PyProof.Rows L2
open C8 (Cal pe_c pe_gc)
section
variable {c : Cs} {P : Program} {w : World} {K : PySem.W.Frag} {mg : Str → Option Value} {base : Heap}

abbrev s_Lalike_roots : Stmt := top 76
abbrev N_Lalike_roots : List Str := ["_law_poly_here", "_law_told", "_law_c", "_law_b", "_law_a"]
abbrev P_Lalike_roots : List Str := ["_law_poly_here"]
theorem sc_Lalike_roots : FnScope N_Lalike_roots ["_law_poly_here"] (defScope s_Lalike_roots) := ⟨rfl, rfl, rfl, by decide +kernel, rfl, by decide +kernel, by decide +kernel⟩

def sp_Lalike_roots : Sp := fun vs H Q _ => ∃ (a : Addr) (ns : List Int), vs = [.ref a] ∧ H a = some (.lst (ns.map V.int)) ∧ 2 ≤ ns.length ∧ ns.length ≤ 5 ∧ (∀ x ∈ ns, Bd 100 x) ∧ ∀ H', Same H H' → Q (.bl (decide (toldOf ns = 0))) H'
theorem dec_int {x y : Int} {p : Prop} [Decidable p] (h : x = y ↔ p) : decide (V.int x = V.int y) = decide p := by
  apply decide_eq_decide.mpr
  constructor
  · intro e
    injection e with e
    exact h.mp e
  · intro e
    rw [h.mpr e]
theorem ok_Lalike_roots (T : Txt K mg c) {f : Addr} {fd : FuncData} (F : L2.Fun K "_law_alike_roots" "_law_alike_roots" s_Lalike_roots f fd) : FnOk P w K mg base CX0 1 f fd P_Lalike_roots sp_Lalike_roots := by
  refine F.ok sc_Lalike_roots (fun vs H Q E h => ?_) (fun cdv A outer s H vs Q E hr h => ?_)
  · obtain ⟨a, ns, rfl, _⟩ := h
    rfl
  · obtain ⟨p, ns, rfl, hL, l2, l5, sm, k⟩ := h
    have hS : SqL K H p (ns.map V.int) := SqL.of hL
    refine ⟨_, (pss_cons (ps_if (pt_cmpR op_eq (pe_callB call_len_seq (by rfl) T.z_len (by decide +kernel) (pa_cons (pv 0) pa_nil)) pe_int (nomark _)) (pss_one (ps_ret (pe_cmpR op_eq (pe_op op_mulW (pe_ix ix_list (pv 0) pe_int (fun _ _ => rfl)) (pe_ix ix_list (pv 0) pe_int (fun _ _ => rfl))) (pe_op op_mulW pe_int (pe_ix ix_list (pv 0) pe_int (fun _ _ => rfl))) (nomark _)))) pss_nil)
      (pss_cons (ps_asg (pe_slice sl_list (pe_op op_cat (pv 0) (pe_lst (pa_cons pe_int pa_nil))) po_none (po_some pe_int)) (pg_unl rfl (pgs_cons (pg_name (i := 2) sc_Lalike_roots.nd rfl (by first | exact Or.inl rfl | exact Or.inr rfl)) (pgs_cons (pg_name (i := 3) sc_Lalike_roots.nd rfl (by first | exact Or.inl rfl | exact Or.inr rfl)) (pgs_cons (pg_name (i := 4) sc_Lalike_roots.nd rfl (by first | exact Or.inl rfl | exact Or.inr rfl)) pgs_nil)))))
      (pss_cons (ps_if (pt_cmpR op_eq (pe_callB call_len_seq (by rfl) T.z_len (by decide +kernel) (pa_cons (pv 0) pa_nil)) pe_int (nomark _)) (pss_one (ps_ret (pe_or (pe_cmpR op_eq (pv 2) pe_int (nomark _)) (pe_one (pe_cmpR op_eq (pe_op op_mulW (pv 4) (pv 4)) (pe_op op_mulW pe_int (pv 2)) (nomark _)))))) pss_nil)
      (pss_cons (ps_set (i := 1) sc_Lalike_roots.nd rfl (by first | exact Or.inl rfl | exact Or.inr rfl) (pe_op op_sub (pe_op op_mulW (pe_op op_mulW (pe_op op_mulW pe_int (pv 4)) (pv 3)) (pv 2)) (pe_op op_mulW (pe_op op_mulW (pe_op op_mulW (pe_op op_mulW pe_int (pv 4)) (pv 4)) (pv 4)) (pv 2))))
      (pss_cons (ps_set (i := 1) sc_Lalike_roots.nd rfl (by first | exact Or.inl rfl | exact Or.inr rfl) (pe_op op_sub (pe_op op_add (pv 1) (pe_op op_mulW (pe_op op_mulW (pe_op op_mulW (pv 4) (pv 4)) (pv 3)) (pv 3))) (pe_op op_mulW (pe_op op_mulW (pe_op op_mulW pe_int (pv 3)) (pv 3)) (pv 3))))
      (pss_one (ps_ret (pe_and (pe_cmpR op_eq (pe_callB call_len_seq (by rfl) T.z_len (by decide +kernel) (pa_cons (pv 0) pa_nil)) pe_int (nomark _)) (pe_one (pe_cmpR op_eq (pv 1) (pe_op op_mulW (pe_op op_mulW pe_int (pv 2)) (pv 2)) (nomark _))))))))))), ?_⟩
    refine ⟨_, rfl, p, _, rfl, .inl hS, rfl, _, rfl, ?_⟩
    have b4 : Bd 4 4 := bd_lit
    rcases ns with _ | ⟨c, _ | ⟨b, _ | ⟨a, _ | ⟨d, _ | ⟨e, _ | ⟨g, r⟩⟩⟩⟩⟩⟩
    · simp at l2
    · simp at l2
    · -- two numbers
      have bc : Bd 100 c := sm _ (by simp)
      have bb : Bd 100 b := sm _ (by simp)
      refine ite2 (fun hc => absurd hc (by simp)) (fun hc => ?_)
      refine ⟨_, rfl, (by show 1 ≤ sizeLine; decide), fun l hl => ?_⟩
      refine ⟨p, l, _, _, rfl, rfl, same_new hl _ _ hL, upd_same, (by show 3 ≤ sizeLine; decide), fun l3 hl3 => ?_⟩
      have s1 : Same H (upd (upd H l (.lst [V.int 0])) l3 (.lst (List.map V.int [c, b] ++ [V.int 0]))) := (same_new hl).trans (same_new hl3)
      refine ⟨_, rfl, l3, _, rfl, SqL.of upd_same, fun l4 hl4 => ?_⟩
      refine ⟨l4, _, rfl, SqL.of upd_same, rfl, _, _, rfl, _, _, rfl, _, _, rfl, rfl, ?_⟩
      have s2 := s1.trans (same_new (o := .lst (cutV (List.map V.int [c, b] ++ [V.int 0]) none (some 3))) hl4)
      refine ⟨_, rfl, p, _, rfl, .inl (s2.seq hS), rfl, _, rfl, ?_⟩
      refine ite2 (fun hc => absurd hc (by simp)) (fun hc => ?_)
      have b18 : Bd 18 18 := bd_lit
      have b0 : Bd 0 0 := bd_lit
      have b27 : Bd 27 27 := bd_lit
      refine ⟨_, rfl, _, _, rfl, rfl, b18.cm b0, _, rfl, _, _, rfl, rfl, (b18.mul b0).cm bb, _, rfl, _, _, rfl, rfl, ((b18.mul b0).mul bb).cm bc,
        _, rfl, _, _, rfl, rfl, b4.cm b0, _, rfl, _, _, rfl, rfl, (b4.mul b0).cm b0, _, rfl, _, _, rfl, rfl, ((b4.mul b0).mul b0).cm b0, _, rfl, _, _, rfl, rfl, (((b4.mul b0).mul b0).mul b0).cm bc, _, _, rfl, rfl, ?_⟩
      refine ⟨_, rfl, _, rfl, _, rfl, _, _, rfl, rfl, b0.cm b0, _, rfl, _, _, rfl, rfl, (b0.mul b0).cm bb, _, rfl, _, _, rfl, rfl, ((b0.mul b0).mul bb).cm bb, _, _, rfl, rfl,
        _, rfl, _, _, rfl, rfl, b4.cm bb, _, rfl, _, _, rfl, rfl, (b4.mul bb).cm bb, _, rfl, _, _, rfl, rfl, ((b4.mul bb).mul bb).cm bb, _, _, rfl, rfl, ?_⟩
      refine ⟨_, rfl, p, _, rfl, .inl (s2.seq hS), rfl, _, rfl, ?_⟩
      refine ite2 (fun hc => absurd hc (by simp)) (fun hc => ?_)
      have e : (decide (V.int ((List.map V.int [c, b]).length : Nat) = V.int 4)) = decide (toldOf [c, b] = 0) := by
        rw [decide_eq_false (by simp), decide_eq_false (show ¬ toldOf [c, b] = 0 from (by decide : ¬ (1 : Int) = 0))]
      show Q (.bl (decide (V.int ((List.map V.int [c, b]).length : Nat) = V.int 4))) _
      rw [e]
      exact k _ s2
    · have bc : Bd 100 c := sm _ (by simp)
      have bb : Bd 100 b := sm _ (by simp)
      refine ite2 (fun hc => ?_) (fun hc => absurd (by simp) hc)
      refine ⟨_, rfl, p, _, _, _, rfl, rfl, hS, rfl, _, rfl, p, _, _, _, rfl, rfl, hS, rfl, _, _, rfl, rfl, bb.cm bb, _, rfl, p, _, _, _, rfl, rfl, hS, rfl, _, _, rfl, rfl, b4.cm bc, rfl, ?_⟩
      have e : decide (V.int (b * b) = V.int (4 * c)) = decide (toldOf [c, b, a] = 0) := dec_int (by show _ ↔ b * b - 4 * c = 0; omega)
      show Q (.bl (decide (V.int (b * b) = V.int (4 * c)))) _
      rw [e]
      exact k _ (Same.refl H)
    · have bc : Bd 100 c := sm _ (by simp)
      have bb : Bd 100 b := sm _ (by simp)
      have ba : Bd 100 a := sm _ (by simp)
      refine ite2 (fun hc => absurd hc (by simp)) (fun hc => ?_)
      refine ⟨_, rfl, (by show 1 ≤ sizeLine; decide), fun l hl => ?_⟩
      refine ⟨p, l, _, _, rfl, rfl, same_new hl _ _ hL, upd_same, (by show 5 ≤ sizeLine; decide), fun l3 hl3 => ?_⟩
      have s1 : Same H (upd (upd H l (.lst [V.int 0])) l3 (.lst (List.map V.int [c, b, a, d] ++ [V.int 0]))) := (same_new hl).trans (same_new hl3)
      refine ⟨_, rfl, l3, _, rfl, SqL.of upd_same, fun l4 hl4 => ?_⟩
      refine ⟨l4, _, rfl, SqL.of upd_same, rfl, _, _, rfl, _, _, rfl, _, _, rfl, rfl, ?_⟩
      have s2 := s1.trans (same_new (o := .lst (cutV (List.map V.int [c, b, a, d] ++ [V.int 0]) none (some 3))) hl4)
      refine ⟨_, rfl, p, _, rfl, .inl (s2.seq hS), rfl, _, rfl, ?_⟩
      refine ite2 (fun hc => absurd hc (by simp)) (fun hc => ?_)
      have b18 : Bd 18 18 := bd_lit
      have b27 : Bd 27 27 := bd_lit
      refine ⟨_, rfl, _, _, rfl, rfl, b18.cm ba, _, rfl, _, _, rfl, rfl, (b18.mul ba).cm bb, _, rfl, _, _, rfl, rfl, ((b18.mul ba).mul bb).cm bc,
        _, rfl, _, _, rfl, rfl, b4.cm ba, _, rfl, _, _, rfl, rfl, (b4.mul ba).cm ba, _, rfl, _, _, rfl, rfl, ((b4.mul ba).mul ba).cm ba, _, rfl, _, _, rfl, rfl, (((b4.mul ba).mul ba).mul ba).cm bc, _, _, rfl, rfl, ?_⟩
      refine ⟨_, rfl, _, rfl, _, rfl, _, _, rfl, rfl, ba.cm ba, _, rfl, _, _, rfl, rfl, (ba.mul ba).cm bb, _, rfl, _, _, rfl, rfl, ((ba.mul ba).mul bb).cm bb, _, _, rfl, rfl,
        _, rfl, _, _, rfl, rfl, b4.cm bb, _, rfl, _, _, rfl, rfl, (b4.mul bb).cm bb, _, rfl, _, _, rfl, rfl, ((b4.mul bb).mul bb).cm bb, _, _, rfl, rfl, ?_⟩
      refine ⟨_, rfl, p, _, rfl, .inl (s2.seq hS), rfl, _, rfl, ?_⟩
      refine ite2 (fun hc => ?_) (fun hc => absurd (by simp) hc)
      refine ⟨_, rfl, _, rfl, _, _, rfl, rfl, b27.cm bc, _, rfl, _, _, rfl, rfl, (b27.mul bc).cm bc, rfl, ?_⟩
      have e : decide (V.int (18 * a * b * c - 4 * a * a * a * c + a * a * b * b - 4 * b * b * b) = V.int (27 * c * c)) = decide (toldOf [c, b, a, d] = 0) := dec_int (by
        show _ ↔ 18 * a * b * c - 4 * a * a * a * c + a * a * b * b - 4 * b * b * b - 27 * c * c = 0
        generalize 18 * a * b * c - 4 * a * a * a * c + a * a * b * b - 4 * b * b * b = x
        generalize 27 * c * c = y
        omega)
      show Q (.bl (decide (V.int (18 * a * b * c - 4 * a * a * a * c + a * a * b * b - 4 * b * b * b) = V.int (27 * c * c)))) _
      rw [e]
      exact k _ s2
    · have bc : Bd 100 c := sm _ (by simp)
      have ba : Bd 100 a := sm _ (by simp)
      refine ite2 (fun hc => absurd hc (by simp)) (fun hc => ?_)
      refine ⟨_, rfl, (by show 1 ≤ sizeLine; decide), fun l hl => ?_⟩
      refine ⟨p, l, _, _, rfl, rfl, same_new hl _ _ hL, upd_same, (by show 6 ≤ sizeLine; decide), fun l3 hl3 => ?_⟩
      have s1 : Same H (upd (upd H l (.lst [V.int 0])) l3 (.lst (List.map V.int [c, b, a, d, e] ++ [V.int 0]))) := (same_new hl).trans (same_new hl3)
      refine ⟨_, rfl, l3, _, rfl, SqL.of upd_same, fun l4 hl4 => ?_⟩
      refine ⟨l4, _, rfl, SqL.of upd_same, rfl, _, _, rfl, _, _, rfl, _, _, rfl, rfl, ?_⟩
      have s2 := s1.trans (same_new (o := .lst (cutV (List.map V.int [c, b, a, d, e] ++ [V.int 0]) none (some 3))) hl4)
      refine ⟨_, rfl, p, _, rfl, .inl (s2.seq hS), rfl, _, rfl, ?_⟩
      refine ite2 (fun hc => ?_) (fun hc => absurd (by simp) hc)
      refine ⟨_, rfl, rfl, _, rfl, ?_⟩
      refine ite2 (fun hc => ?_) (fun hc => ?_)
      · have : c = 0 := by have := of_decide_eq_true hc; injection this
        have e : true = decide (toldOf [c, b, a, d, e] = 0) := by
          symm; apply decide_eq_true
          show c * (a * a - 4 * c) = 0
          rw [this, Int.zero_mul]
        rw [e]
        exact k _ s2
      · have hc0 : c ≠ 0 := fun z => hc (decide_eq_true (by rw [z]))
        refine ⟨_, rfl, _, rfl, _, _, rfl, rfl, ba.cm ba, _, rfl, _, _, rfl, rfl, b4.cm bc, rfl, ?_⟩
        have e : decide (V.int (a * a) = V.int (4 * c)) = decide (toldOf [c, b, a, d, e] = 0) := dec_int (by
          show _ ↔ c * (a * a - 4 * c) = 0
          rw [Int.mul_eq_zero]
          constructor
          · intro h; right; omega
          · intro h
            rcases h with h | h
            · exact absurd h hc0
            · omega)
        show Q (.bl (decide (V.int (a * a) = V.int (4 * c)))) _
        rw [e]
        exact k _ s2
    · simp at l5

theorem modB {x : Int} (j : Int) {n : Nat} (h : 0 < j) (hn : j ≤ n) : Bd n (x.fmod j) := by
  have := fmod_bd (x := x) h
  unfold Bd; omega
abbrev s_Lthree : Stmt := top 77
abbrev N_Lthree : List Str := ["_law_purse_here", "_law_most", "_law_way", "_law_a", "_law_b", "_law_c", "_law_k", "_law_p", "_law_q", "_law_r"]
abbrev P_Lthree : List Str := ["_law_purse_here", "_law_most"]
theorem sc_Lthree : FnScope N_Lthree ["_law_purse_here", "_law_most"] (defScope s_Lthree) := ⟨rfl, rfl, rfl, by decide +kernel, rfl, by decide +kernel, by decide +kernel⟩

def sp_Lthree : Sp := fun vs H Q _ => ∃ (a : Addr) (n : Int) (m : Nat), vs = [.ref a, .int n] ∧ 1 ≤ n ∧ n ≤ 100 ∧ Pur H a m ∧ m ≤ 2 ^ 28 ∧
  ∀ H' (p : Addr) (x y z : Int), Xt a H H' → Pur H' a (m + 100) → p ≠ a → H p = none → H' p = some (.lst ([x, y, z, 1].map V.int)) → Q (.ref p) H'
theorem ok_Lthree (T : Txt K mg c) {f : Addr} {fd : FuncData} (F : L2.Fun K "_law_three" "_law_three" s_Lthree f fd) (h_Ldraw : Cal P w K mg base 2 "_law_draw" sp_Ldraw []) : FnOk P w K mg base CX0 3 f fd P_Lthree sp_Lthree := by
  refine F.ok sc_Lthree (fun vs H Q E h => ?_) (fun cdv A outer s H vs Q E hr h => ?_)
  · obtain ⟨a, n, m, rfl, _⟩ := h
    rfl
  · obtain ⟨a, n, m, rfl, n1, n2, hp, hm, k⟩ := h
    refine ⟨_, (pss_cons (ps_set (i := 2) sc_Lthree.nd rfl (by first | exact Or.inl rfl | exact Or.inr rfl) (pe_c h_Ldraw hr (by decide) rfl (pa_cons (pv 0) (pa_cons pe_int pa_nil))))
      (pss_cons (ps_asg (pe_lc (own := [("_law_k", 6)]) (g := gName 6) (by rfl) sc_Lthree.nd (pi_range1 rfl T.z_range (pa_cons pe_int pa_nil)) (blkOk_by (own := [("_law_k", 6)]) (N := N_Lthree) (sc := defScope s_Lthree) (by decide +kernel)) (fun _ _ _ _ _ => (pg_name (i := 6) sc_Lthree.nd rfl (by first | exact Or.inl rfl | exact Or.inr rfl))) (fun _ _ _ _ _ => pts_nil) (fun _ _ _ _ _ => (pe_op op_sub (pe_c h_Ldraw hr (by decide) rfl (pa_cons (pv 0) (pa_cons (pe_op op_add (pe_op op_mulW pe_int (pv 1)) pe_int) pa_nil))) (pv 1)))) (pg_unl rfl (pgs_cons (pg_name (i := 3) sc_Lthree.nd rfl (by first | exact Or.inl rfl | exact Or.inr rfl)) (pgs_cons (pg_name (i := 4) sc_Lthree.nd rfl (by first | exact Or.inl rfl | exact Or.inr rfl)) (pgs_cons (pg_name (i := 5) sc_Lthree.nd rfl (by first | exact Or.inl rfl | exact Or.inr rfl)) pgs_nil)))))
      (pss_cons (ps_if (pt_cmpR op_eq (pv 2) pe_int (nomark _)) (pss_cons (ps_set (i := 3) sc_Lthree.nd rfl (by first | exact Or.inl rfl | exact Or.inr rfl) (pe_op op_modN (pv 3) pe_int))
      (pss_one (ps_ret (pe_lst (pa_cons (pe_un un_neg pe_int) (pa_cons (pe_op op_sub (pe_op op_sub pe_int (pv 3)) pe_int) (pa_cons (pe_op op_sub pe_int (pv 3)) (pa_cons pe_int pa_nil)))))))) pss_nil)
      (pss_cons (ps_if (pt_cmpR op_eq (pv 2) pe_int (nomark _)) (pss_cons (ps_par3 (i := 7) (j := 8) (l := 9) (by rfl) sc_Lthree.nd rfl rfl rfl (by decide) (by decide) (by decide) rfl rfl rfl (pa_cons (pe_op op_modN (pv 3) pe_int) (pa_cons (pe_op op_modN (pv 4) pe_int) (pa_cons (pe_op op_modN (pv 5) pe_int) pa_nil))) (by rfl))
      (pss_one (ps_ret (pe_lst (pa_cons (pe_op op_sub pe_int (pe_op op_mulW (pe_op op_mulW (pv 7) (pv 8)) (pv 9))) (pa_cons (pe_op op_add (pe_op op_add (pe_op op_mulW (pv 7) (pv 8)) (pe_op op_mulW (pv 7) (pv 9))) (pe_op op_mulW (pv 8) (pv 9))) (pa_cons (pe_op op_sub (pe_op op_sub (pe_op op_sub pe_int (pv 7)) (pv 8)) (pv 9)) (pa_cons pe_int pa_nil)))))))) pss_nil)
      (pss_cons (ps_if (pt_cmpR op_eq (pv 2) pe_int (nomark _)) (pss_cons (ps_par3 (i := 7) (j := 8) (l := 9) (by rfl) sc_Lthree.nd rfl rfl rfl (by decide) (by decide) (by decide) rfl rfl rfl (pa_cons (pe_op op_modN (pv 3) pe_int) (pa_cons (pe_op op_modN (pv 4) pe_int) (pa_cons (pe_op op_modN (pv 5) pe_int) pa_nil))) (by rfl))
      (pss_one (ps_ret (pe_lst (pa_cons (pe_op op_sub pe_int (pe_op op_mulW (pv 7) (pv 8))) (pa_cons (pe_op op_sub (pv 8) (pe_op op_mulW (pv 7) (pv 9))) (pa_cons (pe_op op_sub (pv 9) (pv 7)) (pa_cons pe_int pa_nil)))))))) pss_nil)
      (pss_one (ps_ret (pe_lst (pa_cons (pv 5) (pa_cons (pe_ix ix_list (pe_lst (pa_cons (pv 4) (pa_cons pe_int pa_nil))) (pe_op op_sub (pv 2) pe_int) (fun _ _ => rfl)) (pa_cons (pe_ix ix_list (pe_lst (pa_cons (pv 3) (pa_cons pe_int pa_nil))) (pe_op op_sub (pv 2) pe_int) (fun _ _ => rfl)) (pa_cons pe_int pa_nil)))))))))))), ?_⟩
    refine ⟨_, rfl, a, 5, m, rfl, by decide, by decide, hp, by omega, fun H1 way x1 hp1 w0 w5 => ?_⟩
    refine ⟨3, rfl, by decide, by decide, fun D hD => ?_⟩
    obtain ⟨o, ho⟩ := hp1.at
    have nda : D ≠ a := (ne_of_none ho hD).symm
    have bn : Bd 100 n := by unfold Bd; omega
    have H1D : H D = none := x1.free nda hD
    refine lc_range (lo := 0) (n := 3) (fun i H' => ∃ ds : List Int, ds.length = i ∧ H' D = some (.lst (ds.map V.int)) ∧ Xt a H H' ∧ Pur H' a (m + 20 + 20 * i)) ⟨[], rfl, upd_same, x1.same1 (same_new hD), hp1.same (same_new hD)⟩ ?_ ?_
    · rintro i H' hi ⟨ds, hds, hD', x2, hp2⟩
      refine ⟨rfl, ?_⟩
      refine ⟨_, rfl, _, rfl, _, _, rfl, rfl, (bd_lit (n := 2)).cm bn, _, _, rfl, rfl, a, 2 * n + 1, m + 20 + 20 * i, rfl, by omega, by omega, hp2, by omega, fun H3 z x3 hp3 z0 z1 => ?_⟩
      refine ⟨_, rfl, _, _, rfl, rfl, ds.map V.int, x3 _ _ nda hD', by rw [List.length_map]; exact small1000 (by omega), ?_⟩
      refine ⟨ds ++ [z - n], by rw [List.length_append, hds]; rfl, ?_, ?_, ?_⟩
      · rw [upd_same, List.map_append]; rfl
      · exact (x2.trans x3).updNew H1D
      · exact (hp3.updNe nda).mono (by omega)
    · rintro H2 ⟨ds, hds, hD', x2, hp2⟩
      have fin : ∀ (x y z : Int) (H3 : Hp) (l : Addr), Same H2 H3 → H3 l = none → Q (.ref l) (upd H3 l (.lst ([x, y, z, 1].map V.int))) := fun x y z H3 l sm hl => by
        obtain ⟨o', ho'⟩ := (hp2.same sm).at
        exact k _ l x y z (x2.same1 (sm.trans (same_new hl))) ((hp2.same (sm.trans (same_new hl))).mono (by omega)) (ne_of_none ho' hl).symm (x2.free (ne_of_none ho' hl).symm (sm.free hl)) upd_same
      rcases ds with _ | ⟨da, _ | ⟨db, _ | ⟨dc, _ | ⟨dd, r⟩⟩⟩⟩
      · simp at hds
      · simp at hds
      · simp at hds
      · refine ⟨D, _, rfl, SqL.of hD', rfl, _, _, rfl, _, _, rfl, _, _, rfl, rfl, ?_⟩
        refine ⟨_, rfl, rfl, _, rfl, ?_⟩
        refine ite2 (fun hc => ?_) (fun hc => ?_)
        · refine ⟨_, rfl, _, _, rfl, rfl, (show (97 : Int) ≠ 0 by decide), ?_⟩
          refine ⟨_, rfl, _, rfl, _, _, rfl, rfl, _, _, rfl, rfl, _, rfl, _, _, rfl, rfl, sz4, fun l hl => ?_⟩
          exact fin _ _ _ _ l (Same.refl _) hl
        · refine ⟨_, rfl, rfl, _, rfl, ?_⟩
          refine ite2 (fun hc1 => ?_) (fun hc1 => ?_)
          · refine ⟨_, rfl, _, _, rfl, rfl, (show (5 : Int) ≠ 0 by decide), _, rfl, _, _, rfl, rfl, (show (5 : Int) ≠ 0 by decide), _, rfl, _, _, rfl, rfl, (show (4 : Int) ≠ 0 by decide), _, _, _, rfl, ?_⟩
            have p5 : Bd 5 (da.fmod 5) := modB 5 (by decide) (by decide)
            have q5 : Bd 5 (db.fmod 5) := modB 5 (by decide) (by decide)
            have r4 : Bd 4 (dc.fmod 4) := modB 4 (by decide) (by decide)
            refine ⟨_, rfl, _, rfl, _, _, rfl, rfl, p5.cm q5, _, rfl, _, _, rfl, rfl, (p5.mul q5).cm r4, _, _, rfl, rfl,
              _, rfl, _, rfl, _, _, rfl, rfl, p5.cm q5, _, rfl, _, rfl, _, _, rfl, rfl, p5.cm r4, _, _, rfl, rfl, _, rfl, _, rfl, _, _, rfl, rfl, q5.cm r4, _, _, rfl, rfl,
              _, rfl, _, _, rfl, rfl, _, rfl, _, _, rfl, rfl, _, rfl, _, _, rfl, rfl, sz4, fun l hl => ?_⟩
            exact fin _ _ _ _ l (Same.refl _) hl
          · refine ⟨_, rfl, rfl, _, rfl, ?_⟩
            refine ite2 (fun hc2 => ?_) (fun hc2 => ?_)
            · refine ⟨_, rfl, _, _, rfl, rfl, (show (5 : Int) ≠ 0 by decide), _, rfl, _, _, rfl, rfl, (show (19 : Int) ≠ 0 by decide), _, rfl, _, _, rfl, rfl, (show (9 : Int) ≠ 0 by decide), _, _, _, rfl, ?_⟩
              have p5 : Bd 5 (da.fmod 5) := modB 5 (by decide) (by decide)
              have q5 : Bd 19 (db.fmod 19) := modB 19 (by decide) (by decide)
              have r4 : Bd 9 (dc.fmod 9) := modB 9 (by decide) (by decide)
              refine ⟨_, rfl, _, rfl, _, _, rfl, rfl, p5.cm q5, _, _, rfl, rfl,
                _, rfl, _, rfl, _, rfl, _, _, rfl, rfl, p5.cm r4, _, _, rfl, rfl, _, rfl, _, rfl, _, _, rfl, rfl, sz4, fun l hl => ?_⟩
              exact fin _ _ _ _ l (Same.refl _) hl
            · have w34 : way = 3 ∨ way = 4 := by
                have h0 : way ≠ 0 := fun z => hc (decide_eq_true (by rw [z]))
                have h1 : way ≠ 1 := fun z => hc1 (decide_eq_true (by rw [z]))
                have h2 : way ≠ 2 := fun z => hc2 (decide_eq_true (by rw [z]))
                omega
              have key : ∀ v : Int, ∃ u : Int, atI [V.int v, V.int 0] (way - 3) = some (V.int u) := fun v => by
                rcases w34 with rfl | rfl
                · exact ⟨v, rfl⟩
                · exact ⟨0, rfl⟩
              obtain ⟨u1, hu1⟩ := key db
              obtain ⟨u2, hu2⟩ := key da
              refine ⟨_, rfl, _, rfl, sz2, fun l1 hl1 => ?_⟩
              refine ⟨_, rfl, _, _, rfl, rfl, l1, _, _, _, rfl, rfl, SqL.of upd_same, hu1, _, rfl, sz2, fun l2 hl2 => ?_⟩
              refine ⟨_, rfl, _, _, rfl, rfl, l2, _, _, _, rfl, rfl, SqL.of upd_same, hu2, sz4, fun l hl => ?_⟩
              exact fin _ _ _ _ l ((same_new hl1).trans (same_new hl2)) hl
      · simp at hds

abbrev s_Lfour : Stmt := top 78
abbrev N_Lfour : List Str := ["_law_purse_here", "_law_most", "_law_way", "_law_a", "_law_b", "_law_many", "_law_k", "_law_low", "_law_high"]
abbrev P_Lfour : List Str := ["_law_purse_here", "_law_most"]
theorem sc_Lfour : FnScope N_Lfour ["_law_purse_here", "_law_most"] (defScope s_Lfour) := ⟨rfl, rfl, rfl, by decide +kernel, rfl, by decide +kernel, by decide +kernel⟩

def sp_Lfour : Sp := fun vs H Q _ => ∃ (a : Addr) (n : Int) (m : Nat), vs = [.ref a, .int n] ∧ 1 ≤ n ∧ n ≤ 100 ∧ Pur H a m ∧ m ≤ 2 ^ 28 ∧
  ∀ H' (p : Addr) (x y : Int), Xt a H H' → Pur H' a (m + 100) → p ≠ a → H p = none → H' p = some (.lst ([x, 0, y, 0, 1].map V.int)) → Q (.ref p) H'
theorem ok_Lfour (T : Txt K mg c) {f : Addr} {fd : FuncData} (F : L2.Fun K "_law_four" "_law_four" s_Lfour f fd) (h_Ldraw : Cal P w K mg base 2 "_law_draw" sp_Ldraw []) : FnOk P w K mg base CX0 3 f fd P_Lfour sp_Lfour := by
  refine F.ok sc_Lfour (fun vs H Q E h => ?_) (fun cdv A outer s H vs Q E hr h => ?_)
  · obtain ⟨a, n, m, rfl, _⟩ := h
    rfl
  · obtain ⟨a, n, m, rfl, n1, n2, hp, hm, k⟩ := h
    refine ⟨_, (pss_cons (ps_set (i := 2) sc_Lfour.nd rfl (by first | exact Or.inl rfl | exact Or.inr rfl) (pe_c h_Ldraw hr (by decide) rfl (pa_cons (pv 0) (pa_cons pe_int pa_nil))))
      (pss_cons (ps_asg (pe_lc (own := [("_law_k", 6)]) (g := gName 6) (by rfl) sc_Lfour.nd (pi_range1 rfl T.z_range (pa_cons pe_int pa_nil)) (blkOk_by (own := [("_law_k", 6)]) (N := N_Lfour) (sc := defScope s_Lfour) (by decide +kernel)) (fun _ _ _ _ _ => (pg_name (i := 6) sc_Lfour.nd rfl (by first | exact Or.inl rfl | exact Or.inr rfl))) (fun _ _ _ _ _ => pts_nil) (fun _ _ _ _ _ => (pe_op op_sub (pe_c h_Ldraw hr (by decide) rfl (pa_cons (pv 0) (pa_cons (pe_op op_add (pe_op op_mulW pe_int (pv 1)) pe_int) pa_nil))) (pv 1)))) (pg_unl rfl (pgs_cons (pg_name (i := 3) sc_Lfour.nd rfl (by first | exact Or.inl rfl | exact Or.inr rfl)) (pgs_cons (pg_name (i := 4) sc_Lfour.nd rfl (by first | exact Or.inl rfl | exact Or.inr rfl)) pgs_nil))))
      (pss_cons (ps_if (pt_cmpR op_eq (pv 2) pe_int (nomark _)) (pss_one (ps_ret (pe_lst (pa_cons (pe_op op_mulW (pe_op op_modN (pv 3) pe_int) (pe_op op_modN (pv 4) pe_int)) (pa_cons pe_int (pa_cons (pe_op op_sub (pe_op op_sub pe_int (pe_op op_modN (pv 3) pe_int)) (pe_op op_modN (pv 4) pe_int)) (pa_cons pe_int (pa_cons pe_int pa_nil)))))))) pss_nil)
      (pss_cons (ps_if (pt_cmpR op_eq (pv 2) pe_int (nomark _)) (pss_one (ps_ret (pe_lst (pa_cons (pe_op op_mulW (pe_op op_modN (pv 4) pe_int) (pe_op op_modN (pv 4) pe_int)) (pa_cons pe_int (pa_cons (pv 3) (pa_cons pe_int (pa_cons pe_int pa_nil)))))))) pss_nil)
      (pss_cons (ps_if (pt_cmpR op_eq (pv 2) pe_int (nomark _)) (pss_cons (ps_set (i := 5) sc_Lfour.nd rfl (by first | exact Or.inl rfl | exact Or.inr rfl) (pe_op op_add pe_int (pe_op op_modN (pv 3) pe_int)))
      (pss_cons (ps_asg (pe_ix ix_list (pe_lst (pa_cons (pe_lst (pa_cons (pe_op op_mulW (pe_op op_mulW pe_int (pv 5)) (pv 5)) (pa_cons (pe_op op_sub pe_int (pe_op op_mulW pe_int (pv 5))) pa_nil))) (pa_cons (pe_lst (pa_cons pe_int (pa_cons pe_int pa_nil))) (pa_cons (pe_lst (pa_cons pe_int (pa_cons (pe_un un_neg pe_int) pa_nil))) (pa_cons (pe_lst (pa_cons pe_int (pa_cons (pe_un un_neg pe_int) pa_nil))) pa_nil))))) (pe_op op_modN (pv 4) pe_int) (fun _ _ => rfl)) (pg_unl rfl (pgs_cons (pg_name (i := 7) sc_Lfour.nd rfl (by first | exact Or.inl rfl | exact Or.inr rfl)) (pgs_cons (pg_name (i := 8) sc_Lfour.nd rfl (by first | exact Or.inl rfl | exact Or.inr rfl)) pgs_nil))))
      (pss_one (ps_ret (pe_lst (pa_cons (pv 7) (pa_cons pe_int (pa_cons (pv 8) (pa_cons pe_int (pa_cons pe_int pa_nil)))))))))) pss_nil)
      (pss_cons (ps_if (pt_cmpR op_eq (pv 2) pe_int (nomark _)) (pss_one (ps_ret (pe_lst (pa_cons (pv 4) (pa_cons pe_int (pa_cons (pe_op op_modN (pe_op op_mulW pe_int (pv 3)) pe_int) (pa_cons pe_int (pa_cons pe_int pa_nil)))))))) pss_nil)
      (pss_one (ps_ret (pe_lst (pa_cons (pv 4) (pa_cons pe_int (pa_cons (pv 3) (pa_cons pe_int (pa_cons pe_int pa_nil)))))))))))))), ?_⟩
    refine ⟨_, rfl, a, 5, m, rfl, by decide, by decide, hp, by omega, fun H1 way x1 hp1 w0 w5 => ?_⟩
    refine ⟨2, rfl, by decide, by decide, fun D hD => ?_⟩
    obtain ⟨o, ho⟩ := hp1.at
    have nda : D ≠ a := (ne_of_none ho hD).symm
    have bn : Bd 100 n := by unfold Bd; omega
    have H1D : H D = none := x1.free nda hD
    refine lc_range (lo := 0) (n := 2) (fun i H' => ∃ ds : List Int, ds.length = i ∧ H' D = some (.lst (ds.map V.int)) ∧ Xt a H H' ∧ Pur H' a (m + 20 + 20 * i) ∧ ∀ d ∈ ds, Bd 300 d) ⟨[], rfl, upd_same, x1.same1 (same_new hD), hp1.same (same_new hD), fun _ h => nomatch h⟩ ?_ ?_
    · rintro i H' hi ⟨ds, hds, hD', x2, hp2, hbd⟩
      refine ⟨rfl, ?_⟩
      refine ⟨_, rfl, _, rfl, _, _, rfl, rfl, (bd_lit (n := 2)).cm bn, _, _, rfl, rfl, a, 2 * n + 1, m + 20 + 20 * i, rfl, by omega, by omega, hp2, by omega, fun H3 z x3 hp3 z0 z1 => ?_⟩
      refine ⟨_, rfl, _, _, rfl, rfl, ds.map V.int, x3 _ _ nda hD', by rw [List.length_map]; exact small1000 (by omega), ?_⟩
      refine ⟨ds ++ [z - n], by rw [List.length_append, hds]; rfl, ?_, ?_, ?_, ?_⟩
      · rw [upd_same, List.map_append]; rfl
      · exact (x2.trans x3).updNew H1D
      · exact (hp3.updNe nda).mono (by omega)
      · intro d hd
        rcases List.mem_append.mp hd with h | h
        · exact hbd d h
        · rw [List.mem_singleton.mp h]; unfold Bd; omega
    · rintro H2 ⟨ds, hds, hD', x2, hp2, hbd⟩
      have fin : ∀ (x y : Int) (H3 : Hp) (l : Addr), Same H2 H3 → H3 l = none → Q (.ref l) (upd H3 l (.lst ([x, 0, y, 0, 1].map V.int))) := fun x y H3 l sm hl => by
        obtain ⟨o', ho'⟩ := (hp2.same sm).at
        exact k _ l x y (x2.same1 (sm.trans (same_new hl))) ((hp2.same (sm.trans (same_new hl))).mono (by omega)) (ne_of_none ho' hl).symm (x2.free (ne_of_none ho' hl).symm (sm.free hl)) upd_same
      rcases ds with _ | ⟨da, _ | ⟨db, _ | ⟨dd, r⟩⟩⟩
      · simp at hds
      · simp at hds
      · have bda : Bd 300 da := hbd _ (by simp)
        refine ⟨D, _, rfl, SqL.of hD', rfl, _, _, rfl, _, _, rfl, rfl, ?_⟩
        refine ⟨_, rfl, rfl, _, rfl, ?_⟩
        have a10 : Bd 10 (da.fmod 10) := modB 10 (by decide) (by decide)
        have b11 : Bd 11 (db.fmod 11) := modB 11 (by decide) (by decide)
        have n10 : (10 : Int) ≠ 0 := by decide
        have n11 : (11 : Int) ≠ 0 := by decide
        have n4 : (4 : Int) ≠ 0 := by decide
        refine ite2 (fun hc => ?_) (fun hc => ?_)
        · refine ⟨_, rfl, _, _, rfl, rfl, n10, _, rfl, _, _, rfl, rfl, n11, _, _, rfl, rfl, a10.cm b11, _, rfl, _, _, rfl, rfl, n10, _, _, rfl, rfl, _, rfl, _, _, rfl, rfl, n11, _, _, rfl, rfl, sz5, fun l hl => ?_⟩
          exact fin _ _ _ l (Same.refl _) hl
        · refine ⟨_, rfl, rfl, _, rfl, ?_⟩
          refine ite2 (fun hc1 => ?_) (fun hc1 => ?_)
          · refine ⟨_, rfl, _, _, rfl, rfl, n11, _, rfl, _, _, rfl, rfl, n11, _, _, rfl, rfl, b11.cm b11, _, rfl, sz5, fun l hl => ?_⟩
            exact fin _ _ _ l (Same.refl _) hl
          · refine ⟨_, rfl, rfl, _, rfl, ?_⟩
            refine ite2 (fun hc2 => ?_) (fun hc2 => ?_)
            · refine ⟨_, rfl, _, _, rfl, rfl, n4, _, _, rfl, rfl, ?_⟩
              have m5 : Bd 5 (1 + da.fmod 4) := by
                have := fmod_bd (x := da) (j := 4) (by decide)
                unfold Bd; omega
              refine ⟨_, rfl, _, _, rfl, rfl, (bd_lit (n := 2)).cm m5, _, rfl, _, _, rfl, rfl, ((bd_lit (n := 2)).mul m5).cm m5, _, rfl, _, _, rfl, rfl, (bd_lit (n := 4)).cm m5, _, _, rfl, rfl, sz2, fun l1 hl1 => ?_⟩
              refine ⟨sz2, fun l2 hl2 => ?_⟩
              refine ⟨_, rfl, sz2, fun l3 hl3 => ?_⟩
              refine ⟨_, rfl, sz2, fun l4 hl4 => ?_⟩
              refine ⟨sz4, fun l5 hl5 => ?_⟩
              refine ⟨_, rfl, _, _, rfl, rfl, n4, ?_⟩
              have r4 := fmod_bd (x := db) (j := 4) (by decide)
              obtain ⟨r, hr4⟩ : ∃ r, r = db.fmod 4 := ⟨_, rfl⟩
              rw [← hr4] at r4
              have t1 := same_new (o := .lst [V.int (2 * (1 + da.fmod 4) * (1 + da.fmod 4)), V.int (0 - 4 * (1 + da.fmod 4))]) hl1
              have t2 := same_new (o := .lst [V.int 5, V.int 5]) hl2
              have t3 := same_new (o := .lst [V.int 5, V.int (-5)]) hl3
              have t4 := same_new (o := .lst [V.int 18, V.int (-12)]) hl4
              have t5 := same_new (o := .lst [V.ref l1, V.ref l2, V.ref l3, V.ref l4]) hl5
              have key : ∃ (lp : Addr) (x y : Int), atI [V.ref l1, V.ref l2, V.ref l3, V.ref l4] r = some (.ref lp) ∧ SqL K (upd (upd (upd (upd (upd H2 l1 (.lst [V.int (2 * (1 + da.fmod 4) * (1 + da.fmod 4)), V.int (0 - 4 * (1 + da.fmod 4))])) l2 (.lst [V.int 5, V.int 5])) l3 (.lst [V.int 5, V.int (-5)])) l4 (.lst [V.int 18, V.int (-12)])) l5 (.lst [V.ref l1, V.ref l2, V.ref l3, V.ref l4])) lp [.int x, .int y] := by
                have : r = 0 ∨ r = 1 ∨ r = 2 ∨ r = 3 := by omega
                rcases this with rfl | rfl | rfl | rfl
                · exact ⟨l1, _, _, rfl, SqL.of (t5 _ _ (t4 _ _ (t3 _ _ (t2 _ _ upd_same))))⟩
                · exact ⟨l2, _, _, rfl, SqL.of (t5 _ _ (t4 _ _ (t3 _ _ upd_same)))⟩
                · exact ⟨l3, _, _, rfl, SqL.of (t5 _ _ (t4 _ _ upd_same))⟩
                · exact ⟨l4, _, _, rfl, SqL.of (t5 _ _ upd_same)⟩
              obtain ⟨lp, x, y, hat, hlp⟩ := key
              refine ⟨l5, _, _, _, rfl, rfl, SqL.of upd_same, hr4 ▸ hat, lp, _, rfl, hlp, rfl, _, _, rfl, _, _, rfl, rfl, ?_⟩
              refine ⟨_, rfl, _, rfl, sz5, fun l hl => ?_⟩
              exact fin _ _ _ l (((t1.trans t2).trans (t3.trans t4)).trans t5) hl
            · refine ⟨_, rfl, rfl, _, rfl, ?_⟩
              refine ite2 (fun hc3 => ?_) (fun hc3 => ?_)
              · refine ⟨_, rfl, _, rfl, _, _, rfl, rfl, (bd_lit (n := 2)).cm bda, _, _, rfl, rfl, (show (101 : Int) ≠ 0 by decide), sz5, fun l hl => ?_⟩
                exact fin _ _ _ l (Same.refl _) hl
              · refine ⟨_, rfl, _, rfl, sz5, fun l hl => ?_⟩
                exact fin _ _ _ l (Same.refl _) hl
      · simp at hds

abbrev s_Lpoly : Stmt := top 79
abbrev N_Lpoly : List Str := ["_law_purse_here", "_law_most", "_law_way", "_law_found", "_law_some", "_law_figure"]
abbrev P_Lpoly : List Str := ["_law_purse_here"]
theorem sc_Lpoly : FnScope N_Lpoly ["_law_purse_here"] (defScope s_Lpoly) := ⟨rfl, rfl, rfl, by decide +kernel, rfl, by decide +kernel, by decide +kernel⟩

def sp_Lpoly : Sp := fun vs H Q _ => ∃ (a : Addr) (m : Nat), vs = [.ref a] ∧ Pur H a m ∧ m ≤ 2 ^ 27 ∧
  ∀ H' (p : Addr) (ns : List Int), Xt a H H' → Pur H' a (m + 300) → p ≠ a → H p = none → H' p = some (.lst (ns.map V.int)) → GoodP ns → Q (.ref p) H'
theorem good_2 : GoodP [-2, 0, 1] := ⟨by decide, by decide, fun x h => (by decide : ∀ x ∈ [(-2 : Int), 0, 1], x.natAbs ≤ 100) x h, rfl, fun h => absurd h (by decide), fun h => absurd h (by decide), by decide⟩
theorem good_3 : GoodP [-2, 0, 0, 1] := ⟨by decide, by decide, fun x h => (by decide : ∀ x ∈ [(-2 : Int), 0, 0, 1], x.natAbs ≤ 100) x h, rfl, fun h => absurd h (by decide), fun h => absurd h (by decide), by decide⟩
theorem good_4 : GoodP [2, 0, -4, 0, 1] := ⟨by decide, by decide, fun x h => (by decide : ∀ x ∈ [(2 : Int), 0, -4, 0, 1], x.natAbs ≤ 100) x h, rfl, fun _ => rfl, fun _ => rfl, by decide⟩
theorem good_5 : GoodP [-2, 0, 0, 0, 1] := ⟨by decide, by decide, fun x h => (by decide : ∀ x ∈ [(-2 : Int), 0, 0, 0, 1], x.natAbs ≤ 100) x h, rfl, fun _ => rfl, fun _ => rfl, by decide⟩
/-- what a drawn list is ahead of its look: the forms -/
def Shape (ns : List Int) : Prop := (∃ c, ns = [c, 1]) ∨ (∃ c b, ns = [c, b, 1]) ∨ (∃ x y z, ns = [x, y, z, 1]) ∨ (∃ x y, ns = [x, 0, y, 0, 1])
theorem Shape.good {ns : List Int} (h : Shape ns) (b : ∀ x ∈ ns, Bd 100 x) (t : toldOf ns ≠ 0) : GoodP ns := by
  rcases h with ⟨c, rfl⟩ | ⟨c, d, rfl⟩ | ⟨x, y, z, rfl⟩ | ⟨x, y, rfl⟩
  · exact ⟨by simp, by simp, b, rfl, fun h => by simp at h, fun h => by simp at h, t⟩
  · exact ⟨by simp, by simp, b, rfl, fun h => by simp at h, fun h => by simp at h, t⟩
  · exact ⟨by simp, by simp, b, rfl, fun h => by simp at h, fun h => by simp at h, t⟩
  · exact ⟨by simp, by simp, b, rfl, fun _ => rfl, fun _ => rfl, t⟩
theorem Shape.len {ns : List Int} (h : Shape ns) : 2 ≤ ns.length ∧ ns.length ≤ 5 := by
  rcases h with ⟨c, rfl⟩ | ⟨c, d, rfl⟩ | ⟨x, y, z, rfl⟩ | ⟨x, y, rfl⟩ <;> simp
def absI (x : Int) : Int := if x < 0 then -x else x
/-- some = [..]; return some[way % 4] -/
def t_fb (K : PySem.W.Frag) : TS := tSeq (tAsg (tLst (tCons (tLst (tCons (tUn (rU fun i => V.int (-i)) (tC (V.int 2))) (tCons (tC (V.int 0)) (tCons (tC (V.int 1)) tNil))))
  (tCons (tLst (tCons (tUn (rU fun i => V.int (-i)) (tC (V.int 2))) (tCons (tC (V.int 0)) (tCons (tC (V.int 0)) (tCons (tC (V.int 1)) tNil)))))
  (tCons (tLst (tCons (tC (V.int 2)) (tCons (tC (V.int 0)) (tCons (tUn (rU fun i => V.int (-i)) (tC (V.int 4))) (tCons (tC (V.int 0)) (tCons (tC (V.int 1)) tNil))))))
  (tCons (tLst (tCons (tUn (rU fun i => V.int (-i)) (tC (V.int 2))) (tCons (tC (V.int 0)) (tCons (tC (V.int 0)) (tCons (tC (V.int 0)) (tCons (tC (V.int 1)) tNil)))))) tNil))))) (gName 4))
  (tRet (tOp (rIxL K) (tVar 4) (tOp (rI (fun x j => j ≠ 0) fun i j => V.int (i.fmod j)) (tVar 2) (tC (V.int 4)))))
/-- if max(..) > 100 or alike: .. return found -/
def t_polytail (K : PySem.W.Frag) : TS := tSeq (tIfS (tOr (tTest (tOp (rI0 fun i j => V.bl (decide (j < i))) (tCB (rMax K) (tCons (tLc (iList K (tVar 3)) (gName 5) tYes (tCB (fun xs H Q => ∃ i, xs = [V.int i] ∧ Q (V.int (if i < 0 then -i else i)) H) (tCons (tVar 5) tNil)) [5]) tNil)) (tC (V.int 100))))
  (tB (tCall sp_Lalike_roots [] C8.E0 (tCons (tVar 3) tNil)))) (t_fb K) tNext) (tRet (tVar 3))
theorem poly_tail {Q : VK} {H4 : Hp} {a p : Addr} {most way : Int} {ns : List Int} (w0 : 0 ≤ way) (w8 : way < 8) (hL : H4 p = some (.lst (ns.map V.int))) (sh : Shape ns)
    (k1 : ∀ H', Same H4 H' → GoodP ns → Q (.ref p) H') (k2 : ∀ H' q ms, Same H4 H' → H4 q = none → H' q = some (.lst (ms.map V.int)) → GoodP ms → Q (.ref q) H') :
    t_polytail K { nx := fun _ H' => Q .non H', rt := Q } [some (.ref a), some (.int most), some (.int way), some (.ref p), none, none] H4 := by
  have fb : ∀ H5, Same H4 H5 → t_fb K { nx := fun _ H' => Q .non H', rt := Q } [some (.ref a), some (.int most), some (.int way), some (.ref p), none, none] H5 := fun H5 s5 => by
    refine ⟨_, rfl, sz3, fun l1 hl1 => ⟨_, rfl, sz4, fun l2 hl2 => ⟨_, rfl, sz5, fun l3 hl3 => ⟨_, rfl, sz5, fun l4 hl4 => ⟨sz4, fun l5 hl5 => ?_⟩⟩⟩⟩⟩
    refine ⟨_, rfl, _, rfl, _, _, rfl, rfl, (show (4 : Int) ≠ 0 by decide), ?_⟩
    have r4 := fmod_bd (x := way) (j := 4) (by decide)
    obtain ⟨r, hr4⟩ : ∃ r, r = way.fmod 4 := ⟨_, rfl⟩
    rw [← hr4] at r4
    have t1 := same_new (o := .lst ([-2, 0, 1].map V.int)) hl1
    have t2 := same_new (o := .lst ([-2, 0, 0, 1].map V.int)) hl2
    have t3 := same_new (o := .lst ([2, 0, -4, 0, 1].map V.int)) hl3
    have t4 := same_new (o := .lst ([-2, 0, 0, 0, 1].map V.int)) hl4
    have t5 := same_new (o := .lst [V.ref l1, V.ref l2, V.ref l3, V.ref l4]) hl5
    have sm := s5.trans ((((t1.trans t2).trans t3).trans t4).trans t5)
    have fr : ∀ {q : Addr}, H5 q = none → H4 q = none := fun {q} h => s5.free h
    have : r = 0 ∨ r = 1 ∨ r = 2 ∨ r = 3 := by omega
    rcases this with rfl | rfl | rfl | rfl
    · refine ⟨l5, _, _, .ref l1, rfl, rfl, SqL.of upd_same, by rw [← hr4]; rfl, k2 _ l1 _ sm (fr hl1) (t5 _ _ (t4 _ _ (t3 _ _ (t2 _ _ upd_same)))) good_2⟩
    · refine ⟨l5, _, _, .ref l2, rfl, rfl, SqL.of upd_same, by rw [← hr4]; rfl, k2 _ l2 _ sm (fr (t1.free hl2)) (t5 _ _ (t4 _ _ (t3 _ _ upd_same))) good_3⟩
    · refine ⟨l5, _, _, .ref l3, rfl, rfl, SqL.of upd_same, by rw [← hr4]; rfl, k2 _ l3 _ sm (fr (t1.free (t2.free hl3))) (t5 _ _ (t4 _ _ upd_same)) good_4⟩
    · refine ⟨l5, _, _, .ref l4, rfl, rfl, SqL.of upd_same, by rw [← hr4]; rfl, k2 _ l4 _ sm (fr (t1.free (t2.free (t3.free hl4)))) (t5 _ _ upd_same) good_5⟩
  have hlen := sh.len
  refine ⟨_, rfl, p, rfl, ⟨_, SqL.of hL⟩, fun D hD => lc_list (K := K) (a := p) (xs := ns.map V.int) (fun i H' => H' D = some (.lst (((ns.take i).map absI).map V.int)) ∧ Same H4 H') ⟨upd_same, same_new hD⟩ (fun i H' _ h => SqL.of (h.2 _ _ hL)) ?_ ?_⟩
  · rintro i x H' hi ⟨hD', sm⟩
    obtain ⟨z, hz, rfl⟩ := item_of hi
    refine ⟨rfl, ?_⟩
    refine ⟨_, rfl, _, rfl, _, hD', ?_, ?_, ?_⟩
    · rw [List.length_map, List.length_map, List.length_take]
      exact small1000 (by omega)
    · rw [upd_same, take_more hz, List.map_append, List.map_append]
      rfl
    · intro b u hb
      rw [upd_ne (ne_of_none hb hD)]
      exact sm b u hb
  · rintro H' ⟨hD', sm⟩
    rw [List.length_map, List.take_of_length_le (Nat.le_refl _)] at hD'
    refine ⟨D, ns.map absI, rfl, SqL.of hD', by rw [List.length_map]; omega, fun mx hmx hall => ?_⟩
    refine ⟨_, _, rfl, rfl, _, rfl, ?_⟩
    refine ite2 (fun hc => ?_) (fun hc => ?_)
    · exact fb _ sm
    · have hm100 : ¬ 100 < mx := fun z => hc (decide_eq_true z)
      have bd : ∀ x ∈ ns, Bd 100 x := fun x hx => by
        have := hall (absI x) (List.mem_map_of_mem hx)
        unfold absI at this
        unfold Bd
        split at this <;> omega
      refine ⟨_, rfl, p, ns, rfl, sm _ _ hL, hlen.1, hlen.2, bd, fun H6 s6 => ?_⟩
      refine ⟨_, rfl, ?_⟩
      refine ite2 (fun hc2 => ?_) (fun hc2 => ?_)
      · exact fb _ (sm.trans s6)
      · have ht : toldOf ns ≠ 0 := fun z => hc2 (decide_eq_true z)
        exact ⟨_, rfl, k1 _ (sm.trans s6) (sh.good bd ht)⟩
theorem ok_Lpoly (T : Txt K mg c) {f : Addr} {fd : FuncData} (F : L2.Fun K "_law_poly" "_law_poly" s_Lpoly f fd) (h_Ldraw : Cal P w K mg base 2 "_law_draw" sp_Ldraw []) (h_Lfour : Cal P w K mg base 3 "_law_four" sp_Lfour [])
    (h_Lthree : Cal P w K mg base 3 "_law_three" sp_Lthree []) (h_Lalike_roots : Cal P w K mg base 1 "_law_alike_roots" sp_Lalike_roots []) : FnOk P w K mg base CX0 4 f fd P_Lpoly sp_Lpoly := by
  refine F.ok sc_Lpoly (fun vs H Q E h => ?_) (fun cdv A outer s H vs Q E hr h => ?_)
  · obtain ⟨a, m, rfl, _⟩ := h
    rfl
  · obtain ⟨a, m, rfl, hp, hm, k⟩ := h
    refine ⟨_, (pss_cons (ps_set (i := 1) sc_Lpoly.nd rfl (by first | exact Or.inl rfl | exact Or.inr rfl) (pe_ix ix_list (pe_lst (pa_cons pe_int (pa_cons pe_int (pa_cons pe_int pa_nil)))) (pe_c h_Ldraw hr (by decide) rfl (pa_cons (pv 0) (pa_cons pe_int pa_nil))) (fun _ _ => rfl)))
      (pss_cons (ps_set (i := 2) sc_Lpoly.nd rfl (by first | exact Or.inl rfl | exact Or.inr rfl) (pe_c h_Ldraw hr (by decide) rfl (pa_cons (pv 0) (pa_cons pe_int pa_nil))))
      (pss_cons (ps_set (i := 3) sc_Lpoly.nd rfl (by first | exact Or.inl rfl | exact Or.inr rfl) (pe_lst (pa_cons (pe_op op_sub (pe_c h_Ldraw hr (by decide) rfl (pa_cons (pv 0) (pa_cons (pe_op op_add (pe_op op_mulW pe_int (pv 1)) pe_int) pa_nil))) (pv 1)) (pa_cons pe_int pa_nil))))
      (pss_cons (ps_if (PW.pt (pw_or (pt_cmpR op_eq (pv 2) pe_int (nomark _)) (pw_or1 (pt_cmpR op_eq (pv 2) pe_int (nomark _))))) (pss_one (ps_set (i := 3) sc_Lpoly.nd rfl (by first | exact Or.inl rfl | exact Or.inr rfl) (pe_op op_cat (pe_slice sl_list (pv 3) po_none (po_some pe_int)) (pe_lst (pa_cons (pe_op op_sub (pe_c h_Ldraw hr (by decide) rfl (pa_cons (pv 0) (pa_cons (pe_op op_add (pe_op op_mulW pe_int (pv 1)) pe_int) pa_nil))) (pv 1)) (pa_cons pe_int pa_nil)))))) pss_nil)
      (pss_cons (ps_if (pt_cmpR op_gt (pv 2) pe_int (nomark _)) (pss_one (ps_set (i := 3) sc_Lpoly.nd rfl (by first | exact Or.inl rfl | exact Or.inr rfl) (pe_c h_Lfour hr (by decide) rfl (pa_cons (pv 0) (pa_cons (pv 1) pa_nil))))) pss_nil)
      (pss_cons (ps_if (PW.pt (pw_and (pt_cmpR op_gt (pv 2) pe_int (nomark _)) (pw_and1 (pt_cmpR op_eq (pe_op op_modN (pv 2) pe_int) pe_int (nomark _))))) (pss_one (ps_set (i := 3) sc_Lpoly.nd rfl (by first | exact Or.inl rfl | exact Or.inr rfl) (pe_c h_Lthree hr (by decide) rfl (pa_cons (pv 0) (pa_cons (pv 1) pa_nil))))) pss_nil)
      (pss_cons (ps_if (PW.pt (pw_or (pt_cmpR op_gt (pe_callB (cr_max rfl) (by rfl) T.z_max (by decide +kernel) (pa_cons (pe_lc (own := [("_law_figure", 5)]) (g := gName 5) (by rfl) sc_Lpoly.nd (pi_list (pv 3)) (blkOk_by (own := [("_law_figure", 5)]) (N := N_Lpoly) (sc := defScope s_Lpoly) (by decide +kernel)) (fun _ _ _ _ _ => (pg_name (i := 5) sc_Lpoly.nd rfl (by first | exact Or.inl rfl | exact Or.inr rfl))) (fun _ _ _ _ _ => pts_nil) (fun _ _ _ _ _ => (pe_callB call_abs (by rfl) T.z_abs (by decide +kernel) (pa_cons (pv 5) pa_nil)))) pa_nil)) pe_int (nomark _)) (pw_or1 (pt_val (pe_c h_Lalike_roots hr (by decide) rfl (pa_cons (pv 3) pa_nil)))))) (pss_cons (ps_set (i := 4) sc_Lpoly.nd rfl (by first | exact Or.inl rfl | exact Or.inr rfl) (pe_lst (pa_cons (pe_lst (pa_cons (pe_un un_neg pe_int) (pa_cons pe_int (pa_cons pe_int pa_nil)))) (pa_cons (pe_lst (pa_cons (pe_un un_neg pe_int) (pa_cons pe_int (pa_cons pe_int (pa_cons pe_int pa_nil))))) (pa_cons (pe_lst (pa_cons pe_int (pa_cons pe_int (pa_cons (pe_un un_neg pe_int) (pa_cons pe_int (pa_cons pe_int pa_nil)))))) (pa_cons (pe_lst (pa_cons (pe_un un_neg pe_int) (pa_cons pe_int (pa_cons pe_int (pa_cons pe_int (pa_cons pe_int pa_nil)))))) pa_nil))))))
      (pss_one (ps_ret (pe_ix ix_list (pv 4) (pe_op op_modN (pv 2) pe_int) (fun _ _ => rfl))))) pss_nil)
      (pss_one (ps_ret (pv 3)))))))))), ?_⟩
    refine ⟨sz3, fun l hl => ?_⟩
    obtain ⟨o, ho⟩ := hp.at
    have nla : l ≠ a := (ne_of_none ho hl).symm
    refine ⟨_, rfl, a, 3, m, rfl, by decide, by decide, hp.same (same_new hl), by omega, fun H1 z x1 hp1 z0 z3 => ?_⟩
    have hL : H1 l = some (.lst [V.int 3, V.int 10, V.int 100]) := x1 _ _ nla upd_same
    have x01 : Xt a H H1 := (Xt.of (same_new hl)).trans x1
    have key : ∃ most : Int, atI [V.int 3, V.int 10, V.int 100] z = some (V.int most) ∧ 1 ≤ most ∧ most ≤ 100 := by
      have : z = 0 ∨ z = 1 ∨ z = 2 := by omega
      rcases this with rfl | rfl | rfl
      · exact ⟨3, rfl, by decide, by decide⟩
      · exact ⟨10, rfl, by decide, by decide⟩
      · exact ⟨100, rfl, by decide, by decide⟩
    obtain ⟨most, hmo, mo1, mo2⟩ := key
    have bmo : Bd 100 most := by unfold Bd; omega
    refine ⟨l, _, _, _, rfl, rfl, SqL.of hL, hmo, ?_⟩
    refine ⟨_, rfl, a, 8, m + 20, rfl, by decide, by decide, hp1, by omega, fun H2 way x2 hp2 w0 w8 => ?_⟩
    refine ⟨_, rfl, _, rfl, _, _, rfl, rfl, (bd_lit (n := 2)).cm bmo, _, _, rfl, rfl, a, 2 * most + 1, m + 40, rfl, by omega, by omega, hp2, by omega, fun H3 c x3 hp3 c0 c1 => ?_⟩
    refine ⟨_, rfl, _, _, rfl, rfl, sz2, fun l2 hl2 => ?_⟩
    have x03 : Xt a H H3 := x01.trans (x2.trans x3)
    obtain ⟨o3, ho3⟩ := hp3.at
    have nl2a : l2 ≠ a := (ne_of_none ho3 hl2).symm
    have Hl2 : H l2 = none := x03.free nl2a hl2
    have tail : ∀ (H4 : Hp) (p : Addr) (ns : List Int), Xt a H H4 → Pur H4 a (m + 280) → p ≠ a → H p = none → H4 p = some (.lst (ns.map V.int)) → Shape ns →
        t_polytail K { nx := fun _ H' => Q .non H', rt := Q } [some (.ref a), some (.int most), some (.int way), some (.ref p), none, none] H4 := fun H4 p ns x4 hp4 npa hpn hL4 sh => by
      refine poly_tail w0 w8 hL4 sh (fun H' sm G => k _ p ns (x4.same1 sm) ((hp4.same sm).mono (by omega)) npa hpn (sm _ _ hL4) G) (fun H' q ms sm hq hq2 G => ?_)
      obtain ⟨o4, ho4⟩ := hp4.at
      have nqa : q ≠ a := (ne_of_none ho4 hq).symm
      exact k _ q ms (x4.same1 sm) ((hp4.same sm).mono (by omega)) nqa (x4.free nqa hq) hq2 G
    have hL2_ : upd H3 l2 (.lst ([c - most, 1].map V.int)) l2 = some (.lst ([c - most, 1].map V.int)) := upd_same
    have x04 : Xt a H (upd H3 l2 (.lst ([c - most, 1].map V.int))) := x03.same1 (same_new hl2)
    have hp4 : Pur (upd H3 l2 (.lst ([c - most, 1].map V.int))) a (m + 60) := hp3.same (same_new hl2)
    have cases8 : way = 0 ∨ (way = 1 ∨ way = 2) ∨ (way = 3 ∨ way = 5 ∨ way = 7) ∨ (way = 4 ∨ way = 6) := by omega
    refine ⟨_, rfl, rfl, _, rfl, ?_⟩
    rcases cases8 with rfl | h12 | h357 | h46
    · refine iteF ?_
      refine ⟨_, rfl, rfl, _, rfl, ?_⟩
      refine iteF ?_
      refine ⟨_, rfl, _, _, rfl, rfl, _, rfl, ?_⟩
      refine iteF ?_
      refine ⟨_, rfl, _, _, rfl, rfl, _, rfl, ?_⟩
      refine iteF ?_
      exact tail _ l2 [c - most, 1] x04 (hp4.mono (by omega)) nl2a Hl2 hL2_ (.inl ⟨_, rfl⟩)
    · rcases h12 with rfl | rfl
      · refine iteT ?_
        refine ⟨_, rfl, _, rfl, l2, _, rfl, SqL.of hL2_, fun q hq => ?_⟩
        obtain ⟨o5, ho5⟩ := hp4.at
        have nqa : q ≠ a := (ne_of_none ho5 hq).symm
        refine ⟨_, rfl, _, rfl, _, _, rfl, rfl, (bd_lit (n := 2)).cm bmo, _, _, rfl, rfl, a, 2 * most + 1, m + 60, rfl, by omega, by omega, hp4.same (same_new hq), by omega, fun H5 d x5 hp5 d0 d1 => ?_⟩
        refine ⟨_, rfl, _, _, rfl, rfl, sz2, fun l3 hl3 => ?_⟩
        have hq5 : H5 q = some (.lst (cutV ([c - most, 1].map V.int) none (some 1))) := x5 _ _ nqa upd_same
        refine ⟨q, l3, _, _, rfl, rfl, same_new hl3 _ _ hq5, upd_same, (by show 3 ≤ sizeLine; decide), fun l4 hl4 => ?_⟩
        obtain ⟨o6, ho6⟩ := (hp5.same (same_new (o := .lst [V.int (d - most), V.int 1]) hl3)).at
        have nl4 : l4 ≠ a := (ne_of_none ho6 hl4).symm
        have xx : Xt a H (upd H5 l3 (.lst [V.int (d - most), V.int 1])) := (x04.same1 (same_new hq)).trans (x5.same1 (same_new hl3))
        refine ⟨_, rfl, _, _, rfl, rfl, _, rfl, ?_⟩
        refine iteF ?_
        refine ⟨_, rfl, _, _, rfl, rfl, _, rfl, ?_⟩
        refine iteF ?_
        exact tail _ l4 [c - most, d - most, 1] (xx.same1 (same_new hl4)) (((hp5.same (same_new hl3)).same (same_new hl4)).mono (by omega)) nl4 (xx.free nl4 hl4) upd_same (.inr (.inl ⟨_, _, rfl⟩))
      · refine iteF ?_
        refine ⟨_, rfl, rfl, _, rfl, ?_⟩
        refine iteT ?_
        refine ⟨_, rfl, _, rfl, l2, _, rfl, SqL.of hL2_, fun q hq => ?_⟩
        obtain ⟨o5, ho5⟩ := hp4.at
        have nqa : q ≠ a := (ne_of_none ho5 hq).symm
        refine ⟨_, rfl, _, rfl, _, _, rfl, rfl, (bd_lit (n := 2)).cm bmo, _, _, rfl, rfl, a, 2 * most + 1, m + 60, rfl, by omega, by omega, hp4.same (same_new hq), by omega, fun H5 d x5 hp5 d0 d1 => ?_⟩
        refine ⟨_, rfl, _, _, rfl, rfl, sz2, fun l3 hl3 => ?_⟩
        have hq5 : H5 q = some (.lst (cutV ([c - most, 1].map V.int) none (some 1))) := x5 _ _ nqa upd_same
        refine ⟨q, l3, _, _, rfl, rfl, same_new hl3 _ _ hq5, upd_same, (by show 3 ≤ sizeLine; decide), fun l4 hl4 => ?_⟩
        obtain ⟨o6, ho6⟩ := (hp5.same (same_new (o := .lst [V.int (d - most), V.int 1]) hl3)).at
        have nl4 : l4 ≠ a := (ne_of_none ho6 hl4).symm
        have xx : Xt a H (upd H5 l3 (.lst [V.int (d - most), V.int 1])) := (x04.same1 (same_new hq)).trans (x5.same1 (same_new hl3))
        refine ⟨_, rfl, _, _, rfl, rfl, _, rfl, ?_⟩
        refine iteF ?_
        refine ⟨_, rfl, _, _, rfl, rfl, _, rfl, ?_⟩
        refine iteF ?_
        exact tail _ l4 [c - most, d - most, 1] (xx.same1 (same_new hl4)) (((hp5.same (same_new hl3)).same (same_new hl4)).mono (by omega)) nl4 (xx.free nl4 hl4) upd_same (.inr (.inl ⟨_, _, rfl⟩))
    · rcases h357 with rfl | rfl | rfl
      · refine iteF ?_
        refine ⟨_, rfl, rfl, _, rfl, ?_⟩
        refine iteF ?_
        refine ⟨_, rfl, _, _, rfl, rfl, _, rfl, ?_⟩
        refine iteT ?_
        refine ⟨_, rfl, _, rfl, a, most, m + 60, rfl, mo1, mo2, hp4, by omega, fun H5 p x y x5 hp5 npa hn5 hL5 => ?_⟩
        refine ⟨_, rfl, _, _, rfl, rfl, _, rfl, ?_⟩
        refine iteT ?_
        refine ⟨_, rfl, _, _, rfl, rfl, (show (2 : Int) ≠ 0 by decide), rfl, _, rfl, ?_⟩
        refine iteF ?_
        exact tail H5 p [x, 0, y, 0, 1] (x04.trans x5) (hp5.mono (by omega)) npa (x04.free npa hn5) hL5 (.inr (.inr (.inr ⟨_, _, rfl⟩)))
      · refine iteF ?_
        refine ⟨_, rfl, rfl, _, rfl, ?_⟩
        refine iteF ?_
        refine ⟨_, rfl, _, _, rfl, rfl, _, rfl, ?_⟩
        refine iteT ?_
        refine ⟨_, rfl, _, rfl, a, most, m + 60, rfl, mo1, mo2, hp4, by omega, fun H5 p x y x5 hp5 npa hn5 hL5 => ?_⟩
        refine ⟨_, rfl, _, _, rfl, rfl, _, rfl, ?_⟩
        refine iteT ?_
        refine ⟨_, rfl, _, _, rfl, rfl, (show (2 : Int) ≠ 0 by decide), rfl, _, rfl, ?_⟩
        refine iteF ?_
        exact tail H5 p [x, 0, y, 0, 1] (x04.trans x5) (hp5.mono (by omega)) npa (x04.free npa hn5) hL5 (.inr (.inr (.inr ⟨_, _, rfl⟩)))
      · refine iteF ?_
        refine ⟨_, rfl, rfl, _, rfl, ?_⟩
        refine iteF ?_
        refine ⟨_, rfl, _, _, rfl, rfl, _, rfl, ?_⟩
        refine iteT ?_
        refine ⟨_, rfl, _, rfl, a, most, m + 60, rfl, mo1, mo2, hp4, by omega, fun H5 p x y x5 hp5 npa hn5 hL5 => ?_⟩
        refine ⟨_, rfl, _, _, rfl, rfl, _, rfl, ?_⟩
        refine iteT ?_
        refine ⟨_, rfl, _, _, rfl, rfl, (show (2 : Int) ≠ 0 by decide), rfl, _, rfl, ?_⟩
        refine iteF ?_
        exact tail H5 p [x, 0, y, 0, 1] (x04.trans x5) (hp5.mono (by omega)) npa (x04.free npa hn5) hL5 (.inr (.inr (.inr ⟨_, _, rfl⟩)))
    · rcases h46 with rfl | rfl
      · refine iteF ?_
        refine ⟨_, rfl, rfl, _, rfl, ?_⟩
        refine iteF ?_
        refine ⟨_, rfl, _, _, rfl, rfl, _, rfl, ?_⟩
        refine iteT ?_
        refine ⟨_, rfl, _, rfl, a, most, m + 60, rfl, mo1, mo2, hp4, by omega, fun H5 p x y x5 hp5 npa hn5 hL5 => ?_⟩
        refine ⟨_, rfl, _, _, rfl, rfl, _, rfl, ?_⟩
        refine iteT ?_
        refine ⟨_, rfl, _, _, rfl, rfl, (show (2 : Int) ≠ 0 by decide), rfl, _, rfl, ?_⟩
        refine iteT ?_
        refine ⟨_, rfl, _, rfl, a, most, m + 160, rfl, mo1, mo2, hp5.mono (by omega), by omega, fun H6 p2 x y z x6 hp6 npa6 hn6 hL6 => ?_⟩
        exact tail H6 p2 [x, y, z, 1] ((x04.trans x5).trans x6) (hp6.mono (by omega)) npa6 ((x04.trans x5).free npa6 hn6) hL6 (.inr (.inr (.inl ⟨_, _, _, rfl⟩)))
      · refine iteF ?_
        refine ⟨_, rfl, rfl, _, rfl, ?_⟩
        refine iteF ?_
        refine ⟨_, rfl, _, _, rfl, rfl, _, rfl, ?_⟩
        refine iteT ?_
        refine ⟨_, rfl, _, rfl, a, most, m + 60, rfl, mo1, mo2, hp4, by omega, fun H5 p x y x5 hp5 npa hn5 hL5 => ?_⟩
        refine ⟨_, rfl, _, _, rfl, rfl, _, rfl, ?_⟩
        refine iteT ?_
        refine ⟨_, rfl, _, _, rfl, rfl, (show (2 : Int) ≠ 0 by decide), rfl, _, rfl, ?_⟩
        refine iteT ?_
        refine ⟨_, rfl, _, rfl, a, most, m + 160, rfl, mo1, mo2, hp5.mono (by omega), by omega, fun H6 p2 x y z x6 hp6 npa6 hn6 hL6 => ?_⟩
        exact tail H6 p2 [x, y, z, 1] ((x04.trans x5).trans x6) (hp6.mono (by omega)) npa6 ((x04.trans x5).free npa6 hn6) hL6 (.inr (.inr (.inl ⟨_, _, _, rfl⟩)))
end
end My

namespace My
open PySem PySem.Spec PyProof.Rows L2
open C8 (Cal pe_c pe_gc)
theorem cut_int (ns : List Int) (lo hi : Option Int) : ∃ ms : List Int, cutV (ns.map V.int) lo hi = ms.map V.int ∧ ms.length ≤ ns.length := by
  refine ⟨(ns.drop (HT.sIx ns.length 0 lo)).take (HT.sIx ns.length ns.length hi - HT.sIx ns.length 0 lo), ?_, ?_⟩
  · unfold cutV
    rw [List.length_map, ← List.map_drop, ← List.map_take]
  · rw [List.length_take, List.length_drop]; omega
section
variable {c : Cs} {P : Program} {w : World} {K : PySem.W.Frag} {mg : Str → Option Value} {base : Heap}
abbrev s_Lbent : Stmt := top 81
abbrev N_Lbent : List Str := ["_law_purse_here", "_law_poly_here", "_law_way", "_law_at_here", "_law_far", "_law_some", "_law_one", "_law_its", "_law_three_here"]
abbrev P_Lbent : List Str := ["_law_purse_here", "_law_poly_here", "_law_way"]
theorem sc_Lbent : FnScope N_Lbent ["_law_purse_here", "_law_poly_here", "_law_way"] (defScope s_Lbent) := ⟨rfl, rfl, rfl, by decide +kernel, rfl, by decide +kernel, by decide +kernel⟩

def sp_Lbent : Sp := fun vs H Q _ => ∃ (a b : Addr) (ns : List Int) (way m : Nat), vs = [.ref a, .ref b, .int (way : Nat)] ∧ Pur H a m ∧ m ≤ 2 ^ 28 ∧ H b = some (.lst (ns.map V.int)) ∧ 2 ≤ ns.length ∧ ns.length ≤ 5 ∧ way ≤ 6 ∧ b ≠ a ∧
  ∀ H' q ms, Xt a H H' → Pur H' a (m + 400) → q ≠ a → H q = none → H' q = some (.lst (List.map V.int ms)) → ms.length ≤ 40 → Q (.ref q) H'
theorem ok_Lbent (T : Txt K mg c) {f : Addr} {fd : FuncData} (F : L2.Fun K "_law_bent" "_law_bent" s_Lbent f fd) (h_Ldraw : Cal P w K mg base 2 "_law_draw" sp_Ldraw []) : FnOk P w K mg base CX0 3 f fd P_Lbent sp_Lbent := by
  refine F.ok sc_Lbent (fun vs H Q E h => ?_) (fun cdv A outer s H vs Q E hr h => ?_)
  · obtain ⟨a, b, ns, way, m, rfl, _⟩ := h
    rfl
  · obtain ⟨a, b, ns, way, m, rfl, hp, hm, hb, l2, l5, hw, nba, k⟩ := h
    refine ⟨_, (pss_cons (ps_set (i := 3) sc_Lbent.nd rfl (by first | exact Or.inl rfl | exact Or.inr rfl) (pe_c h_Ldraw hr (by decide) rfl (pa_cons (pv 0) (pa_cons (pe_callB call_len_seq (by rfl) T.z_len (by decide +kernel) (pa_cons (pv 1) pa_nil)) pa_nil))))
      (pss_cons (ps_set (i := 4) sc_Lbent.nd rfl (by first | exact Or.inl rfl | exact Or.inr rfl) (pe_ix ix_list (pe_lst (pa_cons pe_int (pa_cons (pe_un un_neg pe_int) (pa_cons (pe_op op_add pe_int (pe_c h_Ldraw hr (by decide) rfl (pa_cons (pv 0) (pa_cons (pe_op op_powW pe_int pe_int) pa_nil)))) (pa_cons (pe_op op_sub (pe_un un_neg pe_int) (pe_c h_Ldraw hr (by decide) rfl (pa_cons (pv 0) (pa_cons (pe_op op_powW pe_int pe_int) pa_nil)))) pa_nil))))) (pe_c h_Ldraw hr (by decide) rfl (pa_cons (pv 0) (pa_cons pe_int pa_nil))) (fun _ _ => rfl)))
      (pss_cons (ps_if (pt_cmpR op_eq (pv 2) pe_int (nomark _)) (pss_one (ps_ret (pe_ix ix_list (pe_lst (pa_cons (pe_lst pa_nil) (pa_cons (pe_lst (pa_cons pe_int pa_nil)) (pa_cons (pe_lst (pa_cons pe_int (pa_cons pe_int (pa_cons pe_int (pa_cons pe_int (pa_cons pe_int (pa_cons pe_int pa_nil))))))) (pa_cons (pe_lst (pa_cons (pv 4) pa_nil)) (pa_cons (pe_op op_rep (pe_lst (pa_cons (pv 4) pa_nil)) pe_int) (pa_cons (pe_op op_rep (pe_lst (pa_cons pe_int pa_nil)) pe_int) pa_nil))))))) (pe_c h_Ldraw hr (by decide) rfl (pa_cons (pv 0) (pa_cons pe_int pa_nil))) (fun _ _ => rfl)))) pss_nil)
      (pss_cons (ps_if (pt_cmpR op_eq (pv 2) pe_int (nomark _)) (pss_one (ps_ret (pe_op op_cat (pe_op op_cat (pe_slice sl_list (pv 1) po_none (po_some (pv 3))) (pe_lst (pa_cons (pv 4) pa_nil))) (pe_slice sl_list (pv 1) (po_some (pe_op op_add (pv 3) pe_int)) po_none)))) pss_nil)
      (pss_cons (ps_if (pt_cmpR op_eq (pv 2) pe_int (nomark _)) (pss_one (ps_ret (pe_op op_cat (pe_slice sl_list (pv 1) po_none (po_some (pe_un un_neg pe_int))) (pe_lst (pa_cons (pe_ix ix_list (pe_lst (pa_cons pe_int (pa_cons (pe_un un_neg pe_int) (pa_cons pe_int (pa_cons pe_int pa_nil))))) (pe_c h_Ldraw hr (by decide) rfl (pa_cons (pv 0) (pa_cons pe_int pa_nil))) (fun _ _ => rfl)) pa_nil))))) pss_nil)
      (pss_cons (ps_if (pt_cmpR op_eq (pv 2) pe_int (nomark _)) (pss_cons (ps_set (i := 5) sc_Lbent.nd rfl (by first | exact Or.inl rfl | exact Or.inr rfl) (pe_ix ix_list (pe_lst (pa_cons (pe_lst (pa_cons pe_int (pa_cons pe_int (pa_cons pe_int (pa_cons pe_int pa_nil))))) (pa_cons (pe_lst (pa_cons pe_int (pa_cons pe_int (pa_cons pe_int (pa_cons pe_int pa_nil))))) (pa_cons (pe_lst (pa_cons pe_int (pa_cons pe_int (pa_cons pe_int (pa_cons (pe_un un_neg pe_int) pa_nil))))) (pa_cons (pe_lst (pa_cons pe_int (pa_cons pe_int (pa_cons (pv 4) (pa_cons pe_int pa_nil))))) pa_nil))))) (pe_c h_Ldraw hr (by decide) rfl (pa_cons (pv 0) (pa_cons pe_int pa_nil))) (fun _ _ => rfl)))
      (pss_one (ps_ret (pe_lst (pa_cons (pe_op op_sub (pe_c h_Ldraw hr (by decide) rfl (pa_cons (pv 0) (pa_cons pe_int pa_nil))) pe_int) (pa_cons (pe_ix ix_list (pv 5) pe_int (fun _ _ => rfl)) (pa_cons pe_int (pa_cons (pe_ix ix_list (pv 5) pe_int (fun _ _ => rfl)) (pa_cons (pe_ix ix_list (pe_lst (pa_cons pe_int (pa_cons pe_int (pa_cons pe_int pa_nil)))) (pe_c h_Ldraw hr (by decide) rfl (pa_cons (pv 0) (pa_cons pe_int pa_nil))) (fun _ _ => rfl)) pa_nil))))))))) pss_nil)
      (pss_cons (ps_if (pt_cmpR op_eq (pv 2) pe_int (nomark _)) (pss_cons (ps_set (i := 6) sc_Lbent.nd rfl (by first | exact Or.inl rfl | exact Or.inr rfl) (pe_op op_sub (pe_c h_Ldraw hr (by decide) rfl (pa_cons (pv 0) (pa_cons pe_int pa_nil))) pe_int))
      (pss_cons (ps_set (i := 7) sc_Lbent.nd rfl (by first | exact Or.inl rfl | exact Or.inr rfl) (pe_op op_sub (pe_c h_Ldraw hr (by decide) rfl (pa_cons (pv 0) (pa_cons pe_int pa_nil))) pe_int))
      (pss_cons (ps_set (i := 8) sc_Lbent.nd rfl (by first | exact Or.inl rfl | exact Or.inr rfl) (pe_lst (pa_cons (pe_op op_sub pe_int (pe_op op_mulW (pe_op op_mulW (pv 6) (pv 6)) (pv 7))) (pa_cons (pe_op op_add (pe_op op_mulW (pv 6) (pv 6)) (pe_op op_mulW (pe_op op_mulW pe_int (pv 6)) (pv 7))) (pa_cons (pe_op op_sub (pe_op op_mulW (pe_un un_neg pe_int) (pv 6)) (pv 7)) (pa_cons pe_int pa_nil))))))
      (pss_one (ps_ret (pe_ix ix_list (pe_lst (pa_cons (pe_lst (pa_cons (pe_op op_mulW (pv 6) (pv 6)) (pa_cons (pe_op op_mulW (pe_un un_neg pe_int) (pv 6)) (pa_cons pe_int pa_nil)))) (pa_cons (pv 8) pa_nil))) (pe_op op_modN (pv 3) pe_int) (fun _ _ => rfl))))))) pss_nil)
      (pss_cons (ps_if (pt_cmpR op_eq (pv 2) pe_int (nomark _)) (pss_cons (ps_set (i := 6) sc_Lbent.nd rfl (by first | exact Or.inl rfl | exact Or.inr rfl) (pe_op op_add (pe_c h_Ldraw hr (by decide) rfl (pa_cons (pv 0) (pa_cons pe_int pa_nil))) pe_int))
      (pss_one (ps_ret (pe_ix ix_list (pe_lst (pa_cons (pe_lst (pa_cons pe_int (pa_cons pe_int (pa_cons (pv 6) (pa_cons pe_int (pa_cons pe_int pa_nil)))))) (pa_cons (pe_lst (pa_cons (pe_op op_mulW (pv 6) (pv 6)) (pa_cons pe_int (pa_cons (pe_op op_mulW pe_int (pv 6)) (pa_cons pe_int (pa_cons pe_int pa_nil)))))) (pa_cons (pe_lst (pa_cons (pe_op op_mulW (pv 6) (pv 6)) (pa_cons pe_int (pa_cons (pe_op op_mulW (pe_un un_neg pe_int) (pv 6)) (pa_cons pe_int (pa_cons pe_int pa_nil)))))) pa_nil)))) (pe_c h_Ldraw hr (by decide) rfl (pa_cons (pv 0) (pa_cons pe_int pa_nil))) (fun _ _ => rfl))))) pss_nil)
      (pss_one (ps_ret (pe_op op_cat (pe_op op_cat (pe_op op_cat (pe_slice sl_list (pv 1) po_none (po_some (pv 3))) (pe_lst (pa_cons (pv 4) pa_nil))) (pe_slice sl_list (pv 1) (po_some (pe_op op_add (pv 3) pe_int)) (po_some (pe_un un_neg pe_int)))) (pe_lst (pa_cons pe_int pa_nil))))))))))))), ?_⟩
    have e0 : (List.map V.int ns).length = ns.length := List.length_map _
    have fin' : ∀ H1 q (ms : List Int) (m' : Nat), Xt a H H1 → Pur H1 a m' → m' ≤ m + 400 → q ≠ a → H1 q = some (.lst (List.map V.int ms)) → H q = none → ms.length ≤ 40 → Q (.ref q) H1 := fun H1 q ms m' x p hm' nqa hq hqn hl => k H1 q ms x (p.mono hm') nqa hqn hq hl
    have nea : ∀ {H1 : Hp} {q : Addr} {m' : Nat}, Pur H1 a m' → H1 q = none → q ≠ a := fun p hq => by
      obtain ⟨o, ho⟩ := p.at
      exact (ne_of_none ho hq).symm
    have fin : ∀ H1 q (ms : List Int) (m' : Nat), Xt a H H1 → Pur H1 a m' → m' ≤ m + 400 → H1 q = none → ms.length ≤ 40 → Q (.ref q) (upd H1 q (.lst (List.map V.int ms))) := fun H1 q ms m' x p hm' hq hl =>
      fin' _ q ms m' (x.same1 (same_new hq)) (p.same (same_new hq)) hm' (nea p hq) upd_same (x.free (nea p hq) hq) hl
    refine ⟨_, rfl, _, rfl, b, _, rfl, .inl (SqL.of hb), a, _, m, rfl, (by rw [e0]; omega), (by rw [e0]; omega), hp, by omega, fun H1 at_ x1 p1 a0 a1 => ?_⟩
    rw [e0] at a1
    refine ⟨_, rfl, _, rfl, _, _, rfl, rfl, ⟨by decide, by decide +kernel⟩, a, _, _, rfl, (show (0 : Int) < 10 ^ 29 by decide), (show (10 : Int) ^ 29 < 2 ^ 200 by decide), p1, by omega, fun H2 f1 x2 p2 f10 f11 => ?_⟩
    refine ⟨_, _, rfl, rfl, _, rfl, _, rfl, _, _, rfl, rfl, ⟨by decide, by decide +kernel⟩, a, _, _, rfl, (show (0 : Int) < 10 ^ 29 by decide), (show (10 : Int) ^ 29 < 2 ^ 200 by decide), p2, by omega, fun H3 f2 x3 p3 f20 f21 => ?_⟩
    refine ⟨_, _, rfl, rfl, sz4, fun l hl => ?_⟩
    refine ⟨_, rfl, a, 4, _, rfl, by decide, by decide, p3.same (same_new hl), by omega, fun H4 z4 x4 p4 z40 z41 => ?_⟩
    have hL : H4 l = some (.lst [V.int 101, V.int (-101), V.int (101 + f1), V.int (-101 - f2)]) := x4 _ _ (nea p3 hl) upd_same
    have key : ∃ far : Int, atI [V.int 101, V.int (-101), V.int (101 + f1), V.int (-101 - f2)] z4 = some (V.int far) := by
      have : z4 = 0 ∨ z4 = 1 ∨ z4 = 2 ∨ z4 = 3 := by omega
      rcases this with rfl | rfl | rfl | rfl <;> exact ⟨_, rfl⟩
    obtain ⟨far, hfar⟩ := key
    refine ⟨l, _, _, _, rfl, rfl, SqL.of hL, hfar, ?_⟩
    have X4 : Xt a H H4 := x1.trans (x2.trans (x3.trans ((Xt.of (same_new hl)).trans x4)))
    have hb4 : H4 b = some (.lst (ns.map V.int)) := X4 _ _ nba hb
    have P4 : Pur H4 a (m + 80) := p4.mono (by omega)
    have ways : way = 0 ∨ way = 1 ∨ way = 2 ∨ way = 3 ∨ way = 4 ∨ way = 5 ∨ way = 6 := by omega
    rcases ways with rfl | rfl | rfl | rfl | rfl | rfl | rfl
    · refine ⟨_, rfl, rfl, _, rfl, ?_⟩
      refine iteT ?_
      refine ⟨(by show 0 ≤ sizeLine; decide), fun q1 n1 => ⟨(by show 1 ≤ sizeLine; decide), fun q2 n2 => ⟨(by show 6 ≤ sizeLine; decide), fun q3 n3 => ⟨_, rfl, (by show 1 ≤ sizeLine; decide), fun q4 n4 => ⟨_, rfl, (by show 1 ≤ sizeLine; decide), fun q5 n5 => ?_⟩⟩⟩⟩⟩
      refine ⟨q5, _, _, rfl, rfl, upd_same, by decide, by decide, (by show 6 ≤ sizeLine; decide), fun q6 n6 => ?_⟩
      refine ⟨(by show 1 ≤ sizeLine; decide), fun q7 n7 => ⟨q7, _, _, rfl, rfl, upd_same, by decide, by decide, (by show 40 ≤ sizeLine; decide), fun q8 n8 => ?_⟩⟩
      refine ⟨(by show 6 ≤ sizeLine; decide), fun q9 n9 => ?_⟩
      have t1 := same_new (o := .lst ([].map V.int)) n1
      have t2 := same_new (o := .lst ([1].map V.int)) n2
      have t3 := same_new (o := .lst ([0, 1, 0, 0, 0, 1].map V.int)) n3
      have t4 := same_new (o := .lst ([far].map V.int)) n4
      have t5 := same_new (o := .lst ([far].map V.int)) n5
      have t6 := same_new (o := .lst ([far, far, far, far, far, far].map V.int)) n6
      have t7 := same_new (o := .lst ([5].map V.int)) n7
      have t8 := same_new (o := .lst ((List.replicate 40 5).map V.int)) n8
      have t9 := same_new (o := .lst [V.ref q1, V.ref q2, V.ref q3, V.ref q4, V.ref q6, V.ref q8]) n9
      have e3 := t1.trans (t2.trans t3)
      have e6 := t4.trans (t5.trans t6)
      have e9 := t7.trans (t8.trans t9)
      have S9 := e3.trans (e6.trans e9)
      refine ⟨_, rfl, a, 6, _, rfl, by decide, by decide, P4.same S9, by omega, fun H5 z5 x5 p5 z50 z51 => ?_⟩
      have X5 : Xt a H H5 := (X4.same1 S9).trans x5
      have h9 : H5 q9 = some (.lst [V.ref q1, V.ref q2, V.ref q3, V.ref q4, V.ref q6, V.ref q8]) := x5 _ _ (nea (P4.same (e3.trans (e6.trans (t7.trans t8)))) n9) upd_same
      have pick : ∀ (q : Addr) (ms : List Int), upd _ q9 (.lst [V.ref q1, V.ref q2, V.ref q3, V.ref q4, V.ref q6, V.ref q8]) q = some (.lst (ms.map V.int)) → q ≠ a → H q = none → ms.length ≤ 40 → Q (.ref q) H5 := fun q ms hq nqa hqn hl => fin' H5 q ms _ X5 p5 (by omega) nqa (x5 _ _ nqa hq) hqn hl
      have zc : z5 = 0 ∨ z5 = 1 ∨ z5 = 2 ∨ z5 = 3 ∨ z5 = 4 ∨ z5 = 5 := by omega
      rcases zc with rfl | rfl | rfl | rfl | rfl | rfl
      · refine ⟨q9, _, _, .ref q1, rfl, rfl, SqL.of h9, rfl, pick q1 [] ((t2.trans (t3.trans (e6.trans e9))) _ _ upd_same) (nea P4 n1) (X4.free (nea P4 n1) n1) (by decide)⟩
      · have nn := t1.free n2
        refine ⟨q9, _, _, .ref q2, rfl, rfl, SqL.of h9, rfl, pick q2 [1] ((t3.trans (e6.trans e9)) _ _ upd_same) (nea P4 nn) (X4.free (nea P4 nn) nn) (by decide)⟩
      · have nn := (t1.trans t2).free n3
        refine ⟨q9, _, _, .ref q3, rfl, rfl, SqL.of h9, rfl, pick q3 [0, 1, 0, 0, 0, 1] ((e6.trans e9) _ _ upd_same) (nea P4 nn) (X4.free (nea P4 nn) nn) (by decide)⟩
      · have nn := e3.free n4
        refine ⟨q9, _, _, .ref q4, rfl, rfl, SqL.of h9, rfl, pick q4 [far] ((t5.trans (t6.trans e9)) _ _ upd_same) (nea P4 nn) (X4.free (nea P4 nn) nn) (by simp)⟩
      · have nn := (e3.trans (t4.trans t5)).free n6
        refine ⟨q9, _, _, .ref q6, rfl, rfl, SqL.of h9, rfl, pick q6 [far, far, far, far, far, far] (e9 _ _ upd_same) (nea P4 nn) (X4.free (nea P4 nn) nn) (by simp)⟩
      · have nn := (e3.trans (e6.trans t7)).free n8
        refine ⟨q9, _, _, .ref q8, rfl, rfl, SqL.of h9, rfl, pick q8 (List.replicate 40 5) (t9 _ _ upd_same) (nea P4 nn) (X4.free (nea P4 nn) nn) (by decide)⟩
    · refine ⟨_, rfl, rfl, _, rfl, ?_⟩
      refine iteF ?_
      refine ⟨_, rfl, rfl, _, rfl, ?_⟩
      refine iteT ?_
      obtain ⟨ms1, e1, g1⟩ := cut_int ns none (some at_)
      obtain ⟨ms2, e2, g2⟩ := cut_int ns (some (at_ + 1)) none
      refine ⟨_, rfl, _, rfl, _, rfl, b, _, rfl, SqL.of hb4, fun q1 n1 => ⟨_, rfl, (by show 1 ≤ sizeLine; decide), fun q2 n2 => ?_⟩⟩
      rw [e1] at *
      have s1 := same_new (o := .lst (ms1.map V.int)) n1
      have s2 := same_new (o := .lst [V.int far]) n2
      refine ⟨q1, q2, _, _, rfl, rfl, s2 _ _ upd_same, upd_same, (by rw [List.length_map]; exact Nat.le_of_lt (small1000 (n := ms1.length + 1) (by omega))), fun q3 n3 => ?_⟩
      have s3 := same_new (o := .lst (ms1.map V.int ++ [V.int far])) n3
      refine ⟨_, rfl, _, rfl, _, _, rfl, rfl, _, rfl, b, _, rfl, SqL.of ((s1.trans (s2.trans s3)) _ _ hb4), fun q4 n4 => ?_⟩
      rw [e2]
      have s4 := same_new (o := .lst (ms2.map V.int)) n4
      refine ⟨q3, q4, _, _, rfl, rfl, s4 _ _ upd_same, upd_same, (by rw [List.length_append, List.length_map, List.length_map]; exact Nat.le_of_lt (small1000 (n := ms1.length + 1 + ms2.length) (by omega))), fun q5 n5 => ?_⟩
      have S := s1.trans (s2.trans (s3.trans s4))
      have := fin _ q5 (ms1 ++ [far] ++ ms2) _ (X4.same1 S) (P4.same S) (by omega) n5 (by simp; omega)
      rw [List.map_append, List.map_append] at this
      exact this
    · refine ⟨_, rfl, rfl, _, rfl, ?_⟩
      refine iteF ?_
      refine ⟨_, rfl, rfl, _, rfl, ?_⟩
      refine iteF ?_
      refine ⟨_, rfl, rfl, _, rfl, ?_⟩
      refine iteT ?_
      obtain ⟨ms1, e1, g1⟩ := cut_int ns none (some (-1))
      refine ⟨_, rfl, _, rfl, _, rfl, b, _, rfl, SqL.of hb4, fun q1 n1 => ?_⟩
      rw [e1] at *
      have s1 := same_new (o := .lst (ms1.map V.int)) n1
      refine ⟨_, rfl, sz4, fun q2 n2 => ?_⟩
      have s2 := same_new (o := .lst [V.int 0, V.int (-1), V.int 2, V.int 100]) n2
      refine ⟨_, rfl, a, 4, _, rfl, by decide, by decide, P4.same (s1.trans s2), by omega, fun H5 z5 x5 p5 z50 z51 => ?_⟩
      have h2 : H5 q2 = some (.lst [V.int 0, V.int (-1), V.int 2, V.int 100]) := x5 _ _ (nea (P4.same s1) n2) upd_same
      have h1 : H5 q1 = some (.lst (ms1.map V.int)) := x5 _ _ (nea P4 n1) (s2 _ _ upd_same)
      have key : ∃ y : Int, atI [V.int 0, V.int (-1), V.int 2, V.int 100] z5 = some (V.int y) := by
        have : z5 = 0 ∨ z5 = 1 ∨ z5 = 2 ∨ z5 = 3 := by omega
        rcases this with rfl | rfl | rfl | rfl <;> exact ⟨_, rfl⟩
      obtain ⟨y, hy⟩ := key
      refine ⟨q2, _, _, _, rfl, rfl, SqL.of h2, hy, (by show 1 ≤ sizeLine; decide), fun q3 n3 => ?_⟩
      have s3 := same_new (o := .lst [V.int y]) n3
      refine ⟨q1, q3, _, _, rfl, rfl, s3 _ _ h1, upd_same, (by rw [List.length_map]; exact Nat.le_of_lt (small1000 (n := ms1.length + 1) (by omega))), fun q4 n4 => ?_⟩
      have := fin _ q4 (ms1 ++ [y]) _ (((X4.same1 (s1.trans s2)).trans x5).same1 s3) (p5.same s3) (by omega) n4 (by simp; omega)
      rw [List.map_append] at this
      exact this
    · refine ⟨_, rfl, rfl, _, rfl, ?_⟩
      refine iteF ?_
      refine ⟨_, rfl, rfl, _, rfl, ?_⟩
      refine iteF ?_
      refine ⟨_, rfl, rfl, _, rfl, ?_⟩
      refine iteF ?_
      refine ⟨_, rfl, rfl, _, rfl, ?_⟩
      refine iteT ?_
      refine ⟨sz4, fun q1 n1 => ⟨sz4, fun q2 n2 => ⟨_, rfl, sz4, fun q3 n3 => ⟨_, rfl, sz4, fun q4 n4 => ⟨sz4, fun q5 n5 => ?_⟩⟩⟩⟩⟩
      have t1 := same_new (o := .lst ([1, 0, 1, 0].map V.int)) n1
      have t2 := same_new (o := .lst ([0, 0, 0, 1].map V.int)) n2
      have t3 := same_new (o := .lst ([1, 0, 2, -1].map V.int)) n3
      have t4 := same_new (o := .lst ([1, 0, far, 0].map V.int)) n4
      have t5 := same_new (o := .lst [V.ref q1, V.ref q2, V.ref q3, V.ref q4]) n5
      have S := (t1.trans t2).trans (t3.trans (t4.trans t5))
      refine ⟨_, rfl, a, 4, _, rfl, by decide, by decide, P4.same S, by omega, fun H5 z5 x5 p5 z50 z51 => ?_⟩
      have h5 : H5 q5 = some (.lst [V.ref q1, V.ref q2, V.ref q3, V.ref q4]) := x5 _ _ (nea (P4.same ((t1.trans t2).trans (t3.trans t4))) n5) upd_same
      have key : ∃ (q : Addr) (u v w x : Int), atI [V.ref q1, V.ref q2, V.ref q3, V.ref q4] z5 = some (V.ref q) ∧ H5 q = some (.lst [V.int u, V.int v, V.int w, V.int x]) := by
        have : z5 = 0 ∨ z5 = 1 ∨ z5 = 2 ∨ z5 = 3 := by omega
        rcases this with rfl | rfl | rfl | rfl
        · exact ⟨q1, 1, 0, 1, 0, rfl, x5 _ _ (nea P4 n1) ((t2.trans (t3.trans (t4.trans t5))) _ _ upd_same)⟩
        · exact ⟨q2, 0, 0, 0, 1, rfl, x5 _ _ (nea P4 (t1.free n2)) ((t3.trans (t4.trans t5)) _ _ upd_same)⟩
        · exact ⟨q3, 1, 0, 2, -1, rfl, x5 _ _ (nea P4 ((t1.trans t2).free n3)) ((t4.trans t5) _ _ upd_same)⟩
        · exact ⟨q4, 1, 0, far, 0, rfl, x5 _ _ (nea P4 (((t1.trans t2).trans t3).free n4)) (t5 _ _ upd_same)⟩
      obtain ⟨q, u, v, w_, x, hq, hq2⟩ := key
      have nqa : q ≠ a := fun e => by
        obtain ⟨d, c_, k_, hd, _⟩ := p5
        rw [← e, hq2] at hd
        cases hd
      refine ⟨q5, _, _, _, rfl, rfl, SqL.of h5, hq, ?_⟩
      refine ⟨_, rfl, a, 9, _, rfl, by decide, by decide, p5, by omega, fun H6 z6 x6 p6 z60 z61 => ?_⟩
      have hq6 := x6 _ _ nqa hq2
      refine ⟨_, _, rfl, rfl, _, rfl, q, _, _, _, rfl, rfl, SqL.of hq6, rfl, _, rfl, q, _, _, _, rfl, rfl, SqL.of hq6, rfl, sz3, fun r1 m1 => ?_⟩
      have u1 := same_new (o := .lst [V.int 1, V.int 1, V.int 2]) m1
      refine ⟨_, rfl, a, 3, _, rfl, by decide, by decide, p6.same u1, by omega, fun H7 z7 x7 p7 z70 z71 => ?_⟩
      have h7 : H7 r1 = some (.lst [V.int 1, V.int 1, V.int 2]) := x7 _ _ (nea p6 m1) upd_same
      have key : ∃ y : Int, atI [V.int 1, V.int 1, V.int 2] z7 = some (V.int y) := by
        have : z7 = 0 ∨ z7 = 1 ∨ z7 = 2 := by omega
        rcases this with rfl | rfl | rfl <;> exact ⟨_, rfl⟩
      obtain ⟨y, hy⟩ := key
      refine ⟨r1, _, _, _, rfl, rfl, SqL.of h7, hy, sz5, fun r2 m2 => ?_⟩
      exact fin _ r2 [z6 - 4, u, 3, x, y] _ ((((X4.same1 S).trans x5).trans x6).trans ((Xt.of u1).trans x7)) p7 (by omega) m2 (by simp)
    · refine ⟨_, rfl, rfl, _, rfl, ?_⟩
      refine iteF ?_
      refine ⟨_, rfl, rfl, _, rfl, ?_⟩
      refine iteF ?_
      refine ⟨_, rfl, rfl, _, rfl, ?_⟩
      refine iteF ?_
      refine ⟨_, rfl, rfl, _, rfl, ?_⟩
      refine iteF ?_
      refine ⟨_, rfl, rfl, _, rfl, ?_⟩
      refine iteT ?_
      refine ⟨_, rfl, a, 9, _, rfl, by decide, by decide, P4, by omega, fun H5 z5 x5 p5 z50 z51 => ?_⟩
      refine ⟨_, _, rfl, rfl, _, rfl, a, 9, _, rfl, by decide, by decide, p5, by omega, fun H6 z6 x6 p6 z60 z61 => ?_⟩
      refine ⟨_, _, rfl, rfl, ?_⟩
      obtain ⟨one, ho⟩ : ∃ one, one = z5 - 4 := ⟨_, rfl⟩
      obtain ⟨its, hi⟩ : ∃ its, its = z6 - 4 := ⟨_, rfl⟩
      dsimp only
      rw [← ho, ← hi]
      have b1 : Bd 9 one := by unfold Bd; omega
      have b2 : Bd 9 its := by unfold Bd; omega
      have bm2 : Bd 2 (-2) := bd_lit
      refine ⟨_, rfl, _, rfl, _, _, rfl, rfl, b1.cm b1, _, rfl, _, _, rfl, rfl, (b1.mul b1).cm b2, _, _, rfl, rfl, ?_⟩
      refine ⟨_, rfl, _, rfl, _, _, rfl, rfl, b1.cm b1, _, rfl, _, _, rfl, rfl, (bd_lit (n := 2)).cm b1, _, rfl, _, _, rfl, rfl, ((bd_lit (n := 2) (x := 2)).mul b1).cm b2, _, _, rfl, rfl, ?_⟩
      refine ⟨_, rfl, _, rfl, _, _, rfl, rfl, bm2.cm b1, _, rfl, _, _, rfl, rfl, sz4, fun q1 n1 => ?_⟩
      refine ⟨_, rfl, _, rfl, _, _, rfl, rfl, b1.cm b1, _, rfl, _, rfl, _, _, rfl, rfl, bm2.cm b1, sz3, fun q2 n2 => ⟨_, rfl, sz2, fun q3 n3 => ?_⟩⟩
      have t1 := same_new (o := .lst ([0 - one * one * its, one * one + 2 * one * its, -2 * one - its, 1].map V.int)) n1
      have t2 := same_new (o := .lst ([one * one, -2 * one, 1].map V.int)) n2
      have t3 := same_new (o := .lst [V.ref q2, V.ref q1]) n3
      have S := t1.trans (t2.trans t3)
      refine ⟨_, rfl, _, _, rfl, rfl, (show (2 : Int) ≠ 0 by decide), ?_⟩
      have XX := ((X4.trans x5).trans x6).same1 S
      have PP := p6.same S
      have r2 := fmod_bd (x := at_) (j := 2) (by decide)
      obtain ⟨r, hr2⟩ : ∃ r, r = at_.fmod 2 := ⟨_, rfl⟩
      rw [← hr2] at r2
      have : r = 0 ∨ r = 1 := by omega
      rcases this with rfl | rfl
      · refine ⟨q3, _, _, .ref q2, rfl, rfl, SqL.of upd_same, by rw [← hr2]; rfl, ?_⟩
        have nn := t1.free n2
        exact fin' _ q2 [one * one, -2 * one, 1] _ XX PP (by omega) (nea p6 nn) (t3 _ _ upd_same) ((X4.trans (x5.trans x6)).free (nea p6 nn) nn) (by simp)
      · refine ⟨q3, _, _, .ref q1, rfl, rfl, SqL.of upd_same, by rw [← hr2]; rfl, ?_⟩
        exact fin' _ q1 [0 - one * one * its, one * one + 2 * one * its, -2 * one - its, 1] _ XX PP (by omega) (nea p6 n1) (t3 _ _ (t2 _ _ upd_same)) ((X4.trans (x5.trans x6)).free (nea p6 n1) n1) (by simp)
    · refine ⟨_, rfl, rfl, _, rfl, ?_⟩
      refine iteF ?_
      refine ⟨_, rfl, rfl, _, rfl, ?_⟩
      refine iteF ?_
      refine ⟨_, rfl, rfl, _, rfl, ?_⟩
      refine iteF ?_
      refine ⟨_, rfl, rfl, _, rfl, ?_⟩
      refine iteF ?_
      refine ⟨_, rfl, rfl, _, rfl, ?_⟩
      refine iteF ?_
      refine ⟨_, rfl, rfl, _, rfl, ?_⟩
      refine iteT ?_
      refine ⟨_, rfl, a, 9, _, rfl, by decide, by decide, P4, by omega, fun H5 z5 x5 p5 z50 z51 => ?_⟩
      refine ⟨_, _, rfl, rfl, ?_⟩
      obtain ⟨one, ho⟩ : ∃ one, one = z5 + 1 := ⟨_, rfl⟩
      dsimp only
      rw [← ho]
      have b1 : Bd 9 one := by unfold Bd; omega
      have b2 : Bd 2 2 := bd_lit
      have bm2 : Bd 2 (-2) := bd_lit
      refine ⟨_, rfl, sz5, fun q1 n1 => ?_⟩
      refine ⟨_, rfl, _, rfl, _, _, rfl, rfl, b1.cm b1, _, rfl, _, _, rfl, rfl, b2.cm b1, sz5, fun q2 n2 => ?_⟩
      refine ⟨_, rfl, _, rfl, _, _, rfl, rfl, b1.cm b1, _, rfl, _, rfl, _, _, rfl, rfl, bm2.cm b1, sz5, fun q3 n3 => ⟨sz3, fun q4 n4 => ?_⟩⟩
      have t1 := same_new (o := .lst ([0, 0, one, 0, 1].map V.int)) n1
      have t2 := same_new (o := .lst ([one * one, 0, 2 * one, 0, 1].map V.int)) n2
      have t3 := same_new (o := .lst ([one * one, 0, -2 * one, 0, 1].map V.int)) n3
      have t4 := same_new (o := .lst [V.ref q1, V.ref q2, V.ref q3]) n4
      have S := (t1.trans t2).trans (t3.trans t4)
      refine ⟨_, rfl, a, 3, _, rfl, by decide, by decide, p5.same S, by omega, fun H6 z6 x6 p6 z60 z61 => ?_⟩
      have XX := ((X4.trans x5).same1 S).trans x6
      have h4 : H6 q4 = some (.lst [V.ref q1, V.ref q2, V.ref q3]) := x6 _ _ (nea (p5.same ((t1.trans t2).trans t3)) n4) upd_same
      have X5 := X4.trans x5
      have zc : z6 = 0 ∨ z6 = 1 ∨ z6 = 2 := by omega
      rcases zc with rfl | rfl | rfl
      · refine ⟨q4, _, _, .ref q1, rfl, rfl, SqL.of h4, rfl, ?_⟩
        exact fin' _ q1 [0, 0, one, 0, 1] _ XX p6 (by omega) (nea p5 n1) (x6 _ _ (nea p5 n1) ((t2.trans (t3.trans t4)) _ _ upd_same)) (X5.free (nea p5 n1) n1) (by simp)
      · refine ⟨q4, _, _, .ref q2, rfl, rfl, SqL.of h4, rfl, ?_⟩
        have nn := t1.free n2
        exact fin' _ q2 [one * one, 0, 2 * one, 0, 1] _ XX p6 (by omega) (nea p5 nn) (x6 _ _ (nea p5 nn) ((t3.trans t4) _ _ upd_same)) (X5.free (nea p5 nn) nn) (by simp)
      · refine ⟨q4, _, _, .ref q3, rfl, rfl, SqL.of h4, rfl, ?_⟩
        have nn := (t1.trans t2).free n3
        exact fin' _ q3 [one * one, 0, -2 * one, 0, 1] _ XX p6 (by omega) (nea p5 nn) (x6 _ _ (nea p5 nn) (t4 _ _ upd_same)) (X5.free (nea p5 nn) nn) (by simp)
    · refine ⟨_, rfl, rfl, _, rfl, ?_⟩
      refine iteF ?_
      refine ⟨_, rfl, rfl, _, rfl, ?_⟩
      refine iteF ?_
      refine ⟨_, rfl, rfl, _, rfl, ?_⟩
      refine iteF ?_
      refine ⟨_, rfl, rfl, _, rfl, ?_⟩
      refine iteF ?_
      refine ⟨_, rfl, rfl, _, rfl, ?_⟩
      refine iteF ?_
      refine ⟨_, rfl, rfl, _, rfl, ?_⟩
      refine iteF ?_
      obtain ⟨ms1, e1, g1⟩ := cut_int ns none (some at_)
      obtain ⟨ms2, e2, g2⟩ := cut_int ns (some (at_ + 1)) (some (-1))
      refine ⟨_, rfl, _, rfl, _, rfl, b, _, rfl, SqL.of hb4, fun q1 n1 => ⟨_, rfl, (by show 1 ≤ sizeLine; decide), fun q2 n2 => ?_⟩⟩
      rw [e1] at *
      have s1 := same_new (o := .lst (ms1.map V.int)) n1
      have s2 := same_new (o := .lst [V.int far]) n2
      refine ⟨q1, q2, _, _, rfl, rfl, s2 _ _ upd_same, upd_same, (by rw [List.length_map]; exact Nat.le_of_lt (small1000 (n := ms1.length + 1) (by omega))), fun q3 n3 => ?_⟩
      have s3 := same_new (o := .lst (ms1.map V.int ++ [V.int far])) n3
      refine ⟨_, rfl, _, rfl, _, _, rfl, rfl, _, rfl, _, rfl, _, rfl, b, _, rfl, SqL.of ((s1.trans (s2.trans s3)) _ _ hb4), fun q4 n4 => ?_⟩
      rw [e2]
      have s4 := same_new (o := .lst (ms2.map V.int)) n4
      refine ⟨q3, q4, _, _, rfl, rfl, s4 _ _ upd_same, upd_same, (by rw [List.length_append, List.length_map, List.length_map]; exact Nat.le_of_lt (small1000 (n := ms1.length + 1 + ms2.length) (by omega))), fun q5 n5 => ⟨(by show 1 ≤ sizeLine; decide), fun q6 n6 => ?_⟩⟩
      have s5 := same_new (o := .lst (ms1.map V.int ++ [V.int far] ++ ms2.map V.int)) n5
      have s6 := same_new (o := .lst [V.int 2]) n6
      refine ⟨q5, q6, _, _, rfl, rfl, s6 _ _ upd_same, upd_same, (by simp only [List.length_append, List.length_map]; exact Nat.le_of_lt (small1000 (n := ms1.length + 1 + ms2.length + 1) (by omega))), fun q7 n7 => ?_⟩
      have S := (s1.trans (s2.trans (s3.trans s4))).trans (s5.trans s6)
      have := fin _ q7 (ms1 ++ [far] ++ ms2 ++ [2]) _ (X4.same1 S) (P4.same S) (by omega) n7 (by simp; omega)
      rw [List.map_append, List.map_append, List.map_append] at this
      exact this
end
end My

namespace My
open PySem PySem.Spec PyProof.Rows L2
mutual
theorem Dp.mono' {K : PySem.W.Frag} {H H' : Hp} (s : Same H H') : ∀ {v : V} {d : PyData}, Dp K H v d → Dp K H' v d
  | _, _, .non => .non
  | _, _, .bl b => .bl b
  | _, _, .int i => .int i
  | _, _, .str x => .str x
  | _, _, .lst h r => .lst (s.seq h) (DpAll.mono' s r)
  | _, _, .tup h r => .tup (Same.seqT s h) (DpAll.mono' s r)
theorem DpAll.mono' {K : PySem.W.Frag} {H H' : Hp} (s : Same H H') : ∀ {vs : List V} {ds : List PyData}, DpAll K H vs ds → DpAll K H' vs ds
  | _, _, .nil => .nil
  | _, _, .cons r t => .cons (Dp.mono' s r) (DpAll.mono' s t)
end
end My
namespace L2
theorem Dp.mono' {K : PySem.W.Frag} {H H' : Hp} (s : Same H H') {v : V} {d : PySem.PyData} (h : Dp K H v d) : Dp K H' v d := My.Dp.mono' s h
end L2

namespace My
open PySem PySem.Spec PyProof.Rows L2
open C8 (Cal pe_c pe_gc)
/-! ### what the law compares -/
def dAt : Option Nat → PyData
  | some k => .int (k : Nat)
  | none => .none
theorem dpAt {K : PySem.W.Frag} {H : Hp} (o : Option Nat) : Dp K H (atV o) (dAt o) := by
  cases o with
  | none => exact .non
  | some k => exact .int _
def dCaught (r : Option Nat × Option Nat) : PyData := .list [dInts (kindsOf r.1), dAt r.2]
theorem shCaught (r : Option Nat × Option Nat) : SeqAt.shaped (dCaught r) = true := by
  obtain ⟨j, o⟩ := r
  unfold SeqAt.shaped dCaught
  have h := canInts (kindsOf j)
  have a1 : PyData.canLay0 (dAt o) = true := by cases o <;> rfl
  have a2 : PyData.depth (dAt o) ≤ 1 := by cases o <;> (unfold dAt PyData.depth; omega)
  have d1 : PyData.depth (dInts (kindsOf j)) ≤ 2 := by
    show PyData.depthAll _ + 1 ≤ 2
    omega
  have d : PyData.depth (.list [dInts (kindsOf j), dAt o]) ≤ 64 := by
    show max (PyData.depth (dInts (kindsOf j))) (max (PyData.depth (dAt o)) 0) + 1 ≤ 64
    omega
  have c : PyData.canLay0 (.list [dInts (kindsOf j), dAt o]) = true := by
    show (PyData.canLay0 (dInts (kindsOf j)) && (PyData.canLay0 (dAt o) && true)) = true
    rw [a1, show PyData.canLay0 (dInts (kindsOf j)) = true from h.1]; rfl
  rw [c, decide_eq_true d]; rfl
theorem eqCaught (r : Option Nat × Option Nat) : PyData.eqv (dCaught r) (dCaught r) = true := SeqAt.eqv_refl _ (SeqAt.canLay_of_shaped (shCaught r))
theorem dpCaught {K : PySem.W.Frag} {H : Hp} {p kl : Addr} {r : Option Nat × Option Nat} (h : H p = some (.lst [.ref kl, atV r.2])) (h2 : H kl = some (.lst ((kindsOf r.1).map V.int))) : Dp K H (.ref p) (dCaught r) :=
  .lst (SqL.of h) (.cons (dpInts (SqL.of h2)) (.cons (dpAt r.2) .nil))
section
variable {c : Cs} {CH : Addr} {P : Program} {w : World} {K : PySem.W.Frag} {mg : Str → Option Value} {base : Heap}
abbrev s_law : Stmt := top 82
abbrev N_law : List Str := ["_law_script", "_law_cell", "_law_purse_here", "_law_poly_here", "_law_some", "_law_one", "_law_kept", "_law_way", "_law_good", "_law_at_here", "_law_value", "_law_due"]
abbrev P_law : List Str := ["_law_script"]
theorem sc_law : FnScope N_law ["_law_script"] (defScope s_law) := ⟨rfl, rfl, rfl, by decide +kernel, rfl, by decide +kernel, by decide +kernel⟩

def spLaw (K : PySem.W.Frag) : Sp := fun vs H Q _ => ∃ (a : Addr) (ns : List Int), vs = [.ref a] ∧ SqL K H a (ns.map V.int) ∧ ns.length ≤ 63 ∧ ∀ H', Q (.bl true) H'
theorem ok_law (T : Txt K mg c) {f : Addr} {fd : FuncData} (F : L2.Fun K "law" "law" s_law f fd) (h_Lpurse : Cal P w K mg base 2 "_law_purse" (sp_Lpurse K) []) (h_Lpoly : Cal P w K mg base 4 "_law_poly" sp_Lpoly []) (h_Lbent : Cal P w K mg base 3 "_law_bent" sp_Lbent [])
    (h_Lfault : Cal P w K mg base 3 "_law_fault" (sp_Lfault K) []) (h_Lcaught : Cal P w K mg base 7 "_law_caught" (sp_Lcaught K) []) : FnOk P w K mg base CX0 8 f fd ["_law_script"] (spLaw K) := by
  refine F.ok sc_law (fun vs H Q E h => ?_) (fun cdv A outer s H vs Q E hr h => ?_)
  · obtain ⟨a, ns, rfl, _⟩ := h
    rfl
  · obtain ⟨a, ns, rfl, hS, _, k⟩ := h
    refine ⟨_, (pss_cons (ps_for PassesOwn.never rfl (pi_range1 rfl T.z_range (pa_cons pe_int pa_nil)) (pg_name (i := 1) sc_law.nd rfl (by first | exact Or.inl rfl | exact Or.inr rfl)) (pss_cons (ps_set (i := 2) sc_law.nd rfl (by first | exact Or.inl rfl | exact Or.inr rfl) (pe_c h_Lpurse hr (by decide) rfl (pa_cons (pv 0) (pa_cons (pv 1) pa_nil))))
      (pss_cons (ps_set (i := 3) sc_law.nd rfl (by first | exact Or.inl rfl | exact Or.inr rfl) (pe_c h_Lpoly hr (by decide) rfl (pa_cons (pv 2) pa_nil)))
      (pss_cons (ps_set (i := 4) sc_law.nd rfl (by first | exact Or.inl rfl | exact Or.inr rfl) (pe_op op_cat (pe_lst (pa_cons (pv 3) pa_nil)) (pe_lc (own := [("_law_way", 7)]) (g := gName 7) (by rfl) sc_law.nd (pi_range1 rfl T.z_range (pa_cons pe_int pa_nil)) (blkOk_by (own := [("_law_way", 7)]) (N := N_law) (sc := defScope s_law) (by decide +kernel)) (fun _ _ _ _ _ => (pg_name (i := 7) sc_law.nd rfl (by first | exact Or.inl rfl | exact Or.inr rfl))) (fun _ _ _ _ _ => pts_nil) (fun _ _ _ _ _ => (pe_c h_Lbent hr (by decide) rfl (pa_cons (pv 2) (pa_cons (pv 3) (pa_cons (pv 7) pa_nil))))))))
      (pss_one (ps_for PassesOwn.never rfl (pi_list (pv 4)) (pg_name (i := 5) sc_law.nd rfl (by first | exact Or.inl rfl | exact Or.inr rfl)) (pss_cons (ps_asg (pe_c h_Lfault hr (by decide) rfl (pa_cons (pv 5) pa_nil)) (pg_unl rfl (pgs_cons (pg_name (i := 8) sc_law.nd rfl (by first | exact Or.inl rfl | exact Or.inr rfl)) (pgs_cons (pg_name (i := 9) sc_law.nd rfl (by first | exact Or.inl rfl | exact Or.inr rfl)) pgs_nil))))
      (pss_cons (ps_set (i := 6) sc_law.nd rfl (by first | exact Or.inl rfl | exact Or.inr rfl) (pe_callTy call_list_of (by rfl) T.z_list (by decide +kernel) (pa_cons (pv 5) pa_nil)))
      (pss_one (ps_for PassesOwn.never rfl (pi_range1 rfl T.z_range (pa_cons pe_int pa_nil)) (pg_name (i := 7) sc_law.nd rfl (by first | exact Or.inl rfl | exact Or.inr rfl)) (pss_one (ps_for PassesOwn.never rfl (pi_list (pe_lst (pa_cons (pe_tup (pa_cons pe_int (pa_cons pe_int pa_nil))) (pa_cons (pe_tup (pa_cons (pe_un un_neg pe_int) (pa_cons (pe_un un_neg pe_int) pa_nil))) (pa_cons (pe_tup (pa_cons pe_int (pa_cons pe_int pa_nil))) pa_nil))))) (pg_name (i := 10) sc_law.nd rfl (by first | exact Or.inl rfl | exact Or.inr rfl)) (pss_cons (ps_set (i := 11) sc_law.nd rfl (by first | exact Or.inl rfl | exact Or.inr rfl) (pe_ix ix_list (pe_lst (pa_cons (pe_lst (pa_cons (pe_lst (pa_cons pe_int pa_nil)) (pa_cons (pv 9) pa_nil))) (pa_cons (pe_lst (pa_cons (pe_ix ix_list (pe_lst (pa_cons (pe_lst pa_nil) (pa_cons (pe_lst (pa_cons pe_int pa_nil)) pa_nil))) (pe_callTy call_int1 (by rfl) T.z_int (by decide +kernel) (pa_cons (pe_and (pe_cmpR op_gt (pv 7) pe_int (nomark _)) (pe_one (pe_cmpR op_eq (pe_ix ix_tup (pv 10) pe_int (fun _ _ => rfl)) pe_int (nomark _)))) pa_nil)) (fun _ _ => rfl)) (pa_cons pe_non pa_nil))) pa_nil))) (pe_callTy call_int1 (by rfl) T.z_int (by decide +kernel) (pa_cons (pv 8) pa_nil)) (fun _ _ => rfl)))
      (pss_one (ps_if (PW.pt (pw_or (pt_cmpR (op_neD hr.units) (pe_c h_Lcaught hr (by decide) rfl (pa_cons (pv 7) (pa_cons (pv 5) (pa_cons (pv 10) pa_nil)))) (pv 11) (nomark _)) (pw_or1 (pt_cmpR (op_neD hr.units) (pv 5) (pv 6) (nomark _))))) (pss_one (ps_ret pe_bl)) pss_nil)))))))))))))))
      (pss_one (ps_ret pe_bl))), ?_⟩
    refine ⟨6, rfl, by decide, by decide, for_range (lo := 0) (n := 6) (fun i σ H' => (∃ o1 o2 o3 o4 o5 o6 o7 o8 o9 o10 o11 : Option V, σ = [some (.ref a), o1, o2, o3, o4, o5, o6, o7, o8, o9, o10, o11]) ∧ Same H H') ⟨⟨_, _, _, _, _, _, _, _, _, _, _, rfl⟩, Same.refl H⟩ ?_ ?_⟩
    · rintro i σ H0 hi ⟨⟨o1, o2, o3, o4, o5, o6, o7, o8, o9, o10, o11, rfl⟩, s0⟩
      refine ⟨_, rfl, _, rfl, a, ns, i, by rw [Int.zero_add]; rfl, s0.seq hS, by omega, fun H1 pu s1 hpu0 hpu => ?_⟩
      refine ⟨_, rfl, pu, _, rfl, hpu, by omega, fun H2 pl ps x2 hp2 npl hpl0 hpl G => ?_⟩
      refine ⟨_, rfl, (by show 1 ≤ sizeLine; decide), fun q1 n1 => ?_⟩
      have s3 := same_new (o := .lst [V.ref pl]) n1
      have hp3 := hp2.same s3
      obtain ⟨Hq, eHq⟩ : ∃ Hq, Hq = upd H2 q1 (.lst [V.ref pl]) := ⟨_, rfl⟩
      rw [← eHq] at s3 hp3 ⊢
      have hq1 : Hq q1 = some (.lst [V.ref pl]) := by rw [eHq]; exact upd_same
      have x03 : Xt pu H1 Hq := x2.same1 s3
      refine ⟨7, rfl, by decide, by decide, fun D hD => ?_⟩
      obtain ⟨op, hop⟩ := hp3.at
      have nD : D ≠ pu := (ne_of_none hop hD).symm
      have nq1 : q1 ≠ pu := by
        obtain ⟨op2, hop2⟩ := hp2.at
        exact (ne_of_none hop2 n1).symm
      refine lc_range (lo := 0) (n := 7) (fun j H' => ∃ bs : List (Addr × List Int), bs.length = j ∧ H' D = some (.lst (bs.map fun b => V.ref b.1)) ∧ (∀ b ∈ bs, H' b.1 = some (.lst (b.2.map V.int)) ∧ b.1 ≠ pu ∧ b.1 ≠ D) ∧ Xt pu Hq H' ∧ Pur H' pu (1000 * i + 300 + 400 * j)) ⟨[], rfl, upd_same, (fun b hb => nomatch hb), (Xt.of (same_new hD)), hp3.same (same_new hD)⟩ ?_ ?_
      · rintro j H' hj ⟨bs, hbs, hD', hb, x4, hp4⟩
        refine ⟨rfl, ?_⟩
        refine ⟨_, rfl, _, rfl, _, rfl, pu, pl, ps, j, _, by rw [Int.zero_add]; rfl, hp4, by omega, x4 _ _ npl (s3 _ _ hpl), G.l2, G.l5, by omega, npl, fun H'' q ms x5 hp5 nq hq0 hq hl => ?_⟩
        have nqD : q ≠ D := (ne_of_none hD' hq0).symm
        refine ⟨bs.map fun b => V.ref b.1, x5 _ _ nD hD', by rw [List.length_map]; exact small1000 (by omega), ?_⟩
        refine ⟨bs ++ [(q, ms)], by rw [List.length_append, hbs]; rfl, ?_, ?_, ?_, ?_⟩
        · rw [upd_same, List.map_append]; rfl
        · intro b hb2
          rcases List.mem_append.mp hb2 with h1 | h1
          · obtain ⟨h2, h3, h4⟩ := hb b h1
            exact ⟨by rw [upd_ne h4]; exact x5 _ _ h3 h2, h3, h4⟩
          · have e : b = (q, ms) := by simpa using h1
            subst e
            exact ⟨by rw [upd_ne nqD]; exact hq, nq, nqD⟩
        · exact (x4.trans x5).updNew hD
        · exact (hp5.updNe nD).mono (by omega)
      · rintro H3 ⟨bs, hbs, hD', hb, x4, hp4⟩
        refine ⟨q1, D, _, _, rfl, rfl, x4 _ _ nq1 hq1, hD', (by rw [List.length_map]; exact Nat.le_of_lt (small1000 (n := 1 + bs.length) (by omega))), fun sl hsl => ?_⟩
        have s4 := same_new (o := .lst ([V.ref pl] ++ bs.map fun b => V.ref b.1)) hsl
        obtain ⟨H4, eH4⟩ : ∃ H4, H4 = upd H3 sl (.lst ([V.ref pl] ++ bs.map fun b => V.ref b.1)) := ⟨_, rfl⟩
        rw [← eH4] at s4 ⊢
        have hsl4 : H4 sl = some (.lst (((pl, ps) :: bs).map fun b => V.ref b.1)) := by rw [eH4]; exact upd_same
        have all : ∀ b ∈ ((pl, ps) :: bs), H4 b.1 = some (.lst (b.2.map V.int)) := fun b hb2 => by
          rcases List.mem_cons.mp hb2 with h1 | h1
          · subst h1; exact s4 _ _ (x4 _ _ npl (s3 _ _ hpl))
          · exact s4 _ _ (hb b h1).1
        have S04 : Same H H4 := (s0.trans (Xt.back s1 ((x03.trans x4).same1 s4) hpu0))
        refine ⟨_, rfl, sl, rfl, ⟨_, SqL.of hsl4⟩, for_list (K := K) (a := sl) (xs := ((pl, ps) :: bs).map fun b => V.ref b.1) (fun j σ H' => (∃ o5 o6 o7 o8 o9 o10 o11 : Option V, ∃ v1, σ = [some (.ref a), v1, some (.ref pu), some (.ref pl), some (.ref sl), o5, o6, o7, o8, o9, o10, o11]) ∧ Same H4 H') ⟨⟨_, _, _, _, _, _, _, _, rfl⟩, Same.refl _⟩ (fun _ _ _ _ h => SqL.of (h.2 _ _ hsl4)) ?_ ?_⟩
        · rintro j x σ H5 hj ⟨⟨o5, o6, o7, o8, o9, o10, o11, v1, rfl⟩, s5⟩
          obtain ⟨b, hbm, rfl⟩ : ∃ b, b ∈ ((pl, ps) :: bs) ∧ x = V.ref b.1 := by
            rw [List.getElem?_map] at hj
            cases e : ((pl, ps) :: bs)[j]? with
            | none => rw [e] at hj; cases hj
            | some b => rw [e] at hj; exact ⟨b, List.mem_of_getElem? e, (Option.some.inj hj).symm⟩
          obtain ⟨q, ms⟩ := b
          have hq5 := s5 _ _ (all _ hbm)
          refine ⟨_, rfl, q, ms, rfl, SqL.of hq5, fun H6 fp s6 nfp hfp => ?_⟩
          refine ⟨fp, _, rfl, SqL.of hfp, rfl, _, _, rfl, _, _, rfl, rfl, ?_⟩
          have hq6 := s6 _ _ hq5
          refine ⟨_, rfl, q, _, rfl, .inl (SqL.of hq6), fun kp nk => ?_⟩
          have s7 := same_new (o := .lst (ms.map V.int)) nk
          have hkp : upd H6 kp (.lst (ms.map V.int)) kp = some (.lst (ms.map V.int)) := upd_same
          have hq7 := s7 _ _ hq6
          have s47 := (s5.trans s6).trans s7
          obtain ⟨H7, eH7⟩ : ∃ H7, H7 = upd H6 kp (.lst (ms.map V.int)) := ⟨_, rfl⟩
          rw [← eH7] at hkp hq7 s47 ⊢
          refine ⟨4, rfl, by decide, by decide, for_range (lo := 0) (n := 4) (fun w_ σ H' => (∃ o7 o10 o11 : Option V, σ = [some (.ref a), v1, some (.ref pu), some (.ref pl), some (.ref sl), some (.ref q), some (.ref kp), o7, some (.bl (faultOf ms).1), some (atV (faultOf ms).2), o10, o11]) ∧ Same H7 H') ⟨⟨_, _, _, rfl⟩, Same.refl _⟩ ?_ ?_⟩
          · rintro way σ H8 hway ⟨⟨o7, o10, o11, rfl⟩, s8⟩
            refine ⟨sz2, fun t1 nt1 => ⟨_, rfl, _, rfl, sz2, fun t2 nt2 => ⟨sz2, fun t3 nt3 => ⟨sz3, fun l nl => ?_⟩⟩⟩⟩
            have u1 := same_new (o := .tup (frV (3, 2))) nt1
            have u2 := same_new (o := .tup (frV (-4, -6))) nt2
            have u3 := same_new (o := .tup (frV (1, 0))) nt3
            have u4 := same_new (o := .lst [V.ref t1, V.ref t2, V.ref t3]) nl
            have f1 := (u2.trans (u3.trans u4)) _ _ upd_same
            have f2 := (u3.trans u4) _ _ upd_same
            have f3 := u4 _ _ upd_same
            have S9 := s8.trans ((u1.trans u2).trans (u3.trans u4))
            rw [Int.zero_add]
            refine ⟨l, rfl, ⟨_, SqL.of upd_same⟩, for_list (K := K) (a := l) (xs := [V.ref t1, V.ref t2, V.ref t3]) (fun n σ H' => (∃ o10 o11 : Option V, σ = [some (.ref a), v1, some (.ref pu), some (.ref pl), some (.ref sl), some (.ref q), some (.ref kp), some (.int (way : Nat)), some (.bl (faultOf ms).1), some (atV (faultOf ms).2), o10, o11]) ∧ (H' t1 = some (.tup (frV (3, 2))) ∧ H' t2 = some (.tup (frV (-4, -6))) ∧ H' t3 = some (.tup (frV (1, 0))) ∧ H' l = some (.lst [V.ref t1, V.ref t2, V.ref t3]) ∧ Same H7 H')) ⟨⟨_, _, rfl⟩, f1, f2, f3, upd_same, S9⟩ (fun _ _ _ _ h => SqL.of h.2.2.2.2.1) ?_ ?_⟩
            · rintro n x σ H10 hn ⟨⟨o10, o11, rfl⟩, f1, f2, f3, fl, s10⟩
              obtain ⟨t, fq, rfl, ht, hz1, hz2⟩ : ∃ (t : Addr) (fq : Int × Int), x = V.ref t ∧ H10 t = some (.tup (frV fq)) ∧ Sz 300 fq.1 ∧ Sz 300 fq.2 := by
                rcases n with _ | _ | _ | n
                · exact ⟨t1, _, (Option.some.inj hn).symm, f1, (by show (3 : Int).natAbs < 2 ^ 300; decide), (by show (2 : Int).natAbs < 2 ^ 300; decide)⟩
                · exact ⟨t2, _, (Option.some.inj hn).symm, f2, (by show (-4 : Int).natAbs < 2 ^ 300; decide), (by show (-6 : Int).natAbs < 2 ^ 300; decide)⟩
                · exact ⟨t3, _, (Option.some.inj hn).symm, f3, (by show (1 : Int).natAbs < 2 ^ 300; decide), (by show (0 : Int).natAbs < 2 ^ 300; decide)⟩
                · simp at hn
              have hq10 : H10 q = some (.lst (ms.map V.int)) := s10 _ _ hq7
              have hk10 : H10 kp = some (.lst (ms.map V.int)) := s10 _ _ hkp
              -- behind due
              have tail : ∀ (H11 : Hp) (dv : V), Same H10 H11 → Dp K H11 dv (dCaught (caughtOf ms way fq.2)) →
                  tIfS (tOr (tTest (tOp (rNeD K) (tCall (sp_Lcaught K) [] C8.E0 (tCons (tVar 7) (tCons (tVar 5) (tCons (tVar 10) tNil)))) (tVar 11))) (tTest (tOp (rNeD K) (tVar 5) (tVar 6)))) (tRet (tC (V.bl false))) tNext
                    ({ nx := fun σ' H' => (∃ o10 o11 : Option V, σ' = [some (.ref a), v1, some (.ref pu), some (.ref pl), some (.ref sl), some (.ref q), some (.ref kp), some (.int (way : Nat)), some (.bl (faultOf ms).1), some (atV (faultOf ms).2), o10, o11]) ∧ (H' t1 = some (.tup (frV (3, 2))) ∧ H' t2 = some (.tup (frV (-4, -6))) ∧ H' t3 = some (.tup (frV (1, 0))) ∧ H' l = some (.lst [V.ref t1, V.ref t2, V.ref t3]) ∧ Same H7 H'), rt := Q,
                       ct := fun σ' H' => (∃ o10 o11 : Option V, σ' = [some (.ref a), v1, some (.ref pu), some (.ref pl), some (.ref sl), some (.ref q), some (.ref kp), some (.int (way : Nat)), some (.bl (faultOf ms).1), some (atV (faultOf ms).2), o10, o11]) ∧ (H' t1 = some (.tup (frV (3, 2))) ∧ H' t2 = some (.tup (frV (-4, -6))) ∧ H' t3 = some (.tup (frV (1, 0))) ∧ H' l = some (.lst [V.ref t1, V.ref t2, V.ref t3]) ∧ Same H7 H'),
                       bk := fun σ' H' => (∃ o7 o10 o11 : Option V, σ' = [some (.ref a), v1, some (.ref pu), some (.ref pl), some (.ref sl), some (.ref q), some (.ref kp), o7, some (.bl (faultOf ms).1), some (atV (faultOf ms).2), o10, o11]) ∧ Same H7 H' } : Ends)
                    [some (.ref a), v1, some (.ref pu), some (.ref pl), some (.ref sl), some (.ref q), some (.ref kp), some (.int (way : Nat)), some (.bl (faultOf ms).1), some (atV (faultOf ms).2), some (.ref t), some dv] H11 := by
                intro H11 dv s11 dd
                refine ⟨_, rfl, _, rfl, _, rfl, way, q, .ref t, ms, fq, rfl, hway, SqL.of (s11 _ _ hq10), ⟨t, rfl, s11 _ _ ht⟩, hz1, hz2, fun H12 p kl s12 hp12 hkl => ?_⟩
                refine ⟨_, rfl, dCaught (caughtOf ms way fq.2), dCaught (caughtOf ms way fq.2), dpCaught hp12 hkl, dd.mono' s12, shCaught _, shCaught _, _, rfl, ?_⟩
                rw [eqCaught]
                refine ite2 (fun hc => nomatch hc) (fun _ => ?_)
                refine ⟨_, rfl, _, rfl, dInts ms, dInts ms, dpInts (SqL.of ((s11.trans s12) _ _ hq10)), dpInts (SqL.of ((s11.trans s12) _ _ hk10)), shInts _, shInts _, _, rfl, ?_⟩
                rw [eqInts]
                refine ite2 (fun hc => nomatch hc) (fun _ => ?_)
                have s := s11.trans s12
                exact ⟨⟨_, _, rfl⟩, s _ _ f1, s _ _ f2, s _ _ f3, s _ _ fl, s10.trans s⟩
              have cg : (faultOf ms).1 = false → caughtOf ms way fq.2 = (some 0, (faultOf ms).2) := fun g => if_pos g
              have c13 : (faultOf ms).1 = true → 1 < way → fq.2 = 0 → caughtOf ms way fq.2 = (some 13, none) := fun g w_ z => by
                unfold caughtOf
                rw [if_neg (by rw [g]; decide), if_pos ⟨w_, z⟩]
              have cn : (faultOf ms).1 = true → ¬ (1 < way ∧ fq.2 = 0) → caughtOf ms way fq.2 = (none, none) := fun g n_ => by
                unfold caughtOf
                rw [if_neg (by rw [g]; decide), if_neg n_]
              refine ⟨(by show 1 ≤ sizeLine; decide), fun r1 m1 => ⟨_, rfl, sz2, fun r2 m2 => ⟨(by show 0 ≤ sizeLine; decide), fun r3 m3 => ⟨(by show 1 ≤ sizeLine; decide), fun r4 m4 => ⟨sz2, fun r5 m5 => ?_⟩⟩⟩⟩⟩
              have w1 := same_new (o := .lst ([0].map V.int)) m1
              have w2 := same_new (o := .lst [V.ref r1, atV (faultOf ms).2]) m2
              have w3 := same_new (o := .lst (([] : List Int).map V.int)) m3
              have w4 := same_new (o := .lst ([13].map V.int)) m4
              have w5 := same_new (o := .lst [V.ref r3, V.ref r4]) m5
              have W5 := (w1.trans w2).trans (w3.trans (w4.trans w5))
              refine ⟨_, rfl, _, _, rfl, rfl, _, rfl, ?_⟩
              refine ite2 (fun hc => ?_) (fun hc => ?_)
              · have hw1 : 1 < way := by have := of_decide_eq_true hc; omega
                refine ⟨_, rfl, t, _, _, _, rfl, rfl, SqT.of (W5 _ _ ht), rfl, rfl, .inr ⟨_, rfl, ?_⟩⟩
                by_cases hz : fq.2 = 0
                · have e1 : decide (V.int fq.2 = V.int 0) = true := decide_eq_true (by rw [hz])
                  refine ⟨r5, _, _, .ref r4, rfl, rfl, SqL.of upd_same, by rw [e1]; rfl, sz2, fun r6 m6 => ⟨sz2, fun r7 m7 => ?_⟩⟩
                  have w6 := same_new (o := .lst [V.ref r4, V.non]) m6
                  have w7 := same_new (o := .lst [V.ref r2, V.ref r6]) m7
                  have S7 := W5.trans (w6.trans w7)
                  refine ⟨_, rfl, .inr ⟨_, rfl, ?_⟩⟩
                  rcases Bool.eq_false_or_eq_true (faultOf ms).1 with hg | hg
                  · refine ⟨r7, _, _, .ref r6, rfl, rfl, SqL.of upd_same, by rw [hg]; rfl, tail _ (.ref r6) S7 ?_⟩
                    rw [c13 hg hw1 hz]
                    exact dpCaught (r := (some 13, none)) (kl := r4) (w7 _ _ upd_same) ((w6.trans w7) _ _ (w5 _ _ upd_same))
                  · refine ⟨r7, _, _, .ref r2, rfl, rfl, SqL.of upd_same, by rw [hg]; rfl, tail _ (.ref r2) S7 ?_⟩
                    rw [cg hg]
                    exact dpCaught (r := (some 0, (faultOf ms).2)) (kl := r1) (((w3.trans (w4.trans w5)).trans (w6.trans w7)) _ _ upd_same) (((w2.trans (w3.trans (w4.trans w5))).trans (w6.trans w7)) _ _ upd_same)
                · have e1 : decide (V.int fq.2 = V.int 0) = false := decide_eq_false (fun z => hz (by injection z))
                  refine ⟨r5, _, _, .ref r3, rfl, rfl, SqL.of upd_same, by rw [e1]; rfl, sz2, fun r6 m6 => ⟨sz2, fun r7 m7 => ?_⟩⟩
                  have w6 := same_new (o := .lst [V.ref r3, V.non]) m6
                  have w7 := same_new (o := .lst [V.ref r2, V.ref r6]) m7
                  have S7 := W5.trans (w6.trans w7)
                  refine ⟨_, rfl, .inr ⟨_, rfl, ?_⟩⟩
                  rcases Bool.eq_false_or_eq_true (faultOf ms).1 with hg | hg
                  · refine ⟨r7, _, _, .ref r6, rfl, rfl, SqL.of upd_same, by rw [hg]; rfl, tail _ (.ref r6) S7 ?_⟩
                    rw [cn hg (fun z => hz z.2)]
                    exact dpCaught (r := (none, none)) (kl := r3) (w7 _ _ upd_same) ((w6.trans w7) _ _ ((w4.trans w5) _ _ upd_same))
                  · refine ⟨r7, _, _, .ref r2, rfl, rfl, SqL.of upd_same, by rw [hg]; rfl, tail _ (.ref r2) S7 ?_⟩
                    rw [cg hg]
                    exact dpCaught (r := (some 0, (faultOf ms).2)) (kl := r1) (((w3.trans (w4.trans w5)).trans (w6.trans w7)) _ _ upd_same) (((w2.trans (w3.trans (w4.trans w5))).trans (w6.trans w7)) _ _ upd_same)
              · have hw1 : ¬ 1 < way := fun z => hc (decide_eq_true (by omega))
                refine .inr ⟨_, rfl, ?_⟩
                refine ⟨r5, _, _, .ref r3, rfl, rfl, SqL.of upd_same, rfl, sz2, fun r6 m6 => ⟨sz2, fun r7 m7 => ?_⟩⟩
                have w6 := same_new (o := .lst [V.ref r3, V.non]) m6
                have w7 := same_new (o := .lst [V.ref r2, V.ref r6]) m7
                have S7 := W5.trans (w6.trans w7)
                refine ⟨_, rfl, .inr ⟨_, rfl, ?_⟩⟩
                rcases Bool.eq_false_or_eq_true (faultOf ms).1 with hg | hg
                · refine ⟨r7, _, _, .ref r6, rfl, rfl, SqL.of upd_same, by rw [hg]; rfl, tail _ (.ref r6) S7 ?_⟩
                  rw [cn hg (fun z => hw1 z.1)]
                  exact dpCaught (r := (none, none)) (kl := r3) (w7 _ _ upd_same) ((w6.trans w7) _ _ ((w4.trans w5) _ _ upd_same))
                · refine ⟨r7, _, _, .ref r2, rfl, rfl, SqL.of upd_same, by rw [hg]; rfl, tail _ (.ref r2) S7 ?_⟩
                  rw [cg hg]
                  exact dpCaught (r := (some 0, (faultOf ms).2)) (kl := r1) (((w3.trans (w4.trans w5)).trans (w6.trans w7)) _ _ upd_same) (((w2.trans (w3.trans (w4.trans w5))).trans (w6.trans w7)) _ _ upd_same)
            · rintro σ H10 ⟨⟨o10, o11, rfl⟩, f1, f2, f3, fl, s10⟩
              exact ⟨⟨_, _, _, rfl⟩, s10⟩
          · rintro σ H8 ⟨⟨o7, o10, o11, rfl⟩, s8⟩
            exact ⟨⟨_, _, _, _, _, _, _, _, rfl⟩, s47.trans s8⟩
        · rintro σ H5 ⟨⟨o5, o6, o7, o8, o9, o10, o11, v1, rfl⟩, s5⟩
          exact ⟨⟨_, _, _, _, _, _, _, _, _, _, _, rfl⟩, S04.trans s5⟩
    · rintro σ H' ⟨⟨o1, o2, o3, o4, o5, o6, o7, o8, o9, o10, o11, rfl⟩, s0⟩
      exact k _
end
end My

namespace My
open PySem PySem.Spec PyProof.Rows L2
open C8 (Cal pe_c pe_gc)
theorem all_mk {l : PySem.W.OpenLaw} {w : World} {K : PySem.W.Frag} {h : Heap} {mg : Str → Option Value} {fa : Addr} (X : K.In h) (G : h.Ns mainGlobals mg) (hfa : mg "law" = some (.ref fa))
    {C_RootError C_NoPoly C_NoHouse C_NoLetter C_NoCount C_NoMove C_NoWord C_Full C_NoDeed C_NoText C_NoLine C_NoOver C_NoName C_Twice C_NoNumber : Addr}
    {C_House : Addr} (a_House : PySem.W.nsIn K mainGlobals "House" = some (some (.ref C_House))) (pg_House : PySem.W.plainGet K C_House Str.empty = true) (hd_House : PySem.W.hasDictIn K C_House = true) (po_House : PySem.W.plainOver K C_House = true) (sa_House : PySem.W.findIn K (.ref C_House) "__setattr__" = some (some (.builtin "object.__setattr__"))) (mk_House : PySem.W.makesIn K C_House = true) (kc_House : PySem.W.keepIn K (.ref C_House) = true)
    (no_House_poly : PySem.W.findIn K (.ref C_House) "poly" = some none)
    (no_House_rows : PySem.W.findIn K (.ref C_House) "rows" = some none)
    (no_House_ways : PySem.W.findIn K (.ref C_House) "ways" = some none)
    (no_House_known : PySem.W.findIn K (.ref C_House) "known" = some none)
    (no_House_moved : PySem.W.findIn K (.ref C_House) "moved" = some none)
    {f0 : Addr} {od0 an0 : Option Addr} {sl0 : Array (Option Value)} {oc0 kV0 dc0 pm0 cd0 ct0 : Value}
    (a0 : PySem.W.nsIn K mainGlobals "divisor" = some (some (.ref f0))) (l0 : K.lookup f0 = some ⟨oc0, od0, .func (PySem.W.fnOf "divisor" "divisor" (defArgs s_divisor) (defBody s_divisor) (defScope s_divisor) .none kV0 dc0 pm0 an0 cd0 ct0), sl0⟩) (c0 : PySem.W.codeIn K cd0 "divisor" = true) (k0 : PySem.W.keepIn K (.ref f0) = true)
    {f1 : Addr} {od1 an1 : Option Addr} {sl1 : Array (Option Value)} {oc1 kV1 dc1 pm1 cd1 ct1 : Value}
    (a1 : PySem.W.nsIn K mainGlobals "lowest" = some (some (.ref f1))) (l1 : K.lookup f1 = some ⟨oc1, od1, .func (PySem.W.fnOf "lowest" "lowest" (defArgs s_lowest) (defBody s_lowest) (defScope s_lowest) .none kV1 dc1 pm1 an1 cd1 ct1), sl1⟩) (c1 : PySem.W.codeIn K cd1 "lowest" = true) (k1 : PySem.W.keepIn K (.ref f1) = true)
    {f2 : Addr} {od2 an2 : Option Addr} {sl2 : Array (Option Value)} {oc2 kV2 dc2 pm2 cd2 ct2 : Value}
    (a2 : PySem.W.nsIn K mainGlobals "plus_of" = some (some (.ref f2))) (l2 : K.lookup f2 = some ⟨oc2, od2, .func (PySem.W.fnOf "plus_of" "plus_of" (defArgs s_plus_of) (defBody s_plus_of) (defScope s_plus_of) .none kV2 dc2 pm2 an2 cd2 ct2), sl2⟩) (c2 : PySem.W.codeIn K cd2 "plus_of" = true) (k2 : PySem.W.keepIn K (.ref f2) = true)
    {f3 : Addr} {od3 an3 : Option Addr} {sl3 : Array (Option Value)} {oc3 kV3 dc3 pm3 cd3 ct3 : Value}
    (a3 : PySem.W.nsIn K mainGlobals "times_of" = some (some (.ref f3))) (l3 : K.lookup f3 = some ⟨oc3, od3, .func (PySem.W.fnOf "times_of" "times_of" (defArgs s_times_of) (defBody s_times_of) (defScope s_times_of) .none kV3 dc3 pm3 an3 cd3 ct3), sl3⟩) (c3 : PySem.W.codeIn K cd3 "times_of" = true) (k3 : PySem.W.keepIn K (.ref f3) = true)
    {f4 : Addr} {od4 an4 : Option Addr} {sl4 : Array (Option Value)} {oc4 kV4 dc4 pm4 cd4 ct4 : Value}
    (a4 : PySem.W.nsIn K mainGlobals "told_by" = some (some (.ref f4))) (l4 : K.lookup f4 = some ⟨oc4, od4, .func (PySem.W.fnOf "told_by" "told_by" (defArgs s_told_by) (defBody s_told_by) (defScope s_told_by) .none kV4 dc4 pm4 an4 cd4 ct4), sl4⟩) (c4 : PySem.W.codeIn K cd4 "told_by" = true) (k4 : PySem.W.keepIn K (.ref f4) = true)
    {f5 : Addr} {od5 an5 : Option Addr} {sl5 : Array (Option Value)} {oc5 kV5 dc5 pm5 cd5 ct5 : Value}
    (a5 : PySem.W.findIn K (.ref C_NoPoly) "__init__" = some (some (.ref f5))) (i5 : PySem.W.isFn K (.ref f5) = true) (y5 : PySem.W.typeIn K (.ref f5) = some (.type "function"))
    {dV5 : Value} {dT5 : Addr} {dn5 : Nat} {do5 : Obj}
    (l5 : K.lookup f5 = some ⟨oc5, od5, .func (PySem.W.fnOf "__init__" "NoPoly.__init__" (defArgs s_NoPoly_init) (defBody s_NoPoly_init) (defScope s_NoPoly_init) dV5 kV5 dc5 pm5 an5 cd5 ct5), sl5⟩) (c5 : PySem.W.codeIn K cd5 "NoPoly.__init__" = true) (k5 : PySem.W.keepIn K (.ref f5) = true)
    (e5 : dV5 = .ref dT5) (t5 : K.lookup dT5 = some do5) (u5 : do5.data = .seq #[.none] dn5)
    {f6 : Addr} {od6 an6 : Option Addr} {sl6 : Array (Option Value)} {oc6 kV6 dc6 pm6 cd6 ct6 : Value}
    (a6 : PySem.W.nsIn K mainGlobals "must_poly" = some (some (.ref f6))) (l6 : K.lookup f6 = some ⟨oc6, od6, .func (PySem.W.fnOf "must_poly" "must_poly" (defArgs s_must_poly) (defBody s_must_poly) (defScope s_must_poly) .none kV6 dc6 pm6 an6 cd6 ct6), sl6⟩) (c6 : PySem.W.codeIn K cd6 "must_poly" = true) (k6 : PySem.W.keepIn K (.ref f6) = true)
    {f7 : Addr} {od7 an7 : Option Addr} {sl7 : Array (Option Value)} {oc7 kV7 dc7 pm7 cd7 ct7 : Value}
    (a7 : PySem.W.nsIn K mainGlobals "must_fraction" = some (some (.ref f7))) (l7 : K.lookup f7 = some ⟨oc7, od7, .func (PySem.W.fnOf "must_fraction" "must_fraction" (defArgs s_must_fraction) (defBody s_must_fraction) (defScope s_must_fraction) .none kV7 dc7 pm7 an7 cd7 ct7), sl7⟩) (c7 : PySem.W.codeIn K cd7 "must_fraction" = true) (k7 : PySem.W.keepIn K (.ref f7) = true)
    {f8 : Addr} {od8 an8 : Option Addr} {sl8 : Array (Option Value)} {oc8 kV8 dc8 pm8 cd8 ct8 : Value}
    (a8 : PySem.W.nsIn K mainGlobals "worth" = some (some (.ref f8))) (l8 : K.lookup f8 = some ⟨oc8, od8, .func (PySem.W.fnOf "worth" "worth" (defArgs s_worth) (defBody s_worth) (defScope s_worth) .none kV8 dc8 pm8 an8 cd8 ct8), sl8⟩) (c8 : PySem.W.codeIn K cd8 "worth" = true) (k8 : PySem.W.keepIn K (.ref f8) = true)
    {f9 : Addr} {od9 an9 : Option Addr} {sl9 : Array (Option Value)} {oc9 kV9 dc9 pm9 cd9 ct9 : Value}
    (a9 : PySem.W.nsIn K mainGlobals "root_whole" = some (some (.ref f9))) (l9 : K.lookup f9 = some ⟨oc9, od9, .func (PySem.W.fnOf "root_whole" "root_whole" (defArgs s_root_whole) (defBody s_root_whole) (defScope s_root_whole) .none kV9 dc9 pm9 an9 cd9 ct9), sl9⟩) (c9 : PySem.W.codeIn K cd9 "root_whole" = true) (k9 : PySem.W.keepIn K (.ref f9) = true)
    {f10 : Addr} {od10 an10 : Option Addr} {sl10 : Array (Option Value)} {oc10 kV10 dc10 pm10 cd10 ct10 : Value}
    (a10 : PySem.W.nsIn K mainGlobals "bare_of" = some (some (.ref f10))) (l10 : K.lookup f10 = some ⟨oc10, od10, .func (PySem.W.fnOf "bare_of" "bare_of" (defArgs s_bare_of) (defBody s_bare_of) (defScope s_bare_of) .none kV10 dc10 pm10 an10 cd10 ct10), sl10⟩) (c10 : PySem.W.codeIn K cd10 "bare_of" = true) (k10 : PySem.W.keepIn K (.ref f10) = true)
    {f11 : Addr} {od11 an11 : Option Addr} {sl11 : Array (Option Value)} {oc11 kV11 dc11 pm11 cd11 ct11 : Value}
    (a11 : PySem.W.nsIn K mainGlobals "nought" = some (some (.ref f11))) (l11 : K.lookup f11 = some ⟨oc11, od11, .func (PySem.W.fnOf "nought" "nought" (defArgs s_nought) (defBody s_nought) (defScope s_nought) .none kV11 dc11 pm11 an11 cd11 ct11), sl11⟩) (c11 : PySem.W.codeIn K cd11 "nought" = true) (k11 : PySem.W.keepIn K (.ref f11) = true)
    {f12 : Addr} {od12 an12 : Option Addr} {sl12 : Array (Option Value)} {oc12 kV12 dc12 pm12 cd12 ct12 : Value}
    (a12 : PySem.W.nsIn K mainGlobals "whole_root" = some (some (.ref f12))) (l12 : K.lookup f12 = some ⟨oc12, od12, .func (PySem.W.fnOf "whole_root" "whole_root" (defArgs s_whole_root) (defBody s_whole_root) (defScope s_whole_root) .none kV12 dc12 pm12 an12 cd12 ct12), sl12⟩) (c12 : PySem.W.codeIn K cd12 "whole_root" = true) (k12 : PySem.W.keepIn K (.ref f12) = true)
    {f13 : Addr} {od13 an13 : Option Addr} {sl13 : Array (Option Value)} {oc13 kV13 dc13 pm13 cd13 ct13 : Value}
    (a13 : PySem.W.nsIn K mainGlobals "rows_by_two" = some (some (.ref f13))) (l13 : K.lookup f13 = some ⟨oc13, od13, .func (PySem.W.fnOf "rows_by_two" "rows_by_two" (defArgs s_rows_by_two) (defBody s_rows_by_two) (defScope s_rows_by_two) .none kV13 dc13 pm13 an13 cd13 ct13), sl13⟩) (c13 : PySem.W.codeIn K cd13 "rows_by_two" = true) (k13 : PySem.W.keepIn K (.ref f13) = true)
    {f14 : Addr} {od14 an14 : Option Addr} {sl14 : Array (Option Value)} {oc14 kV14 dc14 pm14 cd14 ct14 : Value}
    (a14 : PySem.W.nsIn K mainGlobals "left_by" = some (some (.ref f14))) (l14 : K.lookup f14 = some ⟨oc14, od14, .func (PySem.W.fnOf "left_by" "left_by" (defArgs s_left_by) (defBody s_left_by) (defScope s_left_by) .none kV14 dc14 pm14 an14 cd14 ct14), sl14⟩) (c14 : PySem.W.codeIn K cd14 "left_by" = true) (k14 : PySem.W.keepIn K (.ref f14) = true)
    {f15 : Addr} {od15 an15 : Option Addr} {sl15 : Array (Option Value)} {oc15 kV15 dc15 pm15 cd15 ct15 : Value}
    (a15 : PySem.W.nsIn K mainGlobals "halves" = some (some (.ref f15))) (l15 : K.lookup f15 = some ⟨oc15, od15, .func (PySem.W.fnOf "halves" "halves" (defArgs s_halves) (defBody s_halves) (defScope s_halves) .none kV15 dc15 pm15 an15 cd15 ct15), sl15⟩) (c15 : PySem.W.codeIn K cd15 "halves" = true) (k15 : PySem.W.keepIn K (.ref f15) = true)
    {f16 : Addr} {od16 an16 : Option Addr} {sl16 : Array (Option Value)} {oc16 kV16 dc16 pm16 cd16 ct16 : Value}
    (a16 : PySem.W.nsIn K mainGlobals "by_squares" = some (some (.ref f16))) (l16 : K.lookup f16 = some ⟨oc16, od16, .func (PySem.W.fnOf "by_squares" "by_squares" (defArgs s_by_squares) (defBody s_by_squares) (defScope s_by_squares) .none kV16 dc16 pm16 an16 cd16 ct16), sl16⟩) (c16 : PySem.W.codeIn K cd16 "by_squares" = true) (k16 : PySem.W.keepIn K (.ref f16) = true)
    {f17 : Addr} {od17 an17 : Option Addr} {sl17 : Array (Option Value)} {oc17 kV17 dc17 pm17 cd17 ct17 : Value}
    (a17 : PySem.W.nsIn K mainGlobals "root_within" = some (some (.ref f17))) (l17 : K.lookup f17 = some ⟨oc17, od17, .func (PySem.W.fnOf "root_within" "root_within" (defArgs s_root_within) (defBody s_root_within) (defScope s_root_within) .none kV17 dc17 pm17 an17 cd17 ct17), sl17⟩) (c17 : PySem.W.codeIn K cd17 "root_within" = true) (k17 : PySem.W.keepIn K (.ref f17) = true)
    {f18 : Addr} {od18 an18 : Option Addr} {sl18 : Array (Option Value)} {oc18 kV18 dc18 pm18 cd18 ct18 : Value}
    (a18 : PySem.W.nsIn K mainGlobals "rows_by_three" = some (some (.ref f18))) (l18 : K.lookup f18 = some ⟨oc18, od18, .func (PySem.W.fnOf "rows_by_three" "rows_by_three" (defArgs s_rows_by_three) (defBody s_rows_by_three) (defScope s_rows_by_three) .none kV18 dc18 pm18 an18 cd18 ct18), sl18⟩) (c18 : PySem.W.codeIn K cd18 "rows_by_three" = true) (k18 : PySem.W.keepIn K (.ref f18) = true)
    {f19 : Addr} {od19 an19 : Option Addr} {sl19 : Array (Option Value)} {oc19 kV19 dc19 pm19 cd19 ct19 : Value}
    (a19 : PySem.W.nsIn K mainGlobals "rows_by_four" = some (some (.ref f19))) (l19 : K.lookup f19 = some ⟨oc19, od19, .func (PySem.W.fnOf "rows_by_four" "rows_by_four" (defArgs s_rows_by_four) (defBody s_rows_by_four) (defScope s_rows_by_four) .none kV19 dc19 pm19 an19 cd19 ct19), sl19⟩) (c19 : PySem.W.codeIn K cd19 "rows_by_four" = true) (k19 : PySem.W.keepIn K (.ref f19) = true)
    {f20 : Addr} {od20 an20 : Option Addr} {sl20 : Array (Option Value)} {oc20 kV20 dc20 pm20 cd20 ct20 : Value}
    (a20 : PySem.W.nsIn K mainGlobals "rows_of" = some (some (.ref f20))) (l20 : K.lookup f20 = some ⟨oc20, od20, .func (PySem.W.fnOf "rows_of" "rows_of" (defArgs s_rows_of) (defBody s_rows_of) (defScope s_rows_of) .none kV20 dc20 pm20 an20 cd20 ct20), sl20⟩) (c20 : PySem.W.codeIn K cd20 "rows_of" = true) (k20 : PySem.W.keepIn K (.ref f20) = true)
    {f21 : Addr} {od21 an21 : Option Addr} {sl21 : Array (Option Value)} {oc21 kV21 dc21 pm21 cd21 ct21 : Value}
    (a21 : PySem.W.nsIn K mainGlobals "ways_of" = some (some (.ref f21))) (l21 : K.lookup f21 = some ⟨oc21, od21, .func (PySem.W.fnOf "ways_of" "ways_of" (defArgs s_ways_of) (defBody s_ways_of) (defScope s_ways_of) .none kV21 dc21 pm21 an21 cd21 ct21), sl21⟩) (c21 : PySem.W.codeIn K cd21 "ways_of" = true) (k21 : PySem.W.keepIn K (.ref f21) = true)
    {f22 : Addr} {od22 an22 : Option Addr} {sl22 : Array (Option Value)} {oc22 kV22 dc22 pm22 cd22 ct22 : Value}
    (a22 : PySem.W.findIn K (.ref C_House) "__init__" = some (some (.ref f22))) (i22 : PySem.W.isFn K (.ref f22) = true) (y22 : PySem.W.typeIn K (.ref f22) = some (.type "function"))
    (l22 : K.lookup f22 = some ⟨oc22, od22, .func (PySem.W.fnOf "__init__" "House.__init__" (defArgs s_House_init) (defBody s_House_init) (defScope s_House_init) .none kV22 dc22 pm22 an22 cd22 ct22), sl22⟩) (c22 : PySem.W.codeIn K cd22 "House.__init__" = true) (k22 : PySem.W.keepIn K (.ref f22) = true)
    {f23 : Addr} {od23 an23 : Option Addr} {sl23 : Array (Option Value)} {oc23 kV23 dc23 pm23 cd23 ct23 : Value}
    (a23 : PySem.W.nsIn K mainGlobals "house_of" = some (some (.ref f23))) (l23 : K.lookup f23 = some ⟨oc23, od23, .func (PySem.W.fnOf "house_of" "house_of" (defArgs s_house_of) (defBody s_house_of) (defScope s_house_of) .none kV23 dc23 pm23 an23 cd23 ct23), sl23⟩) (c23 : PySem.W.codeIn K cd23 "house_of" = true) (k23 : PySem.W.keepIn K (.ref f23) = true)
    {f24 : Addr} {od24 an24 : Option Addr} {sl24 : Array (Option Value)} {oc24 kV24 dc24 pm24 cd24 ct24 : Value}
    (a24 : PySem.W.nsIn K mainGlobals "_law_at" = some (some (.ref f24))) (l24 : K.lookup f24 = some ⟨oc24, od24, .func (PySem.W.fnOf "_law_at" "_law_at" (defArgs s_Lat) (defBody s_Lat) (defScope s_Lat) .none kV24 dc24 pm24 an24 cd24 ct24), sl24⟩) (c24 : PySem.W.codeIn K cd24 "_law_at" = true) (k24 : PySem.W.keepIn K (.ref f24) = true)
    {f25 : Addr} {od25 an25 : Option Addr} {sl25 : Array (Option Value)} {oc25 kV25 dc25 pm25 cd25 ct25 : Value}
    (a25 : PySem.W.nsIn K mainGlobals "_law_mixed" = some (some (.ref f25))) (l25 : K.lookup f25 = some ⟨oc25, od25, .func (PySem.W.fnOf "_law_mixed" "_law_mixed" (defArgs s_Lmixed) (defBody s_Lmixed) (defScope s_Lmixed) .none kV25 dc25 pm25 an25 cd25 ct25), sl25⟩) (c25 : PySem.W.codeIn K cd25 "_law_mixed" = true) (k25 : PySem.W.keepIn K (.ref f25) = true)
    {f26 : Addr} {od26 an26 : Option Addr} {sl26 : Array (Option Value)} {oc26 kV26 dc26 pm26 cd26 ct26 : Value}
    (a26 : PySem.W.nsIn K mainGlobals "_law_purse" = some (some (.ref f26))) (l26 : K.lookup f26 = some ⟨oc26, od26, .func (PySem.W.fnOf "_law_purse" "_law_purse" (defArgs s_Lpurse) (defBody s_Lpurse) (defScope s_Lpurse) .none kV26 dc26 pm26 an26 cd26 ct26), sl26⟩) (c26 : PySem.W.codeIn K cd26 "_law_purse" = true) (k26 : PySem.W.keepIn K (.ref f26) = true)
    {f27 : Addr} {od27 an27 : Option Addr} {sl27 : Array (Option Value)} {oc27 kV27 dc27 pm27 cd27 ct27 : Value}
    (a27 : PySem.W.nsIn K mainGlobals "_law_draw" = some (some (.ref f27))) (l27 : K.lookup f27 = some ⟨oc27, od27, .func (PySem.W.fnOf "_law_draw" "_law_draw" (defArgs s_Ldraw) (defBody s_Ldraw) (defScope s_Ldraw) .none kV27 dc27 pm27 an27 cd27 ct27), sl27⟩) (c27 : PySem.W.codeIn K cd27 "_law_draw" = true) (k27 : PySem.W.keepIn K (.ref f27) = true)
    {f28 : Addr} {od28 an28 : Option Addr} {sl28 : Array (Option Value)} {oc28 kV28 dc28 pm28 cd28 ct28 : Value}
    (a28 : PySem.W.nsIn K mainGlobals "_law_cubic" = some (some (.ref f28))) (l28 : K.lookup f28 = some ⟨oc28, od28, .func (PySem.W.fnOf "_law_cubic" "_law_cubic" (defArgs s_Lcubic) (defBody s_Lcubic) (defScope s_Lcubic) .none kV28 dc28 pm28 an28 cd28 ct28), sl28⟩) (c28 : PySem.W.codeIn K cd28 "_law_cubic" = true) (k28 : PySem.W.keepIn K (.ref f28) = true)
    {f29 : Addr} {od29 an29 : Option Addr} {sl29 : Array (Option Value)} {oc29 kV29 dc29 pm29 cd29 ct29 : Value}
    (a29 : PySem.W.nsIn K mainGlobals "_law_alike" = some (some (.ref f29))) (l29 : K.lookup f29 = some ⟨oc29, od29, .func (PySem.W.fnOf "_law_alike" "_law_alike" (defArgs s_Lalike) (defBody s_Lalike) (defScope s_Lalike) .none kV29 dc29 pm29 an29 cd29 ct29), sl29⟩) (c29 : PySem.W.codeIn K cd29 "_law_alike" = true) (k29 : PySem.W.keepIn K (.ref f29) = true)
    {f30 : Addr} {od30 an30 : Option Addr} {sl30 : Array (Option Value)} {oc30 kV30 dc30 pm30 cd30 ct30 : Value}
    (a30 : PySem.W.nsIn K mainGlobals "_law_fault" = some (some (.ref f30))) (l30 : K.lookup f30 = some ⟨oc30, od30, .func (PySem.W.fnOf "_law_fault" "_law_fault" (defArgs s_Lfault) (defBody s_Lfault) (defScope s_Lfault) .none kV30 dc30 pm30 an30 cd30 ct30), sl30⟩) (c30 : PySem.W.codeIn K cd30 "_law_fault" = true) (k30 : PySem.W.keepIn K (.ref f30) = true)
    {f31 : Addr} {od31 an31 : Option Addr} {sl31 : Array (Option Value)} {oc31 kV31 dc31 pm31 cd31 ct31 : Value}
    (a31 : PySem.W.nsIn K mainGlobals "_law_class" = some (some (.ref f31))) (l31 : K.lookup f31 = some ⟨oc31, od31, .func (PySem.W.fnOf "_law_class" "_law_class" (defArgs s_Lclass) (defBody s_Lclass) (defScope s_Lclass) .none kV31 dc31 pm31 an31 cd31 ct31), sl31⟩) (c31 : PySem.W.codeIn K cd31 "_law_class" = true) (k31 : PySem.W.keepIn K (.ref f31) = true)
    {f32 : Addr} {od32 an32 : Option Addr} {sl32 : Array (Option Value)} {oc32 kV32 dc32 pm32 cd32 ct32 : Value}
    (a32 : PySem.W.nsIn K mainGlobals "_law_alike_roots" = some (some (.ref f32))) (l32 : K.lookup f32 = some ⟨oc32, od32, .func (PySem.W.fnOf "_law_alike_roots" "_law_alike_roots" (defArgs s_Lalike_roots) (defBody s_Lalike_roots) (defScope s_Lalike_roots) .none kV32 dc32 pm32 an32 cd32 ct32), sl32⟩) (c32 : PySem.W.codeIn K cd32 "_law_alike_roots" = true) (k32 : PySem.W.keepIn K (.ref f32) = true)
    {f33 : Addr} {od33 an33 : Option Addr} {sl33 : Array (Option Value)} {oc33 kV33 dc33 pm33 cd33 ct33 : Value}
    (a33 : PySem.W.nsIn K mainGlobals "_law_three" = some (some (.ref f33))) (l33 : K.lookup f33 = some ⟨oc33, od33, .func (PySem.W.fnOf "_law_three" "_law_three" (defArgs s_Lthree) (defBody s_Lthree) (defScope s_Lthree) .none kV33 dc33 pm33 an33 cd33 ct33), sl33⟩) (c33 : PySem.W.codeIn K cd33 "_law_three" = true) (k33 : PySem.W.keepIn K (.ref f33) = true)
    {f34 : Addr} {od34 an34 : Option Addr} {sl34 : Array (Option Value)} {oc34 kV34 dc34 pm34 cd34 ct34 : Value}
    (a34 : PySem.W.nsIn K mainGlobals "_law_four" = some (some (.ref f34))) (l34 : K.lookup f34 = some ⟨oc34, od34, .func (PySem.W.fnOf "_law_four" "_law_four" (defArgs s_Lfour) (defBody s_Lfour) (defScope s_Lfour) .none kV34 dc34 pm34 an34 cd34 ct34), sl34⟩) (c34 : PySem.W.codeIn K cd34 "_law_four" = true) (k34 : PySem.W.keepIn K (.ref f34) = true)
    {f35 : Addr} {od35 an35 : Option Addr} {sl35 : Array (Option Value)} {oc35 kV35 dc35 pm35 cd35 ct35 : Value}
    (a35 : PySem.W.nsIn K mainGlobals "_law_poly" = some (some (.ref f35))) (l35 : K.lookup f35 = some ⟨oc35, od35, .func (PySem.W.fnOf "_law_poly" "_law_poly" (defArgs s_Lpoly) (defBody s_Lpoly) (defScope s_Lpoly) .none kV35 dc35 pm35 an35 cd35 ct35), sl35⟩) (c35 : PySem.W.codeIn K cd35 "_law_poly" = true) (k35 : PySem.W.keepIn K (.ref f35) = true)
    {f36 : Addr} {od36 an36 : Option Addr} {sl36 : Array (Option Value)} {oc36 kV36 dc36 pm36 cd36 ct36 : Value}
    (a36 : PySem.W.nsIn K mainGlobals "_law_caught" = some (some (.ref f36))) (l36 : K.lookup f36 = some ⟨oc36, od36, .func (PySem.W.fnOf "_law_caught" "_law_caught" (defArgs s_Lcaught) (defBody s_Lcaught) (defScope s_Lcaught) .none kV36 dc36 pm36 an36 cd36 ct36), sl36⟩) (c36 : PySem.W.codeIn K cd36 "_law_caught" = true) (k36 : PySem.W.keepIn K (.ref f36) = true)
    {f37 : Addr} {od37 an37 : Option Addr} {sl37 : Array (Option Value)} {oc37 kV37 dc37 pm37 cd37 ct37 : Value}
    (a37 : PySem.W.nsIn K mainGlobals "_law_bent" = some (some (.ref f37))) (l37 : K.lookup f37 = some ⟨oc37, od37, .func (PySem.W.fnOf "_law_bent" "_law_bent" (defArgs s_Lbent) (defBody s_Lbent) (defScope s_Lbent) .none kV37 dc37 pm37 an37 cd37 ct37), sl37⟩) (c37 : PySem.W.codeIn K cd37 "_law_bent" = true) (k37 : PySem.W.keepIn K (.ref f37) = true)
    {f38 : Addr} {od38 an38 : Option Addr} {sl38 : Array (Option Value)} {oc38 kV38 dc38 pm38 cd38 ct38 : Value}
    (a38 : PySem.W.nsIn K mainGlobals "law" = some (some (.ref f38))) (l38 : K.lookup f38 = some ⟨oc38, od38, .func (PySem.W.fnOf "law" "law" (defArgs s_law) (defBody s_law) (defScope s_law) .none kV38 dc38 pm38 an38 cd38 ct38), sl38⟩) (c38 : PySem.W.codeIn K cd38 "law" = true) (k38 : PySem.W.keepIn K (.ref f38) = true)
    (z_set : PySem.W.nsIn K mainGlobals "set" = some none)
    (z_abs : PySem.W.nsIn K mainGlobals "abs" = some none)
    (z_len : PySem.W.nsIn K mainGlobals "len" = some none)
    (z_range : PySem.W.nsIn K mainGlobals "range" = some none)
    (z_max : PySem.W.nsIn K mainGlobals "max" = some none)
    (z_enumerate : PySem.W.nsIn K mainGlobals "enumerate" = some none)
    (z_isinstance : PySem.W.nsIn K mainGlobals "isinstance" = some none)
    (z_int : PySem.W.nsIn K mainGlobals "int" = some none)
    (z_bool : PySem.W.nsIn K mainGlobals "bool" = some none)
    (z_tuple : PySem.W.nsIn K mainGlobals "tuple" = some none)
    (z_list : PySem.W.nsIn K mainGlobals "list" = some none)
    {t_MOST : Tok} (m_MOST : PySem.W.nsIn K mainGlobals "MOST" = some (some (.int 100 t_MOST)))
    {nm_NoPoly q_NoPoly : Str} {N_NoPoly : Addr} {bs_NoPoly bm_NoPoly sub_NoPoly : List Value} {sn_NoPoly : List Str} {ab_NoPoly : Bool} {col_NoPoly : Option Bool} {dd_NoPoly : Option Addr} {k0_NoPoly k1_NoPoly k2_NoPoly k3_NoPoly k5_NoPoly : Option Value}
    (a_RootError : PySem.W.nsIn K mainGlobals "RootError" = some (some (.ref C_RootError)))
    (i_RootError : PySem.W.isClsIn K C_RootError = true)
    (y_RootError : PySem.W.typeIn K (.ref C_RootError) = some (.type "type"))
    (n_RootError : PySem.W.subIn K (.type "NoneType") (.ref C_RootError) = some false)
    (a_NoPoly : PySem.W.nsIn K mainGlobals "NoPoly" = some (some (.ref C_NoPoly)))
    (i_NoPoly : PySem.W.isClsIn K C_NoPoly = true)
    (y_NoPoly : PySem.W.typeIn K (.ref C_NoPoly) = some (.type "type"))
    (n_NoPoly : PySem.W.subIn K (.type "NoneType") (.ref C_NoPoly) = some false)
    (a_NoHouse : PySem.W.nsIn K mainGlobals "NoHouse" = some (some (.ref C_NoHouse)))
    (i_NoHouse : PySem.W.isClsIn K C_NoHouse = true)
    (y_NoHouse : PySem.W.typeIn K (.ref C_NoHouse) = some (.type "type"))
    (n_NoHouse : PySem.W.subIn K (.type "NoneType") (.ref C_NoHouse) = some false)
    (a_NoLetter : PySem.W.nsIn K mainGlobals "NoLetter" = some (some (.ref C_NoLetter)))
    (i_NoLetter : PySem.W.isClsIn K C_NoLetter = true)
    (y_NoLetter : PySem.W.typeIn K (.ref C_NoLetter) = some (.type "type"))
    (n_NoLetter : PySem.W.subIn K (.type "NoneType") (.ref C_NoLetter) = some false)
    (a_NoCount : PySem.W.nsIn K mainGlobals "NoCount" = some (some (.ref C_NoCount)))
    (i_NoCount : PySem.W.isClsIn K C_NoCount = true)
    (y_NoCount : PySem.W.typeIn K (.ref C_NoCount) = some (.type "type"))
    (n_NoCount : PySem.W.subIn K (.type "NoneType") (.ref C_NoCount) = some false)
    (a_NoMove : PySem.W.nsIn K mainGlobals "NoMove" = some (some (.ref C_NoMove)))
    (i_NoMove : PySem.W.isClsIn K C_NoMove = true)
    (y_NoMove : PySem.W.typeIn K (.ref C_NoMove) = some (.type "type"))
    (n_NoMove : PySem.W.subIn K (.type "NoneType") (.ref C_NoMove) = some false)
    (a_NoWord : PySem.W.nsIn K mainGlobals "NoWord" = some (some (.ref C_NoWord)))
    (i_NoWord : PySem.W.isClsIn K C_NoWord = true)
    (y_NoWord : PySem.W.typeIn K (.ref C_NoWord) = some (.type "type"))
    (n_NoWord : PySem.W.subIn K (.type "NoneType") (.ref C_NoWord) = some false)
    (a_Full : PySem.W.nsIn K mainGlobals "Full" = some (some (.ref C_Full)))
    (i_Full : PySem.W.isClsIn K C_Full = true)
    (y_Full : PySem.W.typeIn K (.ref C_Full) = some (.type "type"))
    (n_Full : PySem.W.subIn K (.type "NoneType") (.ref C_Full) = some false)
    (a_NoDeed : PySem.W.nsIn K mainGlobals "NoDeed" = some (some (.ref C_NoDeed)))
    (i_NoDeed : PySem.W.isClsIn K C_NoDeed = true)
    (y_NoDeed : PySem.W.typeIn K (.ref C_NoDeed) = some (.type "type"))
    (n_NoDeed : PySem.W.subIn K (.type "NoneType") (.ref C_NoDeed) = some false)
    (a_NoText : PySem.W.nsIn K mainGlobals "NoText" = some (some (.ref C_NoText)))
    (i_NoText : PySem.W.isClsIn K C_NoText = true)
    (y_NoText : PySem.W.typeIn K (.ref C_NoText) = some (.type "type"))
    (n_NoText : PySem.W.subIn K (.type "NoneType") (.ref C_NoText) = some false)
    (a_NoLine : PySem.W.nsIn K mainGlobals "NoLine" = some (some (.ref C_NoLine)))
    (i_NoLine : PySem.W.isClsIn K C_NoLine = true)
    (y_NoLine : PySem.W.typeIn K (.ref C_NoLine) = some (.type "type"))
    (n_NoLine : PySem.W.subIn K (.type "NoneType") (.ref C_NoLine) = some false)
    (a_NoOver : PySem.W.nsIn K mainGlobals "NoOver" = some (some (.ref C_NoOver)))
    (i_NoOver : PySem.W.isClsIn K C_NoOver = true)
    (y_NoOver : PySem.W.typeIn K (.ref C_NoOver) = some (.type "type"))
    (n_NoOver : PySem.W.subIn K (.type "NoneType") (.ref C_NoOver) = some false)
    (a_NoName : PySem.W.nsIn K mainGlobals "NoName" = some (some (.ref C_NoName)))
    (i_NoName : PySem.W.isClsIn K C_NoName = true)
    (y_NoName : PySem.W.typeIn K (.ref C_NoName) = some (.type "type"))
    (n_NoName : PySem.W.subIn K (.type "NoneType") (.ref C_NoName) = some false)
    (a_Twice : PySem.W.nsIn K mainGlobals "Twice" = some (some (.ref C_Twice)))
    (i_Twice : PySem.W.isClsIn K C_Twice = true)
    (y_Twice : PySem.W.typeIn K (.ref C_Twice) = some (.type "type"))
    (n_Twice : PySem.W.subIn K (.type "NoneType") (.ref C_Twice) = some false)
    (a_NoNumber : PySem.W.nsIn K mainGlobals "NoNumber" = some (some (.ref C_NoNumber)))
    (i_NoNumber : PySem.W.isClsIn K C_NoNumber = true)
    (y_NoNumber : PySem.W.typeIn K (.ref C_NoNumber) = some (.type "type"))
    (n_NoNumber : PySem.W.subIn K (.type "NoneType") (.ref C_NoNumber) = some false)
    (e_RootError : PySem.W.subIn K (.ref C_RootError) (.type "BaseException") = some true)
    (e_NoPoly : PySem.W.subIn K (.ref C_NoPoly) (.type "BaseException") = some true)
    (e_NoOver : PySem.W.subIn K (.ref C_NoOver) (.type "BaseException") = some true)
    (e_NoNumber : PySem.W.subIn K (.ref C_NoNumber) (.type "BaseException") = some true)
    (s_NoPoly_RootError : PySem.W.subIn K (.ref C_NoPoly) (.ref C_RootError) = some true)
    (d_NoPoly_RootError : (Value.ref C_NoPoly == Value.ref C_RootError) = false)
    (s_NoPoly_NoHouse : PySem.W.subIn K (.ref C_NoPoly) (.ref C_NoHouse) = some false)
    (d_NoPoly_NoHouse : (Value.ref C_NoPoly == Value.ref C_NoHouse) = false)
    (s_NoPoly_NoLetter : PySem.W.subIn K (.ref C_NoPoly) (.ref C_NoLetter) = some false)
    (d_NoPoly_NoLetter : (Value.ref C_NoPoly == Value.ref C_NoLetter) = false)
    (s_NoPoly_NoCount : PySem.W.subIn K (.ref C_NoPoly) (.ref C_NoCount) = some false)
    (d_NoPoly_NoCount : (Value.ref C_NoPoly == Value.ref C_NoCount) = false)
    (s_NoPoly_NoMove : PySem.W.subIn K (.ref C_NoPoly) (.ref C_NoMove) = some false)
    (d_NoPoly_NoMove : (Value.ref C_NoPoly == Value.ref C_NoMove) = false)
    (s_NoPoly_NoWord : PySem.W.subIn K (.ref C_NoPoly) (.ref C_NoWord) = some false)
    (d_NoPoly_NoWord : (Value.ref C_NoPoly == Value.ref C_NoWord) = false)
    (s_NoPoly_Full : PySem.W.subIn K (.ref C_NoPoly) (.ref C_Full) = some false)
    (d_NoPoly_Full : (Value.ref C_NoPoly == Value.ref C_Full) = false)
    (s_NoPoly_NoDeed : PySem.W.subIn K (.ref C_NoPoly) (.ref C_NoDeed) = some false)
    (d_NoPoly_NoDeed : (Value.ref C_NoPoly == Value.ref C_NoDeed) = false)
    (s_NoPoly_NoText : PySem.W.subIn K (.ref C_NoPoly) (.ref C_NoText) = some false)
    (d_NoPoly_NoText : (Value.ref C_NoPoly == Value.ref C_NoText) = false)
    (s_NoPoly_NoLine : PySem.W.subIn K (.ref C_NoPoly) (.ref C_NoLine) = some false)
    (d_NoPoly_NoLine : (Value.ref C_NoPoly == Value.ref C_NoLine) = false)
    (s_NoPoly_NoOver : PySem.W.subIn K (.ref C_NoPoly) (.ref C_NoOver) = some false)
    (d_NoPoly_NoOver : (Value.ref C_NoPoly == Value.ref C_NoOver) = false)
    (s_NoPoly_NoName : PySem.W.subIn K (.ref C_NoPoly) (.ref C_NoName) = some false)
    (d_NoPoly_NoName : (Value.ref C_NoPoly == Value.ref C_NoName) = false)
    (s_NoPoly_Twice : PySem.W.subIn K (.ref C_NoPoly) (.ref C_Twice) = some false)
    (d_NoPoly_Twice : (Value.ref C_NoPoly == Value.ref C_Twice) = false)
    (s_NoPoly_NoNumber : PySem.W.subIn K (.ref C_NoPoly) (.ref C_NoNumber) = some false)
    (d_NoPoly_NoNumber : (Value.ref C_NoPoly == Value.ref C_NoNumber) = false)
    (k_NoPoly : PySem.W.keepIn K (.ref C_NoPoly) = true)
    (hg_NoPoly : PySem.W.findIn K (.ref C_NoPoly) "__getattribute__" = some (some (.builtin "BaseException.__getattribute__")))
    (hk_NoPoly : PySem.W.findIn K (.ref C_NoPoly) "__getattr__" = some none)
    (hd_NoPoly : PySem.W.hasDictIn K C_NoPoly = true)
    (ha_NoPoly : PySem.W.findIn K (.ref C_NoPoly) "__class__" = some (some (.builtin "object.__class__")))
    (hm_NoPoly : PySem.W.mroIn K C_NoPoly (.type "object") = some true)
    (s_NoNumber_NoNumber : PySem.W.subIn K (.ref C_NoNumber) (.ref C_NoNumber) = some true)
    (s_NoNumber_RootError : PySem.W.subIn K (.ref C_NoNumber) (.ref C_RootError) = some false)
    (d_NoNumber_RootError : (Value.ref C_NoNumber == Value.ref C_RootError) = false)
    (s_NoNumber_NoPoly : PySem.W.subIn K (.ref C_NoNumber) (.ref C_NoPoly) = some false)
    (d_NoNumber_NoPoly : (Value.ref C_NoNumber == Value.ref C_NoPoly) = false)
    (s_NoNumber_NoHouse : PySem.W.subIn K (.ref C_NoNumber) (.ref C_NoHouse) = some false)
    (d_NoNumber_NoHouse : (Value.ref C_NoNumber == Value.ref C_NoHouse) = false)
    (s_NoNumber_NoLetter : PySem.W.subIn K (.ref C_NoNumber) (.ref C_NoLetter) = some false)
    (d_NoNumber_NoLetter : (Value.ref C_NoNumber == Value.ref C_NoLetter) = false)
    (s_NoNumber_NoCount : PySem.W.subIn K (.ref C_NoNumber) (.ref C_NoCount) = some false)
    (d_NoNumber_NoCount : (Value.ref C_NoNumber == Value.ref C_NoCount) = false)
    (s_NoNumber_NoMove : PySem.W.subIn K (.ref C_NoNumber) (.ref C_NoMove) = some false)
    (d_NoNumber_NoMove : (Value.ref C_NoNumber == Value.ref C_NoMove) = false)
    (s_NoNumber_NoWord : PySem.W.subIn K (.ref C_NoNumber) (.ref C_NoWord) = some false)
    (d_NoNumber_NoWord : (Value.ref C_NoNumber == Value.ref C_NoWord) = false)
    (s_NoNumber_Full : PySem.W.subIn K (.ref C_NoNumber) (.ref C_Full) = some false)
    (d_NoNumber_Full : (Value.ref C_NoNumber == Value.ref C_Full) = false)
    (s_NoNumber_NoDeed : PySem.W.subIn K (.ref C_NoNumber) (.ref C_NoDeed) = some false)
    (d_NoNumber_NoDeed : (Value.ref C_NoNumber == Value.ref C_NoDeed) = false)
    (s_NoNumber_NoText : PySem.W.subIn K (.ref C_NoNumber) (.ref C_NoText) = some false)
    (d_NoNumber_NoText : (Value.ref C_NoNumber == Value.ref C_NoText) = false)
    (s_NoNumber_NoLine : PySem.W.subIn K (.ref C_NoNumber) (.ref C_NoLine) = some false)
    (d_NoNumber_NoLine : (Value.ref C_NoNumber == Value.ref C_NoLine) = false)
    (s_NoNumber_NoOver : PySem.W.subIn K (.ref C_NoNumber) (.ref C_NoOver) = some false)
    (d_NoNumber_NoOver : (Value.ref C_NoNumber == Value.ref C_NoOver) = false)
    (s_NoNumber_NoName : PySem.W.subIn K (.ref C_NoNumber) (.ref C_NoName) = some false)
    (d_NoNumber_NoName : (Value.ref C_NoNumber == Value.ref C_NoName) = false)
    (s_NoNumber_Twice : PySem.W.subIn K (.ref C_NoNumber) (.ref C_Twice) = some false)
    (d_NoNumber_Twice : (Value.ref C_NoNumber == Value.ref C_Twice) = false)
    (x_NoNumber : PySem.W.excIn K C_NoNumber [.type "ValueError", .type "Exception", .type "BaseException", .type "object"] "ValueError.__new__" = true)
    (k_NoNumber : PySem.W.keepIn K (.ref C_NoNumber) = true)
    (hg_NoNumber : PySem.W.findIn K (.ref C_NoNumber) "__getattribute__" = some (some (.builtin "BaseException.__getattribute__")))
    (hk_NoNumber : PySem.W.findIn K (.ref C_NoNumber) "__getattr__" = some none)
    (hd_NoNumber : PySem.W.hasDictIn K C_NoNumber = true)
    (ha_NoNumber : PySem.W.findIn K (.ref C_NoNumber) "__class__" = some (some (.builtin "object.__class__")))
    (hm_NoNumber : PySem.W.mroIn K C_NoNumber (.type "object") = some true)
    (oc_NoPoly : K.lookup C_NoPoly = some (excClassObj nm_NoPoly q_NoPoly C_NoPoly N_NoPoly bs_NoPoly bm_NoPoly true sn_NoPoly sub_NoPoly ab_NoPoly col_NoPoly dd_NoPoly k0_NoPoly k1_NoPoly k2_NoPoly k3_NoPoly k5_NoPoly "ValueError.__new__"))
    (ov_NoPoly : PySem.HandSPX.refsVE bm_NoPoly = true)
    (os_NoPoly : PySem.W.findIn K (.ref C_NoPoly) "__setattr__" = some (some (.builtin "object.__setattr__")))
    (of_NoPoly : PySem.W.findIn K (.ref C_NoPoly) "at" = some none)
    (ir : PySem.W.readsIn (mc := .type "type") K C_RootError = true)
    (if_ : PySem.W.findCls K (.ref C_RootError) (.type "type") "__init__" = some (.val (.builtin "ValueError.__init__")))
    (ig : PySem.W.specialIn K (.ref C_RootError) "__getattribute__" = some (some (.builtin "type.__getattribute__")))
    (hn : PySem.W.specialIn K (.builtin "object.__class__") "__get__" = some (some (.builtin "getset_descriptor.__get__")))
    (ht : PySem.W.takesIn K (.builtin "object.__class__") = some true) :
    ∃ fd : FuncData, (∀ (s : Shared) (v : Value), BindsTo s fd ⟨[v], []⟩ [("_law_script", v)]) ∧ ∀ base : Heap, K.In base → base.Ns mainGlobals mg → FnOk l.prog w K mg base CX0 8 fa fd ["_law_script"] (spLaw K) := by
  have T : Txt K mg ⟨C_RootError, C_NoPoly, C_NoHouse, C_NoLetter, C_NoCount, C_NoMove, C_NoWord, C_Full, C_NoDeed, C_NoText, C_NoLine, C_NoOver, C_NoName, C_Twice, C_NoNumber⟩ := { g_RootError := PySem.W.mg_of X G a_RootError, g_NoPoly := PySem.W.mg_of X G a_NoPoly, g_NoHouse := PySem.W.mg_of X G a_NoHouse, g_NoLetter := PySem.W.mg_of X G a_NoLetter, g_NoCount := PySem.W.mg_of X G a_NoCount, g_NoMove := PySem.W.mg_of X G a_NoMove, g_NoWord := PySem.W.mg_of X G a_NoWord, g_Full := PySem.W.mg_of X G a_Full, g_NoDeed := PySem.W.mg_of X G a_NoDeed, g_NoText := PySem.W.mg_of X G a_NoText, g_NoLine := PySem.W.mg_of X G a_NoLine, g_NoOver := PySem.W.mg_of X G a_NoOver, g_NoName := PySem.W.mg_of X G a_NoName, g_Twice := PySem.W.mg_of X G a_Twice, g_NoNumber := PySem.W.mg_of X G a_NoNumber, row_none := { k_RootError := kit_none ⟨i_RootError, y_RootError⟩ n_RootError, k_NoPoly := kit_none ⟨i_NoPoly, y_NoPoly⟩ n_NoPoly, k_NoHouse := kit_none ⟨i_NoHouse, y_NoHouse⟩ n_NoHouse, k_NoLetter := kit_none ⟨i_NoLetter, y_NoLetter⟩ n_NoLetter, k_NoCount := kit_none ⟨i_NoCount, y_NoCount⟩ n_NoCount, k_NoMove := kit_none ⟨i_NoMove, y_NoMove⟩ n_NoMove, k_NoWord := kit_none ⟨i_NoWord, y_NoWord⟩ n_NoWord, k_Full := kit_none ⟨i_Full, y_Full⟩ n_Full, k_NoDeed := kit_none ⟨i_NoDeed, y_NoDeed⟩ n_NoDeed, k_NoText := kit_none ⟨i_NoText, y_NoText⟩ n_NoText, k_NoLine := kit_none ⟨i_NoLine, y_NoLine⟩ n_NoLine, k_NoOver := kit_none ⟨i_NoOver, y_NoOver⟩ n_NoOver, k_NoName := kit_none ⟨i_NoName, y_NoName⟩ n_NoName, k_Twice := kit_none ⟨i_Twice, y_Twice⟩ n_Twice, k_NoNumber := kit_none ⟨i_NoNumber, y_NoNumber⟩ n_NoNumber }, row_NoPoly := { k_RootError := kit_of_sub ⟨i_RootError, y_RootError⟩ s_NoPoly_RootError d_NoPoly_RootError, k_NoPoly := kit_self, k_NoHouse := kit_of_sub ⟨i_NoHouse, y_NoHouse⟩ s_NoPoly_NoHouse d_NoPoly_NoHouse, k_NoLetter := kit_of_sub ⟨i_NoLetter, y_NoLetter⟩ s_NoPoly_NoLetter d_NoPoly_NoLetter, k_NoCount := kit_of_sub ⟨i_NoCount, y_NoCount⟩ s_NoPoly_NoCount d_NoPoly_NoCount, k_NoMove := kit_of_sub ⟨i_NoMove, y_NoMove⟩ s_NoPoly_NoMove d_NoPoly_NoMove, k_NoWord := kit_of_sub ⟨i_NoWord, y_NoWord⟩ s_NoPoly_NoWord d_NoPoly_NoWord, k_Full := kit_of_sub ⟨i_Full, y_Full⟩ s_NoPoly_Full d_NoPoly_Full, k_NoDeed := kit_of_sub ⟨i_NoDeed, y_NoDeed⟩ s_NoPoly_NoDeed d_NoPoly_NoDeed, k_NoText := kit_of_sub ⟨i_NoText, y_NoText⟩ s_NoPoly_NoText d_NoPoly_NoText, k_NoLine := kit_of_sub ⟨i_NoLine, y_NoLine⟩ s_NoPoly_NoLine d_NoPoly_NoLine, k_NoOver := kit_of_sub ⟨i_NoOver, y_NoOver⟩ s_NoPoly_NoOver d_NoPoly_NoOver, k_NoName := kit_of_sub ⟨i_NoName, y_NoName⟩ s_NoPoly_NoName d_NoPoly_NoName, k_Twice := kit_of_sub ⟨i_Twice, y_Twice⟩ s_NoPoly_Twice d_NoPoly_Twice, k_NoNumber := kit_of_sub ⟨i_NoNumber, y_NoNumber⟩ s_NoPoly_NoNumber d_NoPoly_NoNumber }, exc_NoPoly := ⟨hg_NoPoly, hk_NoPoly, e_NoPoly, hd_NoPoly, ha_NoPoly, hn, ht, hm_NoPoly⟩, exm_NoPoly_RootError := exm_of_sub ⟨i_RootError, y_RootError⟩ e_RootError s_NoPoly_RootError, exm_NoPoly_NoNumber := exm_of_sub ⟨i_NoNumber, y_NoNumber⟩ e_NoNumber s_NoPoly_NoNumber, exm_NoPoly_NoOver := exm_of_sub ⟨i_NoOver, y_NoOver⟩ e_NoOver s_NoPoly_NoOver, oex_NoPoly := ⟨⟨_, _, _, _, _, _, _, _, _, _, _, _, _, _, _, oc_NoPoly, ov_NoPoly⟩, os_NoPoly, e_NoPoly, y_NoPoly, k_NoPoly⟩, no_NoPoly := of_NoPoly, ini_RootError := ⟨ir, if_, ig⟩, row_NoNumber := { k_RootError := kit_of_sub ⟨i_RootError, y_RootError⟩ s_NoNumber_RootError d_NoNumber_RootError, k_NoPoly := kit_of_sub ⟨i_NoPoly, y_NoPoly⟩ s_NoNumber_NoPoly d_NoNumber_NoPoly, k_NoHouse := kit_of_sub ⟨i_NoHouse, y_NoHouse⟩ s_NoNumber_NoHouse d_NoNumber_NoHouse, k_NoLetter := kit_of_sub ⟨i_NoLetter, y_NoLetter⟩ s_NoNumber_NoLetter d_NoNumber_NoLetter, k_NoCount := kit_of_sub ⟨i_NoCount, y_NoCount⟩ s_NoNumber_NoCount d_NoNumber_NoCount, k_NoMove := kit_of_sub ⟨i_NoMove, y_NoMove⟩ s_NoNumber_NoMove d_NoNumber_NoMove, k_NoWord := kit_of_sub ⟨i_NoWord, y_NoWord⟩ s_NoNumber_NoWord d_NoNumber_NoWord, k_Full := kit_of_sub ⟨i_Full, y_Full⟩ s_NoNumber_Full d_NoNumber_Full, k_NoDeed := kit_of_sub ⟨i_NoDeed, y_NoDeed⟩ s_NoNumber_NoDeed d_NoNumber_NoDeed, k_NoText := kit_of_sub ⟨i_NoText, y_NoText⟩ s_NoNumber_NoText d_NoNumber_NoText, k_NoLine := kit_of_sub ⟨i_NoLine, y_NoLine⟩ s_NoNumber_NoLine d_NoNumber_NoLine, k_NoOver := kit_of_sub ⟨i_NoOver, y_NoOver⟩ s_NoNumber_NoOver d_NoNumber_NoOver, k_NoName := kit_of_sub ⟨i_NoName, y_NoName⟩ s_NoNumber_NoName d_NoNumber_NoName, k_Twice := kit_of_sub ⟨i_Twice, y_Twice⟩ s_NoNumber_Twice d_NoNumber_Twice, k_NoNumber := kit_self }, exc_NoNumber := ⟨hg_NoNumber, hk_NoNumber, e_NoNumber, hd_NoNumber, ha_NoNumber, hn, ht, hm_NoNumber⟩, exm_NoNumber_RootError := exm_of_sub ⟨i_RootError, y_RootError⟩ e_RootError s_NoNumber_RootError, exm_NoNumber_NoNumber := exm_of_sub ⟨i_NoNumber, y_NoNumber⟩ e_NoNumber s_NoNumber_NoNumber, exm_NoNumber_NoOver := exm_of_sub ⟨i_NoOver, y_NoOver⟩ e_NoOver s_NoNumber_NoOver, x_NoNumber := x_NoNumber, k_NoNumber := k_NoNumber, b_NoNumber := e_NoNumber, t_NoNumber := y_NoNumber, z_set := PySem.W.mg_none_of X G z_set, z_abs := PySem.W.mg_none_of X G z_abs, z_len := PySem.W.mg_none_of X G z_len, z_range := PySem.W.mg_none_of X G z_range, z_max := PySem.W.mg_none_of X G z_max, z_enumerate := PySem.W.mg_none_of X G z_enumerate, z_isinstance := PySem.W.mg_none_of X G z_isinstance, z_int := PySem.W.mg_none_of X G z_int, z_bool := PySem.W.mg_none_of X G z_bool, z_tuple := PySem.W.mg_none_of X G z_tuple, z_list := PySem.W.mg_none_of X G z_list, mg_MOST := ⟨_, PySem.W.mg_of X G m_MOST, ⟨_, rfl⟩⟩ }
  have e := hfa.symm.trans (PySem.W.mg_of X G a38)
  cases e
  refine ⟨PySem.W.fnOf "law" "law" (defArgs s_law) (defBody s_law) (defScope s_law) .none kV38 dc38 pm38 an38 cd38 ct38, fun s v => .of_eq rfl, fun base _ _ => ?_⟩
  have hH : HsOk K C_House := ⟨⟨pg_House, hd_House, po_House, sa_House⟩, no_House_poly, no_House_rows, no_House_ways, no_House_known, no_House_moved⟩
  have F0 := L2.fun_mk (st := s_divisor) l0 c0 k0
  have b0 := F0.binds (ps := P_divisor) fun _ _ _ _ _ _ us hl => match us, hl with | [_, _], _ => rfl
  have h_divisor : Cal l.prog w K mg base 1 "divisor" sp_divisor [] := ⟨f0, _, P_divisor, [], ok_divisor T F0 , PySem.W.mg_of X G a0, k0, b0, .nil⟩
  have F1 := L2.fun_mk (st := s_lowest) l1 c1 k1
  have b1 := F1.binds (ps := P_lowest) fun _ _ _ _ _ _ us hl => match us, hl with | [_, _], _ => rfl
  have h_lowest : Cal l.prog w K mg base 2 "lowest" (sp_lowest K) [] := ⟨f1, _, P_lowest, [], ok_lowest T F1 h_divisor, PySem.W.mg_of X G a1, k1, b1, .nil⟩
  have F2 := L2.fun_mk (st := s_plus_of) l2 c2 k2
  have b2 := F2.binds (ps := P_plus_of) fun _ _ _ _ _ _ us hl => match us, hl with | [_, _], _ => rfl
  have h_plus_of : Cal l.prog w K mg base 3 "plus_of" (sp_plus_of K) [] := ⟨f2, _, P_plus_of, [], ok_plus_of T F2 h_lowest, PySem.W.mg_of X G a2, k2, b2, .nil⟩
  have F3 := L2.fun_mk (st := s_times_of) l3 c3 k3
  have b3 := F3.binds (ps := P_times_of) fun _ _ _ _ _ _ us hl => match us, hl with | [_, _], _ => rfl
  have h_times_of : Cal l.prog w K mg base 3 "times_of" (sp_times_of K) [] := ⟨f3, _, P_times_of, [], ok_times_of T F3 h_lowest, PySem.W.mg_of X G a3, k3, b3, .nil⟩
  have F4 := L2.fun_mk (st := s_told_by) l4 c4 k4
  have b4 := F4.binds (ps := P_told_by) fun _ _ _ _ _ _ us hl => match us, hl with | [_], _ => rfl
  have h_told_by : Cal l.prog w K mg base 1 "told_by" (sp_told_by K) [] := ⟨f4, _, P_told_by, [], ok_told_by T F4 , PySem.W.mg_of X G a4, k4, b4, .nil⟩
  have F5 : FunD K "__init__" "NoPoly.__init__" (defArgs s_NoPoly_init) (defBody s_NoPoly_init) (defScope s_NoPoly_init) [.non] [] f5 _ := ⟨⟨_, _, _, _, _, _, _, _, _, _, rfl, l5, c5, .inr ⟨by decide, _, _, [_], _, e5, t5, u5, .cons rfl .nil⟩, .inl rfl⟩, k5⟩
  have i_NoPoly : IniCal l.prog w K mg base 1 "NoPoly" C_NoPoly "at" (.non) := by
    obtain ⟨ds, vds, bds⟩ := F5.binds1 (ps := P_NoPoly_init) 1 0 (by decide) rfl fun T kV doc pm an cdv ct us its h1 h2 => match us, its, h1, h2 with | [u], [d], _, _ => ⟨_, rfl, rfl⟩
    exact ⟨T.oex_NoPoly, T.g_NoPoly, T.no_NoPoly, f5, _, P_NoPoly_init, ds, ok_NoPoly_init T F5, a5, y5, bds, vds, fun s u v Xs => .of_defaults e5 (Xs _ _ t5) u5 rfl rfl⟩
  have F6 := L2.fun_mk (st := s_must_poly) l6 c6 k6
  have b6 := F6.binds (ps := P_must_poly) fun _ _ _ _ _ _ us hl => match us, hl with | [_], _ => rfl
  have h_must_poly : CalX l.prog w K mg base 3 "must_poly" (sp_must_poly K ⟨C_RootError, C_NoPoly, C_NoHouse, C_NoLetter, C_NoCount, C_NoMove, C_NoWord, C_Full, C_NoDeed, C_NoText, C_NoLine, C_NoOver, C_NoName, C_Twice, C_NoNumber⟩) := ⟨f6, _, P_must_poly, ok_must_poly T F6 h_told_by i_NoPoly, PySem.W.mg_of X G a6, k6, b6⟩
  have F7 := L2.fun_mk (st := s_must_fraction) l7 c7 k7
  have b7 := F7.binds (ps := P_must_fraction) fun _ _ _ _ _ _ us hl => match us, hl with | [_], _ => rfl
  have h_must_fraction : CalX l.prog w K mg base 3 "must_fraction" (sp_must_fraction K ⟨C_RootError, C_NoPoly, C_NoHouse, C_NoLetter, C_NoCount, C_NoMove, C_NoWord, C_Full, C_NoDeed, C_NoText, C_NoLine, C_NoOver, C_NoName, C_Twice, C_NoNumber⟩) := ⟨f7, _, P_must_fraction, ok_must_fraction T F7 h_lowest, PySem.W.mg_of X G a7, k7, b7⟩
  have F8 := L2.fun_mk (st := s_worth) l8 c8 k8
  have b8 := F8.binds (ps := P_worth) fun _ _ _ _ _ _ us hl => match us, hl with | [_, _], _ => rfl
  have h_worth : CalX l.prog w K mg base 4 "worth" (sp_worth K ⟨C_RootError, C_NoPoly, C_NoHouse, C_NoLetter, C_NoCount, C_NoMove, C_NoWord, C_Full, C_NoDeed, C_NoText, C_NoLine, C_NoOver, C_NoName, C_Twice, C_NoNumber⟩) := ⟨f8, _, P_worth, ok_worth T F8 h_must_poly h_must_fraction h_plus_of h_times_of, PySem.W.mg_of X G a8, k8, b8⟩
  have k_worth : KCalX l.prog w K mg base 4 "worth" (sp_worth K ⟨C_RootError, C_NoPoly, C_NoHouse, C_NoLetter, C_NoCount, C_NoMove, C_NoWord, C_Full, C_NoDeed, C_NoText, C_NoLine, C_NoOver, C_NoName, C_Twice, C_NoNumber⟩) 0 ["fraction", "polynomial"] (fun _ zs => zs.reverse) := ⟨f8, _, P_worth, fun _ ws => ws.reverse, ok_worth T F8 h_must_poly h_must_fraction h_plus_of h_times_of, PySem.W.mg_of X G a8, k8, fun s us ws _ h1 h2 => match us, ws, h1, h2 with | [], [_, _], _, _ => .of_eq rfl, fun r1 r2 => r2.reverse⟩
  have F9 := L2.fun_mk (st := s_root_whole) l9 c9 k9
  have b9 := F9.binds (ps := P_root_whole) fun _ _ _ _ _ _ us hl => match us, hl with | [_], _ => rfl
  have h_root_whole : Cal l.prog w K mg base 1 "root_whole" sp_root [] := ⟨f9, _, P_root_whole, [], ok_root_whole T F9 , PySem.W.mg_of X G a9, k9, b9, .nil⟩
  have F10 := L2.fun_mk (st := s_bare_of) l10 c10 k10
  have b10 := F10.binds (ps := P_bare_of) fun _ _ _ _ _ _ us hl => match us, hl with | [_], _ => rfl
  have h_bare_of : Cal l.prog w K mg base 2 "bare_of" sp_bare_of [] := ⟨f10, _, P_bare_of, [], ok_bare_of T F10 h_root_whole, PySem.W.mg_of X G a10, k10, b10, .nil⟩
  have F11 := L2.fun_mk (st := s_nought) l11 c11 k11
  have b11 := F11.binds (ps := P_nought) fun _ _ _ _ _ _ us hl => match us, hl with | [_], _ => rfl
  have h_nought : Cal l.prog w K mg base 1 "nought" (sp_nought K) [] := ⟨f11, _, P_nought, [], ok_nought T F11 , PySem.W.mg_of X G a11, k11, b11, .nil⟩
  have F12 := L2.fun_mk (st := s_whole_root) l12 c12 k12
  have b12 := F12.binds (ps := P_whole_root) fun _ _ _ _ _ _ us hl => match us, hl with | [_], _ => rfl
  have h_whole_root : Cal l.prog w K mg base 1 "whole_root" (sp_whole_root K) [] := ⟨f12, _, P_whole_root, [], ok_whole_root T F12 , PySem.W.mg_of X G a12, k12, b12, .nil⟩
  have F13 := L2.fun_mk (st := s_rows_by_two) l13 c13 k13
  have b13 := F13.binds (ps := P_rows_by_two) fun _ _ _ _ _ _ us hl => match us, hl with | [_, _], _ => rfl
  have h_rows_by_two : Cal l.prog w K mg base 3 "rows_by_two" (sp_rows_by_two K) [] := ⟨f13, _, P_rows_by_two, [], ok_rows_by_two T F13 h_bare_of, PySem.W.mg_of X G a13, k13, b13, .nil⟩
  have F14 := L2.fun_mk (st := s_left_by) l14 c14 k14
  have b14 := F14.binds (ps := P_left_by) fun _ _ _ _ _ _ us hl => match us, hl with | [_, _], _ => rfl
  have h_left_by : Cal l.prog w K mg base 1 "left_by" (sp_left_by K) [] := ⟨f14, _, P_left_by, [], ok_left_by T F14 , PySem.W.mg_of X G a14, k14, b14, .nil⟩
  have F15 := L2.fun_mk (st := s_halves) l15 c15 k15
  have b15 := F15.binds (ps := P_halves) fun _ _ _ _ _ _ us hl => match us, hl with | [_], _ => rfl
  have h_halves : Cal l.prog w K mg base 2 "halves" (sp_halves K) [] := ⟨f15, _, P_halves, [], ok_halves T F15 h_root_whole, PySem.W.mg_of X G a15, k15, b15, .nil⟩
  have F16 := L2.fun_mk (st := s_by_squares) l16 c16 k16
  have b16 := F16.binds (ps := P_by_squares) fun _ _ _ _ _ _ us hl => match us, hl with | [_], _ => rfl
  have h_by_squares : Cal l.prog w K mg base 3 "by_squares" (sp_by_squares K) [] := ⟨f16, _, P_by_squares, [], ok_by_squares T F16 h_root_whole h_bare_of, PySem.W.mg_of X G a16, k16, b16, .nil⟩
  have F17 := L2.fun_mk (st := s_root_within) l17 c17 k17
  have b17 := F17.binds (ps := P_root_within) fun _ _ _ _ _ _ us hl => match us, hl with | [_], _ => rfl
  have h_root_within : Cal l.prog w K mg base 2 "root_within" (sp_root_within K) [] := ⟨f17, _, P_root_within, [], ok_root_within T F17 h_root_whole, PySem.W.mg_of X G a17, k17, b17, .nil⟩
  have F18 := L2.fun_mk (st := s_rows_by_three) l18 c18 k18
  have b18 := F18.binds (ps := P_rows_by_three) fun _ _ _ _ _ _ us hl => match us, hl with | [_], _ => rfl
  have h_rows_by_three : Cal l.prog w K mg base 4 "rows_by_three" (sp_rows_by_three K) [] := ⟨f18, _, P_rows_by_three, [], ok_rows_by_three T F18 h_root_whole h_bare_of h_whole_root h_left_by h_rows_by_two h_told_by, PySem.W.mg_of X G a18, k18, b18, .nil⟩
  have F19 := L2.fun_mk (st := s_rows_by_four) l19 c19 k19
  have b19 := F19.binds (ps := P_rows_by_four) fun _ _ _ _ _ _ us hl => match us, hl with | [_], _ => rfl
  have h_rows_by_four : Cal l.prog w K mg base 4 "rows_by_four" (sp_rows_by_four K) [] := ⟨f19, _, P_rows_by_four, [], ok_rows_by_four T F19 h_root_whole h_bare_of h_halves h_nought h_by_squares h_root_within h_lowest, PySem.W.mg_of X G a19, k19, b19, .nil⟩
  have F20 := L2.fun_mk (st := s_rows_of) l20 c20 k20
  have b20 := F20.binds (ps := P_rows_of) fun _ _ _ _ _ _ us hl => match us, hl with | [_], _ => rfl
  have h_rows_of : Cal l.prog w K mg base 5 "rows_of" (sp_rows_of K) [] := ⟨f20, _, P_rows_of, [], ok_rows_of T F20 h_rows_by_two h_rows_by_three h_rows_by_four, PySem.W.mg_of X G a20, k20, b20, .nil⟩
  have F21 := L2.fun_mk (st := s_ways_of) l21 c21 k21
  have b21 := F21.binds (ps := P_ways_of) fun _ _ _ _ _ _ us hl => match us, hl with | [_], _ => rfl
  have h_ways_of : Cal l.prog w K mg base 1 "ways_of" (sp_ways_of K) [] := ⟨f21, _, P_ways_of, [], ok_ways_of T F21 , PySem.W.mg_of X G a21, k21, b21, .nil⟩
  have F22 := L2.fun_mk (st := s_House_init) l22 c22 k22
  have b22 := F22.binds (ps := P_House_init) fun _ _ _ _ _ _ us hl => match us, hl with | [_, _, _], _ => rfl
  have m_House : C8.Mak l.prog w K mg base 2 "House" C_House (sp_House_init K) [] := ⟨f22, _, P_House_init, [], ⟨mk_House, a22, i22, kc_House⟩, ok_House_init T F22 h_ways_of, PySem.W.mg_of X G a_House, b22, .nil⟩
  have F23 := L2.fun_mk (st := s_house_of) l23 c23 k23
  have b23 := F23.binds (ps := P_house_of) fun _ _ _ _ _ _ us hl => match us, hl with | [_], _ => rfl
  have h_house_of : CalX l.prog w K mg base 6 "house_of" (sp_house_of K ⟨C_RootError, C_NoPoly, C_NoHouse, C_NoLetter, C_NoCount, C_NoMove, C_NoWord, C_Full, C_NoDeed, C_NoText, C_NoLine, C_NoOver, C_NoName, C_Twice, C_NoNumber⟩ C_House) := ⟨f23, _, P_house_of, ok_house_of T hH F23 h_must_poly h_rows_of m_House, PySem.W.mg_of X G a23, k23, b23⟩
  have k_house_of : KCalX l.prog w K mg base 6 "house_of" (sp_house_of K ⟨C_RootError, C_NoPoly, C_NoHouse, C_NoLetter, C_NoCount, C_NoMove, C_NoWord, C_Full, C_NoDeed, C_NoText, C_NoLine, C_NoOver, C_NoName, C_Twice, C_NoNumber⟩ C_House) 0 ["polynomial"] (fun _ zs => zs) := ⟨f23, _, P_house_of, fun _ ws => ws, ok_house_of T hH F23 h_must_poly h_rows_of m_House, PySem.W.mg_of X G a23, k23, fun s us ws _ h1 h2 => match us, ws, h1, h2 with | [], [_], _, _ => .of_eq rfl, fun r1 r2 => r2⟩
  have F24 := L2.fun_mk (st := s_Lat) l24 c24 k24
  have b24 := F24.binds (ps := P_Lat) fun _ _ _ _ _ _ us hl => match us, hl with | [_, _], _ => rfl
  have h_Lat : Cal l.prog w K mg base 1 "_law_at" (sp_Lat K) [] := ⟨f24, _, P_Lat, [], ok_Lat T F24 , PySem.W.mg_of X G a24, k24, b24, .nil⟩
  have F25 := L2.fun_mk (st := s_Lmixed) l25 c25 k25
  have b25 := F25.binds (ps := P_Lmixed) fun _ _ _ _ _ _ us hl => match us, hl with | [_, _], _ => rfl
  have h_Lmixed : Cal l.prog w K mg base 1 "_law_mixed" sp_Lmixed [] := ⟨f25, _, P_Lmixed, [], ok_Lmixed T F25 , PySem.W.mg_of X G a25, k25, b25, .nil⟩
  have F26 := L2.fun_mk (st := s_Lpurse) l26 c26 k26
  have b26 := F26.binds (ps := P_Lpurse) fun _ _ _ _ _ _ us hl => match us, hl with | [_, _], _ => rfl
  have h_Lpurse : Cal l.prog w K mg base 2 "_law_purse" (sp_Lpurse K) [] := ⟨f26, _, P_Lpurse, [], ok_Lpurse T F26 h_Lat, PySem.W.mg_of X G a26, k26, b26, .nil⟩
  have F27 := L2.fun_mk (st := s_Ldraw) l27 c27 k27
  have b27 := F27.binds (ps := P_Ldraw) fun _ _ _ _ _ _ us hl => match us, hl with | [_, _], _ => rfl
  have h_Ldraw : Cal l.prog w K mg base 2 "_law_draw" sp_Ldraw [] := ⟨f27, _, P_Ldraw, [], ok_Ldraw T F27 h_Lmixed, PySem.W.mg_of X G a27, k27, b27, .nil⟩
  have F28 := L2.fun_mk (st := s_Lcubic) l28 c28 k28
  have b28 := F28.binds (ps := P_Lcubic) fun _ _ _ _ _ _ us hl => match us, hl with | [_], _ => rfl
  have h_Lcubic : Cal l.prog w K mg base 1 "_law_cubic" (sp_Lcubic K) [] := ⟨f28, _, P_Lcubic, [], ok_Lcubic T F28 , PySem.W.mg_of X G a28, k28, b28, .nil⟩
  have F29 := L2.fun_mk (st := s_Lalike) l29 c29 k29
  have b29 := F29.binds (ps := P_Lalike) fun _ _ _ _ _ _ us hl => match us, hl with | [_], _ => rfl
  have h_Lalike : Cal l.prog w K mg base 2 "_law_alike" (sp_Lalike K) [] := ⟨f29, _, P_Lalike, [], ok_Lalike T F29 h_Lcubic, PySem.W.mg_of X G a29, k29, b29, .nil⟩
  have F30 := L2.fun_mk (st := s_Lfault) l30 c30 k30
  have b30 := F30.binds (ps := P_Lfault) fun _ _ _ _ _ _ us hl => match us, hl with | [_], _ => rfl
  have h_Lfault : Cal l.prog w K mg base 3 "_law_fault" (sp_Lfault K) [] := ⟨f30, _, P_Lfault, [], ok_Lfault T F30 h_Lalike, PySem.W.mg_of X G a30, k30, b30, .nil⟩
  have F31 := L2.fun_mk (st := s_Lclass) l31 c31 k31
  have b31 := F31.binds (ps := P_Lclass) fun _ _ _ _ _ _ us hl => match us, hl with | [_], _ => rfl
  have h_Lclass : Cal l.prog w K mg base 1 "_law_class" (sp_Lclass K ⟨C_RootError, C_NoPoly, C_NoHouse, C_NoLetter, C_NoCount, C_NoMove, C_NoWord, C_Full, C_NoDeed, C_NoText, C_NoLine, C_NoOver, C_NoName, C_Twice, C_NoNumber⟩) [] := ⟨f31, _, P_Lclass, [], ok_Lclass T F31 , PySem.W.mg_of X G a31, k31, b31, .nil⟩
  have F32 := L2.fun_mk (st := s_Lalike_roots) l32 c32 k32
  have b32 := F32.binds (ps := P_Lalike_roots) fun _ _ _ _ _ _ us hl => match us, hl with | [_], _ => rfl
  have h_Lalike_roots : Cal l.prog w K mg base 1 "_law_alike_roots" sp_Lalike_roots [] := ⟨f32, _, P_Lalike_roots, [], ok_Lalike_roots T F32 , PySem.W.mg_of X G a32, k32, b32, .nil⟩
  have F33 := L2.fun_mk (st := s_Lthree) l33 c33 k33
  have b33 := F33.binds (ps := P_Lthree) fun _ _ _ _ _ _ us hl => match us, hl with | [_, _], _ => rfl
  have h_Lthree : Cal l.prog w K mg base 3 "_law_three" sp_Lthree [] := ⟨f33, _, P_Lthree, [], ok_Lthree T F33 h_Ldraw, PySem.W.mg_of X G a33, k33, b33, .nil⟩
  have F34 := L2.fun_mk (st := s_Lfour) l34 c34 k34
  have b34 := F34.binds (ps := P_Lfour) fun _ _ _ _ _ _ us hl => match us, hl with | [_, _], _ => rfl
  have h_Lfour : Cal l.prog w K mg base 3 "_law_four" sp_Lfour [] := ⟨f34, _, P_Lfour, [], ok_Lfour T F34 h_Ldraw, PySem.W.mg_of X G a34, k34, b34, .nil⟩
  have F35 := L2.fun_mk (st := s_Lpoly) l35 c35 k35
  have b35 := F35.binds (ps := P_Lpoly) fun _ _ _ _ _ _ us hl => match us, hl with | [_], _ => rfl
  have h_Lpoly : Cal l.prog w K mg base 4 "_law_poly" sp_Lpoly [] := ⟨f35, _, P_Lpoly, [], ok_Lpoly T F35 h_Ldraw h_Lfour h_Lthree h_Lalike_roots, PySem.W.mg_of X G a35, k35, b35, .nil⟩
  have F36 := L2.fun_mk (st := s_Lcaught) l36 c36 k36
  have b36 := F36.binds (ps := P_Lcaught) fun _ _ _ _ _ _ us hl => match us, hl with | [_, _, _], _ => rfl
  have h_Lcaught : Cal l.prog w K mg base 7 "_law_caught" (sp_Lcaught K) [] := ⟨f36, _, P_Lcaught, [], ok_Lcaught T F36 h_house_of k_house_of h_worth k_worth h_Lclass, PySem.W.mg_of X G a36, k36, b36, .nil⟩
  have F37 := L2.fun_mk (st := s_Lbent) l37 c37 k37
  have b37 := F37.binds (ps := P_Lbent) fun _ _ _ _ _ _ us hl => match us, hl with | [_, _, _], _ => rfl
  have h_Lbent : Cal l.prog w K mg base 3 "_law_bent" sp_Lbent [] := ⟨f37, _, P_Lbent, [], ok_Lbent T F37 h_Ldraw, PySem.W.mg_of X G a37, k37, b37, .nil⟩
  have F38 := L2.fun_mk (st := s_law) l38 c38 k38
  exact ok_law T F38 h_Lpurse h_Lpoly h_Lbent h_Lfault h_Lcaught
theorem walk {l : PySem.W.OpenLaw} {q : Program} {loose : List Str} {XP : (Str → Option Value) → Heap → Prop} {YP : World → Heap → Prop} {d : DefRec} {K : Params → PySem.W.Frag} (hn : l.most = some 63) (hdf : d.params.defaults = [])
    (hY : ∀ (w : World) (h : Heap), YP w h → (K w.params).In h)
    (F : ∀ (w : World) (mg : Str → Option Value) (fa : Addr) (h : Heap), (K w.params).In h → h.Ns mainGlobals mg → mg d.name = some (.ref fa) →
      ∃ fd : FuncData, (∀ (s : Shared) (u : Value), BindsTo s fd ⟨[u], []⟩ [("_law_script", u)]) ∧ ∀ base : Heap, (K w.params).In base → base.Ns mainGlobals mg → FnOk l.prog w (K w.params) mg base CX0 8 fa fd ["_law_script"] (spLaw (K w.params))) :
    PySem.W.WalkO q loose XP YP l.row.toRowW d [] (fun f vs => PySem.call f vs) :=
  L2.walk_of (n := 63) (k := 8) (x := "_law_script") (CX := fun _ => CX0) (sp := fun w => spLaw (K w.params)) hn (by decide) hdf ⟨rfl, by decide, by decide⟩ hY F (fun _ _ a ns hl _ hS => ⟨a, ns, rfl, hS, hl, fun _ => rfl⟩) fun _ _ _ _ _ z => z
end My

open PySem PySem.W PyProof.Rows in
set_option maxRecDepth 100000 in
set_option maxHeartbeats 0 in
theorem PySem.Challenge.cw_rootmoves_k01_no_polynomials_holds : PySem.Challenge.rw_rootmoves_k01_no_polynomials.Holds := by
  w_on; o_law; k_head; (case hw => w_witness2)
  k_fill
  refine My.walk (l := PySem.Challenge.rw_rootmoves_k01_no_polynomials) rfl rfl (fun w h Y => by first | exact PySem.W.kIn_of Y | exact PySem.W.km_in_of Y) ?F
  case F =>
    intro w mg fa h KX G hmg
    refine' My.all_mk KX G hmg ?a_House ?pg_House ?hd_House ?po_House ?sa_House ?mk_House ?kc_House ?no_House_poly ?no_House_rows ?no_House_ways ?no_House_known ?no_House_moved ?a0 ?l0 ?c0 ?k0 ?a1 ?l1 ?c1 ?k1 ?a2 ?l2 ?c2 ?k2 ?a3 ?l3 ?c3 ?k3 ?a4 ?l4 ?c4 ?k4 ?a5 ?i5 ?y5 ?l5 ?c5 ?k5 ?e5 ?t5 ?u5 ?a6 ?l6 ?c6 ?k6 ?a7 ?l7 ?c7 ?k7 ?a8 ?l8 ?c8 ?k8 ?a9 ?l9 ?c9 ?k9 ?a10 ?l10 ?c10 ?k10 ?a11 ?l11 ?c11 ?k11 ?a12 ?l12 ?c12 ?k12 ?a13 ?l13 ?c13 ?k13 ?a14 ?l14 ?c14 ?k14 ?a15 ?l15 ?c15 ?k15 ?a16 ?l16 ?c16 ?k16 ?a17 ?l17 ?c17 ?k17 ?a18 ?l18 ?c18 ?k18 ?a19 ?l19 ?c19 ?k19 ?a20 ?l20 ?c20 ?k20 ?a21 ?l21 ?c21 ?k21 ?a22 ?i22 ?y22 ?l22 ?c22 ?k22 ?a23 ?l23 ?c23 ?k23 ?a24 ?l24 ?c24 ?k24 ?a25 ?l25 ?c25 ?k25 ?a26 ?l26 ?c26 ?k26 ?a27 ?l27 ?c27 ?k27 ?a28 ?l28 ?c28 ?k28 ?a29 ?l29 ?c29 ?k29 ?a30 ?l30 ?c30 ?k30 ?a31 ?l31 ?c31 ?k31 ?a32 ?l32 ?c32 ?k32 ?a33 ?l33 ?c33 ?k33 ?a34 ?l34 ?c34 ?k34 ?a35 ?l35 ?c35 ?k35 ?a36 ?l36 ?c36 ?k36 ?a37 ?l37 ?c37 ?k37 ?a38 ?l38 ?c38 ?k38 ?z_set ?z_abs ?z_len ?z_range ?z_max ?z_enumerate ?z_isinstance ?z_int ?z_bool ?z_tuple ?z_list ?m_MOST ?a_RootError ?i_RootError ?y_RootError ?n_RootError ?a_NoPoly ?i_NoPoly ?y_NoPoly ?n_NoPoly ?a_NoHouse ?i_NoHouse ?y_NoHouse ?n_NoHouse ?a_NoLetter ?i_NoLetter ?y_NoLetter ?n_NoLetter ?a_NoCount ?i_NoCount ?y_NoCount ?n_NoCount ?a_NoMove ?i_NoMove ?y_NoMove ?n_NoMove ?a_NoWord ?i_NoWord ?y_NoWord ?n_NoWord ?a_Full ?i_Full ?y_Full ?n_Full ?a_NoDeed ?i_NoDeed ?y_NoDeed ?n_NoDeed ?a_NoText ?i_NoText ?y_NoText ?n_NoText ?a_NoLine ?i_NoLine ?y_NoLine ?n_NoLine ?a_NoOver ?i_NoOver ?y_NoOver ?n_NoOver ?a_NoName ?i_NoName ?y_NoName ?n_NoName ?a_Twice ?i_Twice ?y_Twice ?n_Twice ?a_NoNumber ?i_NoNumber ?y_NoNumber ?n_NoNumber ?e_RootError ?e_NoPoly ?e_NoOver ?e_NoNumber ?s_NoPoly_RootError ?d_NoPoly_RootError ?s_NoPoly_NoHouse ?d_NoPoly_NoHouse ?s_NoPoly_NoLetter ?d_NoPoly_NoLetter ?s_NoPoly_NoCount ?d_NoPoly_NoCount ?s_NoPoly_NoMove ?d_NoPoly_NoMove ?s_NoPoly_NoWord ?d_NoPoly_NoWord ?s_NoPoly_Full ?d_NoPoly_Full ?s_NoPoly_NoDeed ?d_NoPoly_NoDeed ?s_NoPoly_NoText ?d_NoPoly_NoText ?s_NoPoly_NoLine ?d_NoPoly_NoLine ?s_NoPoly_NoOver ?d_NoPoly_NoOver ?s_NoPoly_NoName ?d_NoPoly_NoName ?s_NoPoly_Twice ?d_NoPoly_Twice ?s_NoPoly_NoNumber ?d_NoPoly_NoNumber ?k_NoPoly ?hg_NoPoly ?hk_NoPoly ?hd_NoPoly ?ha_NoPoly ?hm_NoPoly ?s_NoNumber_NoNumber ?s_NoNumber_RootError ?d_NoNumber_RootError ?s_NoNumber_NoPoly ?d_NoNumber_NoPoly ?s_NoNumber_NoHouse ?d_NoNumber_NoHouse ?s_NoNumber_NoLetter ?d_NoNumber_NoLetter ?s_NoNumber_NoCount ?d_NoNumber_NoCount ?s_NoNumber_NoMove ?d_NoNumber_NoMove ?s_NoNumber_NoWord ?d_NoNumber_NoWord ?s_NoNumber_Full ?d_NoNumber_Full ?s_NoNumber_NoDeed ?d_NoNumber_NoDeed ?s_NoNumber_NoText ?d_NoNumber_NoText ?s_NoNumber_NoLine ?d_NoNumber_NoLine ?s_NoNumber_NoOver ?d_NoNumber_NoOver ?s_NoNumber_NoName ?d_NoNumber_NoName ?s_NoNumber_Twice ?d_NoNumber_Twice ?x_NoNumber ?k_NoNumber ?hg_NoNumber ?hk_NoNumber ?hd_NoNumber ?ha_NoNumber ?hm_NoNumber ?oc_NoPoly ?ov_NoPoly ?os_NoPoly ?of_NoPoly ?ir ?if_ ?ig ?hn ?ht
    (case a_House => k_is)
    (case a_RootError => k_is)
    (case a_NoPoly => k_is)
    (case a_NoHouse => k_is)
    (case a_NoLetter => k_is)
    (case a_NoCount => k_is)
    (case a_NoMove => k_is)
    (case a_NoWord => k_is)
    (case a_Full => k_is)
    (case a_NoDeed => k_is)
    (case a_NoText => k_is)
    (case a_NoLine => k_is)
    (case a_NoOver => k_is)
    (case a_NoName => k_is)
    (case a_Twice => k_is)
    (case a_NoNumber => k_is)
    (case pg_House => k_is)
    (case hd_House => k_is)
    (case po_House => k_is)
    (case sa_House => k_is)
    (case mk_House => k_is)
    (case kc_House => k_is)
    (case no_House_poly => k_is)
    (case no_House_rows => k_is)
    (case no_House_ways => k_is)
    (case no_House_known => k_is)
    (case no_House_moved => k_is)
    (case a0 => k_is)
    (case l0 => k_is)
    (case c0 => k_is)
    (case k0 => k_is)
    (case a1 => k_is)
    (case l1 => k_is)
    (case c1 => k_is)
    (case k1 => k_is)
    (case a2 => k_is)
    (case l2 => k_is)
    (case c2 => k_is)
    (case k2 => k_is)
    (case a3 => k_is)
    (case l3 => k_is)
    (case c3 => k_is)
    (case k3 => k_is)
    (case a4 => k_is)
    (case l4 => k_is)
    (case c4 => k_is)
    (case k4 => k_is)
    (case a5 => k_is)
    (case i5 => k_is)
    (case y5 => k_is)
    (case l5 => k_is)
    (case c5 => k_is)
    (case k5 => k_is)
    (case e5 => exact rfl)
    (case t5 => k_is)
    (case u5 => exact rfl)
    (case a6 => k_is)
    (case l6 => k_is)
    (case c6 => k_is)
    (case k6 => k_is)
    (case a7 => k_is)
    (case l7 => k_is)
    (case c7 => k_is)
    (case k7 => k_is)
    (case a8 => k_is)
    (case l8 => k_is)
    (case c8 => k_is)
    (case k8 => k_is)
    (case a9 => k_is)
    (case l9 => k_is)
    (case c9 => k_is)
    (case k9 => k_is)
    (case a10 => k_is)
    (case l10 => k_is)
    (case c10 => k_is)
    (case k10 => k_is)
    (case a11 => k_is)
    (case l11 => k_is)
    (case c11 => k_is)
    (case k11 => k_is)
    (case a12 => k_is)
    (case l12 => k_is)
    (case c12 => k_is)
    (case k12 => k_is)
    (case a13 => k_is)
    (case l13 => k_is)
    (case c13 => k_is)
    (case k13 => k_is)
    (case a14 => k_is)
    (case l14 => k_is)
    (case c14 => k_is)
    (case k14 => k_is)
    (case a15 => k_is)
    (case l15 => k_is)
    (case c15 => k_is)
    (case k15 => k_is)
    (case a16 => k_is)
    (case l16 => k_is)
    (case c16 => k_is)
    (case k16 => k_is)
    (case a17 => k_is)
    (case l17 => k_is)
    (case c17 => k_is)
    (case k17 => k_is)
    (case a18 => k_is)
    (case l18 => k_is)
    (case c18 => k_is)
    (case k18 => k_is)
    (case a19 => k_is)
    (case l19 => k_is)
    (case c19 => k_is)
    (case k19 => k_is)
    (case a20 => k_is)
    (case l20 => k_is)
    (case c20 => k_is)
    (case k20 => k_is)
    (case a21 => k_is)
    (case l21 => k_is)
    (case c21 => k_is)
    (case k21 => k_is)
    (case a22 => k_is)
    (case i22 => k_is)
    (case y22 => k_is)
    (case l22 => k_is)
    (case c22 => k_is)
    (case k22 => k_is)
    (case a23 => k_is)
    (case l23 => k_is)
    (case c23 => k_is)
    (case k23 => k_is)
    (case a24 => k_is)
    (case l24 => k_is)
    (case c24 => k_is)
    (case k24 => k_is)
    (case a25 => k_is)
    (case l25 => k_is)
    (case c25 => k_is)
    (case k25 => k_is)
    (case a26 => k_is)
    (case l26 => k_is)
    (case c26 => k_is)
    (case k26 => k_is)
    (case a27 => k_is)
    (case l27 => k_is)
    (case c27 => k_is)
    (case k27 => k_is)
    (case a28 => k_is)
    (case l28 => k_is)
    (case c28 => k_is)
    (case k28 => k_is)
    (case a29 => k_is)
    (case l29 => k_is)
    (case c29 => k_is)
    (case k29 => k_is)
    (case a30 => k_is)
    (case l30 => k_is)
    (case c30 => k_is)
    (case k30 => k_is)
    (case a31 => k_is)
    (case l31 => k_is)
    (case c31 => k_is)
    (case k31 => k_is)
    (case a32 => k_is)
    (case l32 => k_is)
    (case c32 => k_is)
    (case k32 => k_is)
    (case a33 => k_is)
    (case l33 => k_is)
    (case c33 => k_is)
    (case k33 => k_is)
    (case a34 => k_is)
    (case l34 => k_is)
    (case c34 => k_is)
    (case k34 => k_is)
    (case a35 => k_is)
    (case l35 => k_is)
    (case c35 => k_is)
    (case k35 => k_is)
    (case a36 => k_is)
    (case l36 => k_is)
    (case c36 => k_is)
    (case k36 => k_is)
    (case a37 => k_is)
    (case l37 => k_is)
    (case c37 => k_is)
    (case k37 => k_is)
    (case a38 => k_is)
    (case l38 => k_is)
    (case c38 => k_is)
    (case k38 => k_is)
    (case z_set => k_is)
    (case z_abs => k_is)
    (case z_len => k_is)
    (case z_range => k_is)
    (case z_max => k_is)
    (case z_enumerate => k_is)
    (case z_isinstance => k_is)
    (case z_int => k_is)
    (case z_bool => k_is)
    (case z_tuple => k_is)
    (case z_list => k_is)
    (case m_MOST => k_is)
    (case i_RootError => k_is)
    (case y_RootError => k_is)
    (case n_RootError => k_is)
    (case i_NoPoly => k_is)
    (case y_NoPoly => k_is)
    (case n_NoPoly => k_is)
    (case i_NoHouse => k_is)
    (case y_NoHouse => k_is)
    (case n_NoHouse => k_is)
    (case i_NoLetter => k_is)
    (case y_NoLetter => k_is)
    (case n_NoLetter => k_is)
    (case i_NoCount => k_is)
    (case y_NoCount => k_is)
    (case n_NoCount => k_is)
    (case i_NoMove => k_is)
    (case y_NoMove => k_is)
    (case n_NoMove => k_is)
    (case i_NoWord => k_is)
    (case y_NoWord => k_is)
    (case n_NoWord => k_is)
    (case i_Full => k_is)
    (case y_Full => k_is)
    (case n_Full => k_is)
    (case i_NoDeed => k_is)
    (case y_NoDeed => k_is)
    (case n_NoDeed => k_is)
    (case i_NoText => k_is)
    (case y_NoText => k_is)
    (case n_NoText => k_is)
    (case i_NoLine => k_is)
    (case y_NoLine => k_is)
    (case n_NoLine => k_is)
    (case i_NoOver => k_is)
    (case y_NoOver => k_is)
    (case n_NoOver => k_is)
    (case i_NoName => k_is)
    (case y_NoName => k_is)
    (case n_NoName => k_is)
    (case i_Twice => k_is)
    (case y_Twice => k_is)
    (case n_Twice => k_is)
    (case i_NoNumber => k_is)
    (case y_NoNumber => k_is)
    (case n_NoNumber => k_is)
    (case e_RootError => k_is)
    (case e_NoPoly => k_is)
    (case e_NoOver => k_is)
    (case e_NoNumber => k_is)
    (case s_NoPoly_RootError => k_is)
    (case d_NoPoly_RootError => rfl)
    (case s_NoPoly_NoHouse => k_is)
    (case d_NoPoly_NoHouse => rfl)
    (case s_NoPoly_NoLetter => k_is)
    (case d_NoPoly_NoLetter => rfl)
    (case s_NoPoly_NoCount => k_is)
    (case d_NoPoly_NoCount => rfl)
    (case s_NoPoly_NoMove => k_is)
    (case d_NoPoly_NoMove => rfl)
    (case s_NoPoly_NoWord => k_is)
    (case d_NoPoly_NoWord => rfl)
    (case s_NoPoly_Full => k_is)
    (case d_NoPoly_Full => rfl)
    (case s_NoPoly_NoDeed => k_is)
    (case d_NoPoly_NoDeed => rfl)
    (case s_NoPoly_NoText => k_is)
    (case d_NoPoly_NoText => rfl)
    (case s_NoPoly_NoLine => k_is)
    (case d_NoPoly_NoLine => rfl)
    (case s_NoPoly_NoOver => k_is)
    (case d_NoPoly_NoOver => rfl)
    (case s_NoPoly_NoName => k_is)
    (case d_NoPoly_NoName => rfl)
    (case s_NoPoly_Twice => k_is)
    (case d_NoPoly_Twice => rfl)
    (case s_NoPoly_NoNumber => k_is)
    (case d_NoPoly_NoNumber => rfl)
    (case k_NoPoly => k_is)
    (case hg_NoPoly => k_is)
    (case hk_NoPoly => k_is)
    (case hd_NoPoly => k_is)
    (case ha_NoPoly => k_is)
    (case hm_NoPoly => k_is)
    (case s_NoNumber_NoNumber => k_is)
    (case s_NoNumber_RootError => k_is)
    (case d_NoNumber_RootError => rfl)
    (case s_NoNumber_NoPoly => k_is)
    (case d_NoNumber_NoPoly => rfl)
    (case s_NoNumber_NoHouse => k_is)
    (case d_NoNumber_NoHouse => rfl)
    (case s_NoNumber_NoLetter => k_is)
    (case d_NoNumber_NoLetter => rfl)
    (case s_NoNumber_NoCount => k_is)
    (case d_NoNumber_NoCount => rfl)
    (case s_NoNumber_NoMove => k_is)
    (case d_NoNumber_NoMove => rfl)
    (case s_NoNumber_NoWord => k_is)
    (case d_NoNumber_NoWord => rfl)
    (case s_NoNumber_Full => k_is)
    (case d_NoNumber_Full => rfl)
    (case s_NoNumber_NoDeed => k_is)
    (case d_NoNumber_NoDeed => rfl)
    (case s_NoNumber_NoText => k_is)
    (case d_NoNumber_NoText => rfl)
    (case s_NoNumber_NoLine => k_is)
    (case d_NoNumber_NoLine => rfl)
    (case s_NoNumber_NoOver => k_is)
    (case d_NoNumber_NoOver => rfl)
    (case s_NoNumber_NoName => k_is)
    (case d_NoNumber_NoName => rfl)
    (case s_NoNumber_Twice => k_is)
    (case d_NoNumber_Twice => rfl)
    (case x_NoNumber => k_exc)
    (case k_NoNumber => k_is)
    (case hg_NoNumber => k_is)
    (case hk_NoNumber => k_is)
    (case hd_NoNumber => k_is)
    (case ha_NoNumber => k_is)
    (case hm_NoNumber => k_is)
    (case oc_NoPoly => k_is)
    (case ov_NoPoly => rfl)
    (case os_NoPoly => k_is)
    (case of_NoPoly => k_is)
    (case ir => k_is)
    (case if_ => k_is)
    (case ig => k_is)
    (case hn => k_is)
    (case ht => k_is)
#print axioms PySem.Challenge.cw_rootmoves_k01_no_polynomials_holds
