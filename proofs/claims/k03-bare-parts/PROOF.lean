import PyProof.Rows.All
import Wide.All
import OpenK.AllK
import Wide.FinOn
import HandS.ForMost
import HandS.Codes
import HandS.Wide
import HandS.WideBits
import HandS.WideMore
import HandS.Style
import HandS.NoneIn
import HandS.IsInst
import HandS.Deep
import HandS.Walk
import HandS.ForExc
import HandS.TryMany
import HandS.ExcIs
import HandS.ExcInit
import PySem.Challenge.RW_rootmoves_k03_bare_parts
set_option Elab.async false
set_option linter.all false
set_option maxRecDepth 100000
set_option maxHeartbeats 4000000
namespace My
open PySem
def top (i : Nat) : Stmt := PySem.Challenge.pw_rootmoves_k03_bare_parts.main.body.getD i (.Pass ⟨0, 0, 0, 0⟩)
end My
set_option Elab.async false
set_option linter.all false
set_option maxRecDepth 100000
set_option maxHeartbeats 4000000
/-! ### own rules over the hand layer -/
namespace My
open PySem PySem.Spec PyProof.Rows L2
section
variable {X : Cx}
def CFd (_ j : Int) : Prop := j ≠ 0 ∧ j.natAbs.log2 < 9000
theorem op_fdivA : OpR X (binaryOp .FloorDiv) (rI CFd fun i j => .int (i.fdiv j)) := opI fun _ _ _ _ _ _ _ hc q => floordiv_int hc.1 q (.inl (PyProof.noPylong_of_log2 hc.2))
def CPw (i j : Int) : Prop := 0 ≤ j ∧ (Builtin.Int.intBits i : Int) * j ≤ 2 ^ 27
theorem op_powW : OpR X (binaryOp .Pow) (rI CPw fun i j => .int (i ^ j.toNat)) := opI fun _ _ _ _ _ _ _ hc q => pow_int hc.1 hc.2 q
end
section
variable {X : Cx}
theorem ip_fdiv : PIp X .FloorDiv (rI CDivW fun i j => .int (i / j)) := iop_fdivW
theorem ip_mul : PIp X .Mult (rI CMul fun i j => .int (i * j)) := iop_mul
end
theorem ite_tt {A B : Prop} {c : Bool} (hc : c = true) (h : A) : if c = true then A else B := by rw [if_pos hc]; exact h
theorem ite_ff {A B : Prop} {c : Bool} (hc : c = false) (h : B) : if c = true then A else B := by rw [hc, if_neg Bool.false_ne_true]; exact h
/-! ### calls by keywords alone -/
structure KCal (P : Program) (w : World) (K : PySem.W.Frag) (mg : Str → Option Value) (base : Heap) (k : Nat) (x : Str) (sp : Sp) (n : Nat) (ks : List Str) (gV : List V → List V → List V) : Prop where
  ex : ∃ (f : Addr) (fd : FuncData) (ps : List Str) (g : List Value → List Value → List Value), FnOk P w K mg base CX0 k f fd ps sp ∧ mg x = some (.ref f) ∧ PySem.W.keepIn K (.ref f) = true ∧
    (∀ (s : Shared) (us ws : List Value), K.In s.heap → us.length = n → ws.length = ks.length → BindsTo s fd ⟨us, ks.zip ws⟩ (ps.zip (g us ws))) ∧
    (∀ {vs : List V} {us : List Value} {zs : List V} {ws : List Value}, Vals vs us → Vals zs ws → Vals (gV vs zs) (g us ws))
def tCk (sp : Sp) (n m : Nat) (gV : List V → List V → List V) (E : XK) (t tk : TA) : TE := fun σ H Q => t σ H fun vs H1 => tk σ H1 fun zs H2 => vs.length = n ∧ zs.length = m ∧ sp (gV vs zs) H2 Q E
section
variable {X : Cx} {k j n : Nat} {x : Str} {ks : List Str} {sp : Sp} {gV : List V → List V → List V} {p pos : Pos} {e : Expr} {es : List Expr} {kws : List Keyword} {t tk : TA}
theorem run_ck {pins : List (Addr × Obj)} {σ : L2.St} {H : Hp} {s : Shared} {Q : VK} {us ws : List Value} {vs zs : List V} {f : Addr} {fd : FuncData} {ps : List Str} {g : List Value → List Value → List Value}
    (F : FnOk X.prog X.w X.K X.mg X.base CX0 k f fd ps sp) (hr : Room k X.A)
    (to : ∀ (s : Shared) (us ws : List Value), X.K.In s.heap → us.length = n → ws.length = ks.length → BindsTo s fd ⟨us, ks.zip ws⟩ (ps.zip (g us ws)))
    (rel : ∀ {vs : List V} {us : List Value} {zs : List V} {ws : List Value}, Vals vs us → Vals zs ws → Vals (gV vs zs) (g us ws))
    (I : Inv X pins σ H s) (r : Vals vs us) (rz : Vals zs ws) (l1 : vs.length = n) (l2 : zs.length = ks.length) (h : sp (gV vs zs) H Q E0) : wpAny (model X.prog X.w) X.A (call (.ref f) us (ks.zip ws)) (EP X pins σ Q) X.xe s := by
  have r2 := rel r rz
  refine wpAny_call (codeAny_mono (F.run X.A X.stack s H ⟨us, ks.zip ws⟩ (g us ws) (gV vs zs) Q E0 hr I.env0 (to s us ws I.kIn (by rw [← r.length]; exact l1) (by rw [← rz.length]; exact l2)) r2 h) fun r s' hq => ?_)
  cases r with
  | error e => exact hq.elim
  | ok fl =>
    cases fl with
    | ret u => exact I.after hq
    | next => exact False.elim hq
    | brk => exact False.elim hq
    | cont => exact False.elim hq
theorem pe_ck0 (c : KCal X.prog X.w X.K X.mg X.base k x sp 0 ks gV) (hr : Room j X.A) (hk : k ≤ j) (hg : Gl X x) (hkw : PK X kws tk)
    (hall : (backToKw pos (keywordEach kws X.env)).all (·.1.isSome) = true := by rfl) (hks : (backToKw pos (keywordEach kws X.env)).filterMap (·.1) = ks := by rfl) (hdb : (x == ("__debug__" : Str)) = false := by decide)
    (hpl : ((backTo pos (starEach [] X.env)).any (·.1) || (backToKw pos (keywordEach kws X.env)).any (·.1.isNone)) = false := by rfl) :
    PE X (.Call (.Name x p) [] kws pos) (tCk sp 0 ks.length gV E0 tNil tk) := by
  obtain ⟨f, fd, ps, g, F, hm, kp, to, rel⟩ := c.ex
  refine ⟨fun pins s σ H Q I h => ?_⟩
  refine wpAny_Call_Name_kw (ld_glob I hg hm ?_ hdb)
  refine PySem.W.callWith_KW0 (h₀ := X.base) I.ok.mod.kin kp hall ?_ hpl
  refine thn (hkw.run pos pins s σ H _ I h) fun ws s2 ⟨zs, H2, I2, rz, l1, l2, q2⟩ => ⟨I2.kIn, ?_⟩
  rw [hks]
  exact run_ck (us := []) (vs := []) F (hr.mono hk) to rel I2 .nil rz rfl l2 q2
theorem pe_ck (c : KCal X.prog X.w X.K X.mg X.base k x sp n ks gV) (hr : Room j X.A) (hk : k ≤ j) (hg : Gl X x) (ha : PA X (e :: es) t) (hkw : PK X kws tk)
    (hall : (backToKw pos (keywordEach kws X.env)).all (·.1.isSome) = true := by rfl) (hks : (backToKw pos (keywordEach kws X.env)).filterMap (·.1) = ks := by rfl) (hdb : (x == ("__debug__" : Str)) = false := by decide)
    (he : starEach (e :: es) X.env = (false, eval e X.env) :: starEach es X.env := by rfl) (hpl : ((backTo pos (starEach (e :: es) X.env)).any (·.1) || (backToKw pos (keywordEach kws X.env)).any (·.1.isNone)) = false := by rfl) :
    PE X (.Call (.Name x p) (e :: es) kws pos) (tCk sp n ks.length gV E0 t tk) := by
  obtain ⟨f, fd, ps, g, F, hm, kp, to, rel⟩ := c.ex
  refine ⟨fun pins s σ H Q I h => ?_⟩
  refine wpAny_Call_Name_kw (ld_glob I hg hm ?_ hdb)
  refine PySem.W.callWith_KW (h₀ := X.base) I.ok.mod.kin kp hall (thn (ha.run pos pins s σ H _ I h) fun us s1 ⟨vs, H1, I1, r, q⟩ => ?_) hpl he
  refine thn (hkw.run pos pins s1 σ H1 _ I1 q) fun ws s2 ⟨zs, H2, I2, rz, l1, l2, q2⟩ => ⟨I2.kIn, ?_⟩
  rw [hks]
  exact run_ck F (hr.mono hk) to rel I2 r rz l1 l2 q2
end
end My

/-! ### exceptions that are caught and kept -/
namespace My
open PySem PySem.Spec PyProof.Rows L2
/-- a caught exception that is kept: its class, its own dict -/
def ExV (cls : Value) (d : Option Addr) (a : Addr) : HO := .ext fun h => ∃ (o : Obj) (vs : Array Value), h.get? a = some o ∧ o.cls = cls ∧ o.dict = d ∧ o.data = .fields vs
section
variable {X : Cx} {pins : List (Addr × Obj)} {σ : L2.St} {H : Hp} {s : Shared}
theorem track {a : Addr} {cls : Value} {d : Option Addr} {oe : Obj} (I : Inv X pins σ H s) (he : s.heap.get? a = some oe) (hz : Zc cls d oe) (hd : ∃ vs, oe.data = .fields vs) (na : H a = none) (nL : a ≠ X.env.locals)
    (new : X.s_0.heap.get? a = none) (np : ∀ p ∈ X.pn ++ pins, p.1 ≠ a) : Inv X pins σ (upd H a (ExV cls d a)) s := by
  obtain ⟨vs, hv⟩ := hd
  have ne : ∀ {b : Addr} {o : HO}, H b = some o → b ≠ a := fun {b o} q z => by rw [z, na] at q; cases q
  refine ⟨I.ok, I.os, I.bare, ⟨I.base.keep, I.base.slot, fun b o q n hx => ?_, I.base.there, fun b xs q => ?_, fun b o u q => ?_, fun b ps q => ?_⟩, I.loc, I.cell, ?_, fun x c e => ?_, fun p hp => ?_, fun b o q => ?_, I.len⟩
  · have nb : b ≠ a := fun z => by rw [z, new] at q; cases q
    rw [upd_ne nb]
    exact I.base.free b o q n hx
  · have := I.base.tups b xs q
    rw [upd_ne (ne this)]; exact this
  · have := I.base.frzs b o u q
    rw [upd_ne (ne this)]; exact this
  · obtain ⟨m, this⟩ := I.base.tbls b ps q
    exact ⟨m, by rw [upd_ne (ne this)]; exact this⟩
  · rw [upd_ne nL.symm]; exact I.free
  · have nc : c ≠ a := fun z => by
      obtain ⟨v, o, ho, hdt⟩ := I.cell x c e
      rw [z, he] at ho
      cases ho
      rw [hv] at hdt
      cases hdt
    rw [upd_ne nc]; exact I.freeC x c e
  · obtain ⟨p1, p2, p3⟩ := I.pin p hp
    exact ⟨p1, by rw [upd_ne (np p hp)]; exact p2, p3⟩
  · by_cases hb : b = a
    · subst hb
      rw [upd_same] at q
      cases q
      exact ⟨⟨oe, vs, he, hz.1, hz.2, hv⟩, ⟨oe, he⟩, fun h1 h2 ⟨o, vs', e1, e2⟩ k => ⟨o, vs', k _ e1, e2⟩⟩
    · rw [upd_ne hb] at q
      exact (I.hok b o q).stay (fun _ _ _ z => z) (fun c z => by rw [upd_ne (ne z)]; exact z) fun c xs z => by rw [upd_ne (ne z)]; exact z
end
/-- the ends of a suite that keeps its exception: its name goes, the exception stays tracked -/
def DKeep (i : Nat) (a : Addr) (cls : Value) (d : Option Addr) (D : Ends) : Ends :=
  { nx := fun σ' H' => H' a = none → D.nx (σ'.set i none) (upd H' a (ExV cls d a)), rt := fun _ _ => False, bk := fun _ _ => False, ct := fun _ _ => False }
/-- what the clauses «except c as n: suite» wish of an exception, one after the other; n in slot i -/
def wKeep (K : PySem.W.Frag) (i : Nat) (Wout : WX) (D : Ends) : List (Value × (Addr → Value → Option Addr → TS)) → WX
  | [] => Wout
  | (c, ts) :: r => fun cls d σ H => ∃ b, PySem.W.exmOne K cls c = some b ∧ (b = true → ∀ a, H a = none → ts a cls d (DKeep i a cls d D) (σ.set i (some (.ref a))) H) ∧ (b = false → wKeep K i Wout D r cls d σ H)
inductive HdsKeep (X : Cx) (n : Str) : List ExceptHandler → List (Value × (Addr → Value → Option Addr → TS)) → Prop
  | nil : HdsKeep X n [] []
  | cons {x : Str} {c : Value} {ts : Addr → Value → Option Addr → TS} {b₀ : Stmt} {suite : List Stmt} {np pos' : Pos} {hds : List ExceptHandler} {l : List (Value × (Addr → Value → Option Addr → TS))} (hc : Names X x c)
      (hsu : ∀ (a : Addr) (oe : Obj) (cls : Value) (d : Option Addr) (pn : List (Addr × Obj)), PSs (X.suite a ((a, oe) :: pn)) (b₀ :: suite) (ts a cls d)) (r : HdsKeep X n hds l) :
      HdsKeep X n (.ExceptHandler (some (.Name x np)) (some n) (b₀ :: suite) pos' :: hds) ((c, ts) :: l)
section
variable {X : Cx} {n : Str} {i : Nat} {body : List Stmt} {h₀ : ExceptHandler} {hds : List ExceptHandler} {l : List (Value × (Addr → Value → Option Addr → TS))} {pos : Pos} {tb : WX → TS} {Wout : WX}
theorem ps_try_keep (hs : X.stack = X.env :: X.outer) (hf : X.env.frame = some X.env.locals) (hex : X.ex = []) (hN : X.N.Nodup) (hi : X.N[i]? = some n) (hln : X.env.kindOf n = some .local) (tk : Takes X Wout)
    (hb : ∀ (W : WX) (pn : List (Addr × Obj)) (xe : Value → Shared → Prop), Takes (X.tr pn xe) W → PassesOwn (model X.prog X.w) X.A X.env xe → PSs (X.tr pn xe) body (tb W))
    (hh : HdsKeep X n (h₀ :: hds) l) : PS X (.Try body (h₀ :: hds) [] [] pos) (fun D σ H => tb (wKeep X.K i Wout D l) D σ H) := by
  refine ⟨fun pins s σ H D I h => ?_⟩
  have ok := I.ok
  have hfr : X.A.frames = some (X.env :: X.outer) := by rw [ok.frames, hs]
  have hloc : Loc X.env.scope n := .inl hln
  refine wpAny_Try_except ?_
  refine wpAny_mono ((hb (wKeep X.K i Wout D l) (X.pn ++ pins) (fun e s₁ => wpAny (model X.prog X.w) X.A (noteFrame e X.env) (fun _ s₂ => wpAny (model X.prog X.w) X.A (setFlight e none) (fun _ s₃ =>
    wpAny (model X.prog X.w) X.A (handleBy e X.env (h₀ :: hds)) (SP X pins D) X.xe s₃) X.xe s₂) X.xe s₁) (fun u s' xx => ?_) PassesOwn.looking).run [] s σ H D (I.toTry _) h) (fun f s1 hsp => ?_) (fun _ _ z => z)
  · obtain ⟨a, B, sI, pins', σ', H', cls, d, rfl, J', nb, up, sky, na, os, ag, w⟩ := xx
    have J : Inv X pins σ' H' sI := J'.ofTry ok
    have sky' : Sky B (X.env :: X.outer) a (Zc cls d) X.env.locals s'.heap := by rw [← hs]; exact sky
    show wpAny (model X.prog X.w) X.A (noteFrame (.ref a) X.env) _ _ _
    refine Sky.land Zc.steady hfr hf sky' fun h3 fl3 up3 => ?_
    have J3 : Inv X pins σ' H' { s' with heap := h3 } := J.landed nb fl3.1 (up.trans up3) os ag
    obtain ⟨oe3, vs3, he3, hz3, hd3⟩ := fl3.there
    have Ba : B.get? a = none := fl3.2.1
    have nfr : a ∉ frs (X.env :: X.outer) := fun hm => by
      obtain ⟨_, o', e', hnf⟩ := (fl3.2.2.1).mem hm
      rw [he3] at e'; cases e'
      exact hnf _ hd3
    have nL : a ≠ X.env.locals := fun z => nfr (List.mem_filterMap.mpr ⟨X.env, List.mem_cons_self, by rw [hf, z]⟩)
    have nF : a ∉ X.fs := fun hm => by
      obtain ⟨e, he, q⟩ := List.mem_filterMap.mp hm
      exact nfr (List.mem_filterMap.mpr ⟨e, List.mem_cons_of_mem _ he, q⟩)
    have notI : sI.heap.get? a = none := by
      cases e : sI.heap.get? a with
      | none => rfl
      | some o =>
        have := nb a o e (by rw [hs]; exact nfr)
        rw [Ba] at this; cases this
    have new0 : X.s_0.heap.get? a = none := by
      cases e : X.s_0.heap.get? a with
      | none => rfl
      | some o =>
        obtain ⟨o', q⟩ := J.base.there a o e (by rw [hex]; simp)
        rw [notI] at q; cases q
    have np : ∀ p ∈ X.pn ++ pins, p.1 ≠ a := fun p hp z => by
      have q := (J.pin p hp).1
      rw [z, notI] at q; cases q
    have S3 := J3.suite he3 hd3 na nL nF
    have go : ∀ {hds' : List ExceptHandler} {l' : List (Value × (Addr → Value → Option Addr → TS))}, HdsKeep X n hds' l' → wKeep X.K i Wout D l' cls d σ' H' →
        wpAny (model X.prog X.w) X.A (handleBy (.ref a) X.env hds') (SP X pins D) X.xe { s' with heap := h3 } := by
      intro hds' l' hk
      induction hk with
      | nil =>
        intro w
        refine wpAny_handleBy_nil ?_
        obtain ⟨k1, k2, k3, oe, vs, T, oT, ts', he, hz, hd, h1, hr⟩ := id fl3
        unfold PySem.passOn
        refine wpAny_bind (wpAny_field he hd h1 ?_)
        rw [if_neg (show ¬ ((Value.ref T == Value.none) = true) from by simp)]
        have fin : wpAny (model X.prog X.w) X.A (setFlight (.ref a) X.env.frame) (fun _ s4 => wpAny (model X.prog X.w) X.A (throw (.ref a) : Sem Flow) (SP X pins D) X.xe s4) X.xe { s' with heap := h3 } := by
          rw [hf]
          refine HandSPX.setFlight_upZ fl3 fun h4 hh4 up4 => wpAny_throw (tk _ _ ?_)
          exact ⟨a, B, sI, pins, σ', H', cls, d, rfl, J, nb, (up.trans up3).trans up4, .inr (.inr (by rw [hs]; exact hh4)), na, os, ag, w⟩
        first
          | exact wpAny_bind (wpAny_pure (wpAny_bind fin))
          | exact wpAny_bind fin
      | @cons x c ts b₀ suite np' pos' hds2 l2 hc hsu r ih =>
        intro w
        obtain ⟨b, hb1, hyes, hno⟩ := w
        refine wpAny_handleBy_cons (codeAny_handlers_test ?_) (by intro q; cases q)
        have LT : PySem.W.Looks (model X.prog X.w) h3 (typeOf (.ref a)) cls := fun A Q E s k q => wpAny_typeOf_ref (k _ _ he3) (by rw [hz3.1]; exact q)
        have LM := PySem.W.exm_one (M := model X.prog X.w) (J3.kIn) LT hb1
        have test : ∀ {Q : Value → Shared → Prop} {E : Value → Shared → Prop}, Q c { s' with heap := h3 } → wpAny (model X.prog X.w) (X.A.mark (some (.ref a))) (eval (.Name x np') X.env) Q E { s' with heap := h3 } := fun {Q E} q => by
          obtain ⟨hg, hdbg, hm | ⟨hm, hv, hnn⟩⟩ := hc
          · exact ld_glob (X := X.suite a ((a, oe3) :: (X.pn ++ pins))) S3 hg hm q hdbg
          · exact ld_blt (X := X.suite a ((a, oe3) :: (X.pn ++ pins))) S3 hg hm hv q hnn hdbg
        refine test (LM.here ?_)
        cases b with
        | true =>
          refine codeAny_handlers_suite_as ?_
          refine HandSPX.lands_againZ fl3 fun h4 fl4 up4 => ?_
          have J4 : Inv X pins σ' H' { s' with heap := h4 } := J.landed nb fl4.1 ((up.trans up3).trans up4) os ag
          obtain ⟨oe4, vs4, he4, hz4, hd4⟩ := fl4.there
          have S4 := J4.suite he4 hd4 na nL nF
          refine store_ok (X := X.suite a ((a, oe4) :: (X.pn ++ pins))) (v := .ref a) S4 hN hi hloc rfl (fun s5 S5 => ?_) (.inr hln)
          refine wpAny_mono ((hsu a oe4 cls d (X.pn ++ pins)).run [] s5 _ H' _ S5 (hyes rfl a na)) (fun f s6 hsp => ?_) (fun _ _ z => False.elim z)
          cases f with
          | next =>
            obtain ⟨σ6, H6, S6, q6⟩ := hsp
            obtain ⟨pa, pb, _⟩ := S6.pin (a, oe4) (List.mem_append_left _ List.mem_cons_self)
            exact gone_ok (track (S6.unsuite ok) pa hz4 ⟨_, hd4⟩ pb nL new0 np) hN hi hln fun s7 J7 => ⟨_, _, J7, q6 pb⟩
          | brk =>
            obtain ⟨σ6, H6, S6, q6⟩ := hsp
            exact False.elim q6
          | cont =>
            obtain ⟨σ6, H6, S6, q6⟩ := hsp
            exact False.elim q6
          | ret u =>
            obtain ⟨v6, σ6, H6, S6, r6, q6⟩ := hsp
            exact False.elim q6
        | false =>
          show wpAny _ X.A (handleBy (.ref a) X.env hds2) _ _ _
          exact ih (hno rfl)
    exact go hh w
  · cases f with
    | next =>
      obtain ⟨σ', H', J', q⟩ := hsp
      exact wpAny_execs_nil ⟨σ', H', J'.ofTry ok, q⟩
    | brk =>
      obtain ⟨σ', H', J', q⟩ := hsp
      exact ⟨σ', H', J'.ofTry ok, q⟩
    | cont =>
      obtain ⟨σ', H', J', q⟩ := hsp
      exact ⟨σ', H', J'.ofTry ok, q⟩
    | ret u =>
      obtain ⟨v, σ', H', J', r, q⟩ := hsp
      exact ⟨v, σ', H', J'.ofTry ok, r, q⟩
end
end My

/-! ### isinstance of a kept exception, its field -/
namespace My
open PySem PySem.Spec PySem.Calls PyProof.Rows
open PySem.W in
theorem kept_class {prog : Program} {w : World} {A : Around} {E : Value → Shared → Prop} {s : Shared} {K : Frag} {x D : Addr} {ox : Obj} {od : Option Obj} {Q : Option Value → Shared → Prop} (hga : findIn K (.ref D) "__getattribute__" = some (some (.builtin "BaseException.__getattribute__"))) (hgt : findIn K (.ref D) "__getattr__" = some none)
    (hsub : subIn K (.ref D) (.type "BaseException") = some true) (hdct : hasDictIn K D = true) (ha : findIn K (.ref D) "__class__" = some (some (.builtin "object.__class__"))) (hn : specialIn K (.builtin "object.__class__") "__get__" = some (some (.builtin "getset_descriptor.__get__")))
    (htk : takesIn K (.builtin "object.__class__") = some true) (hm : mroIn K D (.type "object") = some true) (X : K.In s.heap) (I : InstAt s.heap x ox D od) (h : Q (some (.ref D)) { s with toks := s.toks + 1 }) : wpAny (model prog w) A (getAttr? (.ref x) "__class__") Q E s := by
  have hf : findObj K D od "__class__" = some (.bind (.builtin "getset_descriptor.__get__") (.builtin "object.__class__")) := by
    obtain ⟨cd, hc, _⟩ := any_some hdct
    unfold findObj
    rw [hc, Option.bind_some, ha, Option.bind_some]
    simp [hn, htk]
  obtain ⟨hp, g, d, t, os⟩ := s
  have L0 := I.type (M := model prog w)
  have L1 := looks_findIn (M := model prog w) X hga
  have L2 := looks_findIn (M := model prog w) X hgt
  have L3 := looks_find (M := model prog w) X I hf
  have sub : Looks (model prog w) hp (isInstance (.ref x) (.type "BaseException")) true := L0.andThen (looks_subIn X hsub)
  have hx0 : (false && onTheHeap (Value.builtin "BaseException.__getattribute__")) = false := rfl
  have hx2 : (Value.builtin "BaseException.__getattribute__" == Value.builtin "object.__getattribute__") = false := by decide +kernel
  have hx1 : (onTheHeap (Value.ref D) && Value.builtin "BaseException.__getattribute__" == Value.builtin "object.__getattribute__") = false := by rw [hx2]; rfl
  unfold getAttr? getAttrBy? getAttrBy
  refine wpAny_bind (wpAny_mkText (wpAny_bind (wpAny_attempt (wpAny_holding (wpAny_bind (L0.at (wpAny_bind (L1.at ?_))))))))
  show wpAny _ _ (if (onTheHeap (Value.ref D) && Value.builtin "BaseException.__getattribute__" == Value.builtin "object.__getattribute__") = true then _ else _) _ _ _
  rw [hx1, if_neg Bool.false_ne_true]
  unfold getAttrByItsOwn hookBefore
  refine wpAny_bind ?_
  rw [if_pos (show onTheHeap (Value.ref D) = true from rfl)]
  refine L2.at ?_
  refine wpAny_bind (wpAny_attempt (wpAny_holding ?_))
  unfold callGetattribute
  rw [hx0, if_neg Bool.false_ne_true]
  unfold boundAndCalled
  rw [PySem.F.excAttr_ValueError.ga.bind (.ref x)]
  refine wpAny_bind (wpAny_pure ?_)
  show wpAny _ _ (call (.builtin "BaseException.__getattribute__") [.ref x, .str "__class__" t]) _ _ _
  refine wpAny_call (codeAny_call_builtin PySem.F.excAttr_ValueError.ga.plain PySem.F.entry_bexc_ga ?_)
  refine @check_slot (model prog w) _ _ ⟨hp, g, d, t + 1, os⟩ "BaseException.__getattribute__" "BaseException" "__getattribute__" (.ref x) [.str "__class__" t] [] _ (by decide +kernel) (by decide +kernel) sub (PySem.F.args_bexc_ga (.ref x) (.str "__class__" t)) ?_
  unfold Builtin.«object.__getattribute__»
  refine wpAny_bind (wpAny_of_eq (a := ((Value.ref x : Value), [Value.str "__class__" t])) (by first | rfl | (simp only [slotArgs]; rfl)) ?_)
  refine wpAny_bind (wpAny_pure (wpAny_bind (L0.at (wpAny_bind (L3.at ?_)))))
  show wpAny _ _ (holding [Value.builtin "object.__class__"] (call (.builtin "getset_descriptor.__get__") [.builtin "object.__class__", .ref x, .ref D]) >>= ret) _ _ _
  refine wpAny_bind (wpAny_holding (wpAny_call (class_get (s := ⟨hp, g, d, t + 1, os⟩) (ox := ox) (od := od) X I hm ?_)))
  refine wpAny_pure ?_
  show wpAny _ _ (handedOut (.ref D)) _ _ _
  rw [handedOut_of (v := .ref D) rfl]
  first
    | exact wpAny_pure (wpAny_pure h)
    | exact wpAny_pure h
    | exact wpAny_pure (wpAny_bind (wpAny_pure (wpAny_pure h)))
open PySem.W in
theorem kept_kit {K : Frag} {x D : Addr} {ox : Obj} {od : Option Obj} (hga : findIn K (.ref D) "__getattribute__" = some (some (.builtin "BaseException.__getattribute__"))) (hgt : findIn K (.ref D) "__getattr__" = some none) (hsub : subIn K (.ref D) (.type "BaseException") = some true) (hdct : hasDictIn K D = true)
    (ha : findIn K (.ref D) "__class__" = some (some (.builtin "object.__class__"))) (hn : specialIn K (.builtin "object.__class__") "__get__" = some (some (.builtin "getset_descriptor.__get__"))) (htk : takesIn K (.builtin "object.__class__") = some true) (hm : mroIn K D (.type "object") = some true) :
    KitX K (.ref x) (.ref D) (fun h => InstAt h x ox D od) where
  ty := fun _ _ _ I => I.type
  it := fun _ _ X _ => by
    obtain ⟨cdD, hcD, _⟩ := any_some hdct
    unfold clsIn at hcD
    split at hcD
    · rename_i c' d' cd' sl' ho
      intro A' Q' E' s' k q
      unfold isType loadHead
      exact wpAny_bind (wpAny_loadPart (k _ _ (X _ _ ho)) (wpAny_pure q))
    · cases hcD
  ne := fun h tp dd its n sl X htp => by
    obtain ⟨cdD, hcD, _⟩ := any_some hdct
    refine Bool.eq_false_iff.mpr fun q => ?_
    have e : D = tp := Value.ref.inj (beq_iff_eq.mp q)
    subst e
    unfold clsIn at hcD
    split at hcD
    · rename_i c' d' cd' sl' ho
      have z := (X _ _ ho).symm.trans htp
      cases z
    · cases hcD
  ca := fun X I k => kept_class hga hgt hsub hdct ha hn htk hm X I k
open L2
/-- a kept exception of the class at D; its dict, if it has one, is tracked -/
def Kept (H : Hp) (a D : Addr) (d : Option Addr) : Prop := H a = some (ExV (.ref D) d a) ∧ (d = none ∨ ∃ dd fs, d = some dd ∧ H dd = some (.xd fs))
section
variable {X : Cx} {pins : List (Addr × Obj)} {σ : L2.St} {H : Hp} {s : Shared}
theorem Kept.inst {a D : Addr} {d : Option Addr} (h : Kept H a D d) (I : Inv X pins σ H s) : ∃ ox od, PySem.W.InstAt s.heap a ox D od ∧ ox.dict = d := by
  obtain ⟨hk, hd⟩ := h
  obtain ⟨⟨o, vs, ho, hc, hdict, hdat⟩, _⟩ := (show ObjOk X.prog X.w H s.heap a (ExV (.ref D) d a) from I.hok a _ hk)
  obtain ⟨oc, ood, oda, osl⟩ := o
  dsimp only at hc hdict hdat
  subst hc hdict hdat
  rcases hd with rfl | ⟨dd, fs, rfl, hdd⟩
  · exact ⟨_, none, ⟨ho, rfl, rfl, trivial⟩, rfl⟩
  · obtain ⟨mA, hns, _⟩ := (show ObjOk X.prog X.w H s.heap dd (.xd fs) from I.hok dd _ hdd)
    obtain ⟨od, ho2, _⟩ := lookIn_ns hns
    exact ⟨_, some od, ⟨ho, rfl, rfl, ho2⟩, rfl⟩
end
/-- isinstance(e, c), e kept -/
def rIsK (K : PySem.W.Frag) : List V → Hp → VK → Prop := fun xs H Q => ∃ (a D : Addr) (d : Option Addr) (c : V) (u : Value) (b : Bool), xs = [.ref a, c] ∧ Kept H a D d ∧ ExcC K D ∧ ClsV c u ∧ PySem.W.kitOne K (.ref D) u = some b ∧ Q (.bl b) H
theorem call_isK {X : Cx} : CallR X (.builtin "isinstance") (rIsK X.K) := by
  intro pins s σ H xs us Q I r h
  obtain ⟨a, D, d, c, u, b, rfl, hk, C, hc, e, q⟩ := h
  obtain ⟨u1, u2, rfl, r1, r2⟩ := vals2 r
  have e2 := hc.eq r2
  subst e2
  obtain rfl : u1 = Value.ref a := r1
  obtain ⟨ox, od, J, _⟩ := hk.inst I
  exact PySem.W.kia_one (kept_kit C.hg C.hk C.hs C.hd C.ha C.hn C.ht C.hm) I.kIn J e (fun z => nomatch z) fun tk => ⟨.bl b, H, I.tok tk, rfl, q⟩
/-- isinstance(x, c), x a value of the layer or a kept exception -/
theorem call_isA {X : Cx} : CallR X (.builtin "isinstance") (fun xs H Q => rIsi X.K xs H Q ∨ rIsK X.K xs H Q) := CallR.or call_isi call_isK
/-- e.f, e kept -/
def tKFld (K : PySem.W.Frag) (te : TE) (f : Str) : TE := fun σ H Q => te σ H fun x H1 => ∃ (a D dd : Addr) (fs : List (Str × V)) (v : V), x = .ref a ∧ H1 a = some (ExV (.ref D) (some dd) a) ∧ H1 dd = some (.xd fs) ∧ ExcC K D ∧ PySem.W.findIn K (.ref D) f = some none ∧ fs.lookup f = some v ∧ Q v H1
theorem pe_kf {X : Cx} {e : Expr} {te : TE} {f : Str} {pos : Pos} (he : PE X e te) (hb : attributeBase e f X.env (eval e X.env) = eval e X.env := by rfl) : PE X (.Attribute e f pos) (tKFld X.K te f) := by
  refine ⟨fun pins s σ H Q I h => ?_⟩
  refine attr_of hb (thn (he.run pins s σ H _ I h) fun u s1 hh => ?_)
  obtain ⟨x, H1, I1, rx, a, D, dd, fs, v, rfl, ha, hdd, C, hno, hl, q⟩ := hh
  obtain rfl : u = Value.ref a := rx
  obtain ⟨ox, od, J, hdict⟩ := Kept.inst (D := D) (d := some dd) ⟨ha, .inr ⟨dd, fs, rfl, hdd⟩⟩ I1
  have hx : ObjOk X.prog X.w H1 s1.heap dd (.xd fs) := I1.hok dd _ hdd
  obtain ⟨mA, hns, hr⟩ := hx
  obtain ⟨od2, ho2, hlk⟩ := lookIn_ns hns
  obtain ⟨w', hu, ru⟩ := RelO.some_of (v := v) (o := mA f) (by rw [← hl]; exact hr f)
  have J2 : PySem.W.InstAt s1.heap a ox D (some od2) := ⟨J.at_, J.cls, J.no, by rw [hdict]; exact ho2⟩
  exact HandSPX.exc_get I1.kIn J2 C.hg C.hk C.hs (PySem.W.findObj_own C.hd hno rfl (by rw [hlk, hu])) (handed_of ru) ⟨v, H1, I1.tok _, ru, q⟩
end My

/-! ### calls of defs that may raise -/
namespace My
open PySem PySem.Spec PyProof.Rows L2
structure CalX (P : Program) (w : World) (K : PySem.W.Frag) (mg : Str → Option Value) (base : Heap) (k : Nat) (x : Str) (sp : Sp) : Prop where
  ex : ∃ (f : Addr) (fd : FuncData) (ps : List Str), FnOk P w K mg base (L2.CX P w) k f fd ps sp ∧ mg x = some (.ref f) ∧ PySem.W.keepIn K (.ref f) = true ∧ Binds K fd ps []
structure KCalX (P : Program) (w : World) (K : PySem.W.Frag) (mg : Str → Option Value) (base : Heap) (k : Nat) (x : Str) (sp : Sp) (n : Nat) (ks : List Str) (gV : List V → List V → List V) : Prop where
  ex : ∃ (f : Addr) (fd : FuncData) (ps : List Str) (g : List Value → List Value → List Value), FnOk P w K mg base (L2.CX P w) k f fd ps sp ∧ mg x = some (.ref f) ∧ PySem.W.keepIn K (.ref f) = true ∧
    (∀ (s : Shared) (us ws : List Value), K.In s.heap → us.length = n → ws.length = ks.length → BindsTo s fd ⟨us, ks.zip ws⟩ (ps.zip (g us ws))) ∧
    (∀ {vs : List V} {us : List Value} {zs : List V} {ws : List Value}, Vals vs us → Vals zs ws → Vals (gV vs zs) (g us ws))
section
variable {X : Cx} {k j n : Nat} {x : Str} {ks : List Str} {sp : Sp} {E : L2.St → XK} {gV : List V → List V → List V} {p pos : Pos} {e : Expr} {es : List Expr} {kws : List Keyword} {t tk : TA}
/-- it raises nothing here -/
theorem pe_cX (c : CalX X.prog X.w X.K X.mg X.base k x sp) (hr : Room j X.A) (hk : k ≤ j) (hg : Gl X x) (ha : PA X (e :: es) t)
    (hdb : (x == ("__debug__" : Str)) = false := by decide) (he : starEach (e :: es) X.env = (false, eval e X.env) :: starEach es X.env := by rfl) (hpl : (backTo pos (starEach es X.env)).any (·.1) = false := by rfl) :
    PE X (.Call (.Name x p) (e :: es) [] pos) (tCall sp [] E0 t) := by
  obtain ⟨f, fd, ps, F, hm, kp, b⟩ := c.ex
  exact pe_call F (hr.mono hk) hg hm kp b .nil passL ha hdb he hpl
/-- within a try's body -/
theorem pe_cS (c : CalX X.prog X.w X.K X.mg X.base k x sp) (hr : Room j X.A) (hk : k ≤ j) (hg : Gl X x) (hx : ∀ σ, PassesAt (L2.CX X.prog X.w) X σ (E σ)) (ha : PA X (e :: es) t)
    (hdb : (x == ("__debug__" : Str)) = false := by decide) (he : starEach (e :: es) X.env = (false, eval e X.env) :: starEach es X.env := by rfl) (hpl : (backTo pos (starEach es X.env)).any (·.1) = false := by rfl) :
    PE X (.Call (.Name x p) (e :: es) [] pos) (tCallS sp E t) := by
  obtain ⟨f, fd, ps, F, hm, kp, b⟩ := c.ex
  exact pe_callS F (hr.mono hk) hg hm kp b hx ha hdb he hpl
def tCkS (sp : Sp) (n m : Nat) (gV : List V → List V → List V) (E : L2.St → XK) (t tk : TA) : TE := fun σ H Q => t σ H fun vs H1 => tk σ H1 fun zs H2 => vs.length = n ∧ zs.length = m ∧ sp (gV vs zs) H2 Q (E σ)
theorem run_ckS {pins : List (Addr × Obj)} {σ : L2.St} {H : Hp} {s : Shared} {Q : VK} {us ws : List Value} {vs zs : List V} {f : Addr} {fd : FuncData} {ps : List Str} {g : List Value → List Value → List Value} {E1 : XK}
    (F : FnOk X.prog X.w X.K X.mg X.base (L2.CX X.prog X.w) k f fd ps sp) (hr : Room k X.A)
    (to : ∀ (s : Shared) (us ws : List Value), X.K.In s.heap → us.length = n → ws.length = ks.length → BindsTo s fd ⟨us, ks.zip ws⟩ (ps.zip (g us ws)))
    (rel : ∀ {vs : List V} {us : List Value} {zs : List V} {ws : List Value}, Vals vs us → Vals zs ws → Vals (gV vs zs) (g us ws)) (hx : PassesAt (L2.CX X.prog X.w) X σ E1)
    (I : Inv X pins σ H s) (r : Vals vs us) (rz : Vals zs ws) (l1 : vs.length = n) (l2 : zs.length = ks.length) (h : sp (gV vs zs) H Q E1) : wpAny (model X.prog X.w) X.A (call (.ref f) us (ks.zip ws)) (EP X pins σ Q) X.xe s := by
  have r2 := rel r rz
  refine wpAny_call (codeAny_mono (F.run X.A X.stack s H ⟨us, ks.zip ws⟩ (g us ws) (gV vs zs) Q E1 hr I.env0 (to s us ws I.kIn (by rw [← r.length]; exact l1) (by rw [← rz.length]; exact l2)) r2 h) fun r s' hq => ?_)
  cases r with
  | error e => exact hx pins H s e s' I hq
  | ok fl =>
    cases fl with
    | ret u => exact I.after hq
    | next => exact False.elim hq
    | brk => exact False.elim hq
    | cont => exact False.elim hq
theorem pe_ck0S (c : KCalX X.prog X.w X.K X.mg X.base k x sp 0 ks gV) (hr : Room j X.A) (hk : k ≤ j) (hg : Gl X x) (hx : ∀ σ, PassesAt (L2.CX X.prog X.w) X σ (E σ)) (hkw : PK X kws tk)
    (hall : (backToKw pos (keywordEach kws X.env)).all (·.1.isSome) = true := by rfl) (hks : (backToKw pos (keywordEach kws X.env)).filterMap (·.1) = ks := by rfl) (hdb : (x == ("__debug__" : Str)) = false := by decide)
    (hpl : ((backTo pos (starEach [] X.env)).any (·.1) || (backToKw pos (keywordEach kws X.env)).any (·.1.isNone)) = false := by rfl) :
    PE X (.Call (.Name x p) [] kws pos) (tCkS sp 0 ks.length gV E tNil tk) := by
  obtain ⟨f, fd, ps, g, F, hm, kp, to, rel⟩ := c.ex
  refine ⟨fun pins s σ H Q I h => ?_⟩
  refine wpAny_Call_Name_kw (ld_glob I hg hm ?_ hdb)
  refine PySem.W.callWith_KW0 (h₀ := X.base) I.ok.mod.kin kp hall ?_ hpl
  refine thn (hkw.run pos pins s σ H _ I h) fun ws s2 ⟨zs, H2, I2, rz, l1, l2, q2⟩ => ⟨I2.kIn, ?_⟩
  rw [hks]
  exact run_ckS (us := []) (vs := []) F (hr.mono hk) to rel (hx σ) I2 .nil rz rfl l2 q2
theorem pe_ck0X (c : KCalX X.prog X.w X.K X.mg X.base k x sp 0 ks gV) (hr : Room j X.A) (hk : k ≤ j) (hg : Gl X x) (hkw : PK X kws tk)
    (hall : (backToKw pos (keywordEach kws X.env)).all (·.1.isSome) = true := by rfl) (hks : (backToKw pos (keywordEach kws X.env)).filterMap (·.1) = ks := by rfl) (hdb : (x == ("__debug__" : Str)) = false := by decide)
    (hpl : ((backTo pos (starEach [] X.env)).any (·.1) || (backToKw pos (keywordEach kws X.env)).any (·.1.isNone)) = false := by rfl) :
    PE X (.Call (.Name x p) [] kws pos) (tCkS sp 0 ks.length gV (fun _ => E0) tNil tk) := by
  exact pe_ck0S c hr hk hg (fun σ pins H s e s' I h => passL pins σ H s e s' I h) hkw hall hks hdb hpl
end
/-! ### classes of errors: what the top has written of them -/
/-- a class that stands in an except clause or behind isinstance -/
structure ClsF (K : PySem.W.Frag) (C : Addr) : Prop where
  i : PySem.W.isClsIn K C = true
  t : PySem.W.typeIn K (.ref C) = some (.type "type")
theorem kit_of_sub {K : PySem.W.Frag} {t : Value} {C : Addr} {b : Bool} (c : ClsF K C) (s : PySem.W.subIn K t (.ref C) = some b) (n : (t == Value.ref C) = false) : PySem.W.kitOne K t (.ref C) = some b := by
  have e2 : ((PySem.W.clsIn K C).isSome && PySem.W.typeIn K (.ref C) == some (.type "type")) = true := by
    rw [show (PySem.W.clsIn K C).isSome = true from c.i, c.t] <;> rfl
  show (if (t == Value.ref C) = true then some true else if ((PySem.W.clsIn K C).isSome && PySem.W.typeIn K (.ref C) == some (.type "type")) = true then PySem.W.subIn K t (.ref C) else none) = some b
  rw [if_neg (by rw [n]; exact Bool.false_ne_true), if_pos e2]
  exact s
theorem kit_self {K : PySem.W.Frag} {C : Addr} : PySem.W.kitOne K (.ref C) (.ref C) = some true := by
  show (if (Value.ref C == Value.ref C) = true then some true else _) = some true
  rw [if_pos (by simp)]
theorem kit_none {K : PySem.W.Frag} {C : Addr} (c : ClsF K C) (s : PySem.W.subIn K (.type "NoneType") (.ref C) = some false) : PySem.W.kitOne K (.type "NoneType") (.ref C) = some false := kit_of_sub c s rfl
theorem exm_of_sub {K : PySem.W.Frag} {t : Value} {C : Addr} {b : Bool} (c : ClsF K C) (be : PySem.W.subIn K (.ref C) (.type "BaseException") = some true) (s : PySem.W.subIn K t (.ref C) = some b) : PySem.W.exmOne K t (.ref C) = some b := by
  have e2 : ((PySem.W.clsIn K C).isSome && PySem.W.typeIn K (.ref C) == some (.type "type")) = true := by
    rw [show (PySem.W.clsIn K C).isSome = true from c.i, c.t] <;> rfl
  have e1 : (PySem.W.subIn K (.ref C) (.type "BaseException") == some true) = true := by rw [be] <;> rfl
  show (if (PySem.W.subIn K (.ref C) (.type "BaseException") == some true) = true then (if ((PySem.W.clsIn K C).isSome && PySem.W.typeIn K (.ref C) == some (.type "type")) = true then PySem.W.subIn K t (.ref C) else none) else none) = some b
  rw [if_pos e1, if_pos e2]
  exact s
end My

/-! ### fractions, in plain Lean -/
namespace My
/-- the lowest form of a fraction: what its top and its bottom become -/
def sg (b : Int) : Int := if b < 0 then -1 else 1
def shr (t b : Int) : Int := sg b * (Int.gcd t b : Nat)
def lowT (t b : Int) : Int := t.fdiv (shr t b)
def lowB (t b : Int) : Int := b.fdiv (shr t b)
theorem gcd_pos {t b : Int} (hb : b ≠ 0) : 0 < Int.gcd t b := Int.gcd_pos_of_ne_zero_right t hb
theorem sg_sq (b : Int) : sg b * sg b = 1 := by unfold sg; split <;> rfl
theorem shr_ne {t b : Int} (hb : b ≠ 0) : shr t b ≠ 0 := by
  have h := gcd_pos (t := t) hb
  unfold shr sg
  split <;> omega
theorem shr_dvd_t (t b : Int) : shr t b ∣ t := by
  unfold shr sg
  split
  · rw [Int.neg_mul, Int.one_mul, Int.neg_dvd]; exact Int.gcd_dvd_left t b
  · rw [Int.one_mul]; exact Int.gcd_dvd_left t b
theorem shr_dvd_b (t b : Int) : shr t b ∣ b := by
  unfold shr sg
  split
  · rw [Int.neg_mul, Int.one_mul, Int.neg_dvd]; exact Int.gcd_dvd_right t b
  · rw [Int.one_mul]; exact Int.gcd_dvd_right t b
theorem low_t {t b : Int} (hb : b ≠ 0) : lowT t b * shr t b = t := by
  unfold lowT
  rw [Int.fdiv_eq_ediv_of_dvd (shr_dvd_t t b)]
  exact Int.ediv_mul_cancel (shr_dvd_t t b)
theorem low_b {t b : Int} (hb : b ≠ 0) : lowB t b * shr t b = b := by
  unfold lowB
  rw [Int.fdiv_eq_ediv_of_dvd (shr_dvd_b t b)]
  exact Int.ediv_mul_cancel (shr_dvd_b t b)
theorem shr_abs {t b : Int} : (shr t b).natAbs = Int.gcd t b := by
  unfold shr sg
  split <;> simp
theorem lowB_pos {t b : Int} (hb : b ≠ 0) : 0 < lowB t b := by
  have h := low_b (t := t) hb
  have g := gcd_pos (t := t) hb
  unfold shr sg at h
  split at h
  · rename_i hneg
    rcases Int.lt_trichotomy 0 (lowB t b) with h1 | h1 | h1
    · exact h1
    · rw [← h1] at h; simp at h; omega
    · exfalso
      have : 0 < lowB t b * (-1 * (Int.gcd t b : Int)) := by
        rw [Int.neg_mul, Int.one_mul]
        exact Int.mul_pos_of_neg_of_neg h1 (by omega)
      omega
  · rename_i hpos
    rcases Int.lt_trichotomy 0 (lowB t b) with h1 | h1 | h1
    · exact h1
    · rw [← h1] at h; simp at h; omega
    · exfalso
      have : lowB t b * (1 * (Int.gcd t b : Int)) < 0 := by
        rw [Int.one_mul]
        exact Int.mul_neg_of_neg_of_pos h1 (by omega)
      omega
theorem lowT_abs {t b : Int} (hb : b ≠ 0) : (lowT t b).natAbs ≤ t.natAbs := by
  have h := congrArg Int.natAbs (low_t (t := t) hb)
  rw [Int.natAbs_mul, shr_abs] at h
  have g := gcd_pos (t := t) hb
  rw [← h]
  exact Nat.le_mul_of_pos_right _ g
theorem lowB_abs {t b : Int} (hb : b ≠ 0) : (lowB t b).natAbs ≤ b.natAbs := by
  have h := congrArg Int.natAbs (low_b (t := t) hb)
  rw [Int.natAbs_mul, shr_abs] at h
  have g := gcd_pos (t := t) hb
  rw [← h]
  exact Nat.le_mul_of_pos_right _ g
theorem low_coprime {t b : Int} (hb : b ≠ 0) : Int.gcd (lowT t b) (lowB t b) = 1 := by
  have g := gcd_pos (t := t) hb
  have h : Int.gcd (lowT t b * shr t b) (lowB t b * shr t b) = Int.gcd t b := by rw [low_t hb, low_b hb]
  rw [Int.gcd_mul_right, shr_abs] at h
  exact Nat.eq_of_mul_eq_mul_right g (by omega)
theorem dvd_of_mul {a b d : Int} (g : Int.gcd a b = 1) (h : b ∣ a * d) : b ∣ d := by
  have h1 : b.natAbs ∣ a.natAbs * d.natAbs := by rw [← Int.natAbs_mul]; exact Int.natAbs_dvd_natAbs.mpr h
  have c : Nat.Coprime b.natAbs a.natAbs := by
    have g' : Nat.gcd a.natAbs b.natAbs = 1 := g
    show Nat.gcd b.natAbs a.natAbs = 1
    rw [Nat.gcd_comm]; exact g'
  exact Int.natAbs_dvd_natAbs.mp (c.dvd_of_dvd_mul_left h1)
/-- a lowest form is told by its worth -/
theorem lowest_eq {a b c d : Int} (hb : 0 < b) (hd : 0 < d) (g1 : Int.gcd a b = 1) (g2 : Int.gcd c d = 1) (h : a * d = c * b) : a = c ∧ b = d := by
  have e1 : b ∣ d := by
    have : b ∣ a * d := by rw [h]; exact Int.dvd_mul_left c b
    exact dvd_of_mul g1 this
  have e2 : d ∣ b := by
    have : d ∣ c * b := by rw [← h]; exact Int.dvd_mul_left a d
    exact dvd_of_mul g2 this
  have e : b = d := Int.dvd_antisymm (by omega) (by omega) e1 e2
  subst e
  exact ⟨Int.eq_of_mul_eq_mul_right (by omega) h, rfl⟩
theorem low_unique {t b c d : Int} (hb : b ≠ 0) (hd : 0 < d) (g : Int.gcd c d = 1) (h : t * d = c * b) : lowT t b = c ∧ lowB t b = d := by
  refine lowest_eq (lowB_pos hb) hd (low_coprime hb) g ?_
  have n := shr_ne (t := t) hb
  have h1 := low_t (t := t) hb
  have h2 := low_b (t := t) hb
  apply Int.eq_of_mul_eq_mul_right n
  calc lowT t b * d * shr t b = (lowT t b * shr t b) * d := by rw [Int.mul_right_comm]
    _ = t * d := by rw [h1]
    _ = c * b := h
    _ = c * (lowB t b * shr t b) := by rw [h2]
    _ = c * lowB t b * shr t b := by rw [Int.mul_assoc]
theorem low_congr {t b c d : Int} (hb : b ≠ 0) (hd : d ≠ 0) (h : t * d = c * b) : lowT t b = lowT c d ∧ lowB t b = lowB c d := by
  refine low_unique hb (lowB_pos hd) (low_coprime hd) ?_
  have n := shr_ne (t := c) hd
  apply Int.eq_of_mul_eq_mul_right n
  have h1 := low_t (t := c) hd
  have h2 := low_b (t := c) hd
  calc t * lowB c d * shr c d = t * (lowB c d * shr c d) := Int.mul_assoc _ _ _
    _ = t * d := by rw [h2]
    _ = c * b := h
    _ = (lowT c d * shr c d) * b := by rw [h1]
    _ = lowT c d * b * shr c d := by rw [Int.mul_right_comm]
theorem low_id {t b : Int} (hb : 0 < b) (g : Int.gcd t b = 1) : lowT t b = t ∧ lowB t b = b := low_unique (by omega) hb g (by rw [])
end My

/-! ### bare parts and whole roots, in plain Lean -/
namespace My
/-- no square of 2 and more divides d -/
def SF (d : Nat) : Prop := ∀ p, 2 ≤ p → ¬ p * p ∣ d
def NoDiv (f r : Nat) : Prop := ∀ p, 2 ≤ p → p < f → ¬ p ∣ r
theorem sf_one : SF 1 := fun p hp h => by
  have := Nat.le_of_dvd (by decide) h
  have : 4 ≤ p * p := Nat.mul_le_mul hp hp
  omega
theorem sq_dvd_parts {p a b : Nat} (c : Nat.Coprime a b) (h : p * p ∣ a * b) : ∃ g k, p = g * k ∧ g * g ∣ a ∧ k * k ∣ b := by
  have h1 : p ∣ a * b := Nat.dvd_trans (Nat.dvd_mul_right p p) h
  have e : p = Nat.gcd p a * Nat.gcd p b := by
    rw [← Nat.Coprime.gcd_mul p c]
    exact (Nat.gcd_eq_left h1).symm
  refine ⟨Nat.gcd p a, Nat.gcd p b, e, ?_, ?_⟩
  · have c1 : Nat.Coprime (Nat.gcd p a * Nat.gcd p a) b := by
      have : Nat.Coprime (Nat.gcd p a) b := Nat.Coprime.coprime_dvd_left (Nat.gcd_dvd_right p a) c
      exact Nat.Coprime.mul_left this this
    have d1 : Nat.gcd p a * Nat.gcd p a ∣ a * b := Nat.dvd_trans (Nat.mul_dvd_mul (Nat.gcd_dvd_left p a) (Nat.gcd_dvd_left p a)) h
    exact c1.dvd_of_dvd_mul_right d1
  · have c1 : Nat.Coprime (Nat.gcd p b * Nat.gcd p b) a := by
      have : Nat.Coprime (Nat.gcd p b) a := Nat.Coprime.coprime_dvd_left (Nat.gcd_dvd_right p b) c.symm
      exact Nat.Coprime.mul_left this this
    have d1 : Nat.gcd p b * Nat.gcd p b ∣ a * b := Nat.dvd_trans (Nat.mul_dvd_mul (Nat.gcd_dvd_left p b) (Nat.gcd_dvd_left p b)) h
    exact c1.dvd_of_dvd_mul_left d1
theorem sf_mul {a b : Nat} (c : Nat.Coprime a b) (ha : SF a) (hb : SF b) : SF (a * b) := fun p hp h => by
  obtain ⟨g, k, e, hg, hk⟩ := sq_dvd_parts c h
  have g2 : g < 2 := Nat.lt_of_not_le fun z => ha g z hg
  have k2 : k < 2 := Nat.lt_of_not_le fun z => hb k z hk
  have : g * k ≤ 1 * 1 := Nat.mul_le_mul (by omega) (by omega)
  omega
/-- the state of the search: all below f is taken out of n -/
structure BI (n f found rest : Nat) : Prop where
  eq : ∃ k, n = found * rest * (k * k)
  sf : SF found
  co : Nat.Coprime found rest
  nd : NoDiv f rest
  r0 : 0 < rest
theorem bi_start {n : Nat} (h : 0 < n) : BI n 2 1 n := ⟨⟨1, by simp⟩, sf_one, Nat.coprime_one_left n, fun p h1 h2 => by omega, h⟩
theorem bi_sq {n f found rest : Nat} (hf : 2 ≤ f) (h : BI n f found rest) (d : f * f ∣ rest) : BI n f found (rest / (f * f)) := by
  obtain ⟨q, rfl⟩ := d
  have f0 : 0 < f * f := Nat.mul_pos (by omega) (by omega)
  rw [Nat.mul_div_cancel_left q f0]
  obtain ⟨k, hk⟩ := h.eq
  refine ⟨⟨k * f, ?_⟩, h.sf, Nat.Coprime.coprime_dvd_right (Nat.dvd_mul_left q (f * f)) h.co, fun p h1 h2 z => h.nd p h1 h2 (Nat.dvd_trans z (Nat.dvd_mul_left q (f * f))), ?_⟩
  · rw [hk]
    simp only [Nat.mul_assoc, Nat.mul_left_comm, Nat.mul_comm]
  · have := h.r0
    exact Nat.pos_of_mul_pos_left this
theorem nodiv_up {f r : Nat} (h : NoDiv f r) (d : ¬ f ∣ r) : NoDiv (f + 1) r := fun p h1 h2 => by
  by_cases e : p = f
  · rw [e]; exact d
  · exact h p h1 (by omega)
/-- what divides nothing below it has no square within -/
theorem sf_of_nodiv {f r : Nat} (_hf : 2 ≤ f) (h : NoDiv f r) (d : f ∣ r) : SF f := fun p hp z => by
  have p1 : p ∣ f := Nat.dvd_trans (Nat.dvd_mul_right p p) z
  have f0 : 0 < f := by omega
  have le : p * p ≤ f := Nat.le_of_dvd f0 z
  have lt : p < f := by
    have : p * 2 ≤ p * p := Nat.mul_le_mul_left p hp
    omega
  exact h p hp lt (Nat.dvd_trans p1 d)
theorem co_of_nodiv {f r q : Nat} (h : NoDiv f r) (hr : f ∣ r) (d : ¬ f ∣ q) (f0 : 0 < f) : Nat.Coprime f q := by
  have g1 : Nat.gcd f q ∣ f := Nat.gcd_dvd_left f q
  have g2 : Nat.gcd f q ∣ q := Nat.gcd_dvd_right f q
  have gp : 0 < Nat.gcd f q := Nat.gcd_pos_of_pos_left q f0
  show Nat.gcd f q = 1
  rcases Nat.lt_or_ge (Nat.gcd f q) 2 with l | l
  · omega
  · exfalso
    have le := Nat.le_of_dvd f0 g1
    rcases Nat.lt_or_ge (Nat.gcd f q) f with l2 | l2
    · exact h _ l l2 (Nat.dvd_trans g1 hr)
    · have : Nat.gcd f q = f := by omega
      exact d (this ▸ g2)
theorem bi_one {n f found rest : Nat} (hf : 2 ≤ f) (h : BI n f found rest) (d2 : ¬ f * f ∣ rest) (d : f ∣ rest) : BI n (f + 1) (found * f) (rest / f) := by
  obtain ⟨q, rfl⟩ := d
  have f0 : 0 < f := by omega
  rw [Nat.mul_div_cancel_left q f0]
  have nq : ¬ f ∣ q := fun z => d2 (Nat.mul_dvd_mul (Nat.dvd_refl f) z)
  obtain ⟨k, hk⟩ := h.eq
  have ndq : NoDiv f q := fun p h1 h2 z => h.nd p h1 h2 (Nat.dvd_trans z (Nat.dvd_mul_left q f))
  have cf : Nat.Coprime found f := Nat.Coprime.coprime_dvd_right (Nat.dvd_mul_right f q) h.co
  have cq : Nat.Coprime found q := Nat.Coprime.coprime_dvd_right (Nat.dvd_mul_left q f) h.co
  refine ⟨⟨k, ?_⟩, sf_mul cf h.sf (sf_of_nodiv hf h.nd (Nat.dvd_mul_right f q)), Nat.Coprime.mul_left cq (co_of_nodiv h.nd (Nat.dvd_mul_right f q) nq f0), nodiv_up ndq nq, ?_⟩
  · rw [hk]
    simp only [Nat.mul_assoc]
  · have := h.r0
    exact Nat.pos_of_mul_pos_left this
theorem bi_none {n f found rest : Nat} (h : BI n f found rest) (d : ¬ f ∣ rest) : BI n (f + 1) found rest := ⟨h.eq, h.sf, h.co, nodiv_up h.nd d, h.r0⟩
/-- the law's way: f is taken out one by one -/
structure BL (n f found many size : Nat) : Prop where
  eq : ∃ k, n = found * (if many % 2 = 1 then f else 1) * size * (k * k)
  sf : SF found
  co : Nat.Coprime found size
  nd : NoDiv f size
  r0 : 0 < size
  up : 0 < many → Nat.Coprime found f ∧ ∃ r, NoDiv f r ∧ f ∣ r
theorem bl_start {n f found rest : Nat} (h : BI n f found rest) : BL n f found 0 rest := by
  obtain ⟨k, hk⟩ := h.eq
  exact ⟨⟨k, by simpa using hk⟩, h.sf, h.co, h.nd, h.r0, fun z => absurd z (by decide)⟩
theorem bl_step {n f found many size : Nat} (hf : 2 ≤ f) (h : BL n f found many size) (d : f ∣ size) : BL n f found (many + 1) (size / f) := by
  obtain ⟨q, rfl⟩ := d
  have f0 : 0 < f := by omega
  rw [Nat.mul_div_cancel_left q f0]
  obtain ⟨k, hk⟩ := h.eq
  refine ⟨?_, h.sf, Nat.Coprime.coprime_dvd_right (Nat.dvd_mul_left q f) h.co, fun p h1 h2 z => h.nd p h1 h2 (Nat.dvd_trans z (Nat.dvd_mul_left q f)), Nat.pos_of_mul_pos_left h.r0, fun _ => ⟨Nat.Coprime.coprime_dvd_right (Nat.dvd_mul_right f q) h.co, f * q, h.nd, Nat.dvd_mul_right f q⟩⟩
  by_cases e : many % 2 = 1
  · refine ⟨k * f, ?_⟩
    rw [if_neg (by omega)]
    rw [if_pos e] at hk
    rw [hk]
    simp only [Nat.mul_assoc, Nat.mul_left_comm, Nat.mul_comm, Nat.mul_one, Nat.one_mul]
  · refine ⟨k, ?_⟩
    rw [if_pos (by omega)]
    rw [if_neg e] at hk
    rw [hk]
    simp only [Nat.mul_assoc, Nat.mul_one, Nat.one_mul]
theorem bl_end {n f found many size : Nat} (hf : 2 ≤ f) (h : BL n f found many size) (d : ¬ f ∣ size) : BI n (f + 1) (if many % 2 = 1 then found * f else found) size := by
  obtain ⟨k, hk⟩ := h.eq
  by_cases e : many % 2 = 1
  · rw [if_pos e]
    rw [if_pos e] at hk
    obtain ⟨cf, r, hr, hd⟩ := h.up (by omega)
    exact ⟨⟨k, hk⟩, sf_mul cf h.sf (sf_of_nodiv hf hr hd), Nat.Coprime.mul_left h.co (co_of_nodiv hr hd d (by omega)), nodiv_up h.nd d, h.r0⟩
  · rw [if_neg e]
    rw [if_neg e, Nat.mul_one] at hk
    exact ⟨⟨k, hk⟩, h.sf, h.co, nodiv_up h.nd d, h.r0⟩
theorem sf_rest {f r : Nat} (hf : 2 ≤ f) (nd : NoDiv f r) (r0 : 0 < r) (big : r < f * f * f) (ns : ¬ ∃ m, r = m * m) : SF r := fun p hp ⟨q, hq⟩ => by
  have p1 : p ∣ r := ⟨p * q, by rw [hq, Nat.mul_assoc]⟩
  have pf : f ≤ p := Nat.le_of_not_lt fun z => nd p hp z p1
  have q0 : 0 < q := by
    rcases Nat.eq_zero_or_pos q with z | z
    · rw [z] at hq; omega
    · exact z
  have qf : q < f := by
    refine Nat.lt_of_not_le fun z => ?_
    have a1 : f * f ≤ p * p := Nat.mul_le_mul pf pf
    have a2 : f * f * f ≤ p * p * q := Nat.mul_le_mul a1 z
    omega
  have q1 : q = 1 := by
    rcases Nat.lt_or_ge q 2 with l | l
    · omega
    · exact absurd ⟨p * p, by rw [hq, Nat.mul_comm]⟩ (nd q l qf)
  exact ns ⟨p, by rw [hq, q1, Nat.mul_one]⟩
/-- b is the bare part of n -/
def Bare (b n : Int) : Prop := b ≠ 0 ∧ SF b.natAbs ∧ ∃ k : Int, n = b * (k * k)
theorem bare_abs {n f found rest : Nat} (hf : 2 ≤ f) (h : BI n f found rest) (big : rest < f * f * f) : (∀ m, rest = m * m → SF found ∧ ∃ k, n = found * (k * k)) ∧ ((¬ ∃ m, rest = m * m) → SF (found * rest) ∧ ∃ k, n = found * rest * (k * k)) := by
  obtain ⟨k, hk⟩ := h.eq
  refine ⟨fun m hm => ⟨h.sf, m * k, ?_⟩, fun ns => ⟨sf_mul h.co h.sf (sf_rest hf h.nd h.r0 big ns), k, hk⟩⟩
  rw [hk, hm]
  simp only [Nat.mul_assoc, Nat.mul_left_comm, Nat.mul_comm]
theorem sq_abs (k : Int) : (k * k).natAbs = k.natAbs * k.natAbs := Int.natAbs_mul k k
theorem bare_unique {b c n : Int} (hn : n ≠ 0) (hb : Bare b n) (hc : Bare c n) : b = c := by
  obtain ⟨b0, sb, k, ek⟩ := hb
  obtain ⟨c0, sc, m, em⟩ := hc
  have hk : k ≠ 0 := fun z => hn (by rw [ek, z]; simp)
  have hm : m ≠ 0 := fun z => hn (by rw [em, z]; simp)
  have e : b.natAbs * (k.natAbs * k.natAbs) = c.natAbs * (m.natAbs * m.natAbs) := by
    rw [← sq_abs, ← sq_abs, ← Int.natAbs_mul, ← Int.natAbs_mul, ← ek, ← em]
  have abs_eq : b.natAbs = c.natAbs := by
    have g0 : 0 < Nat.gcd k.natAbs m.natAbs := Nat.gcd_pos_of_pos_left _ (Int.natAbs_pos.mpr hk)
    obtain ⟨k', m', co, e1, e2⟩ : ∃ k' m', Nat.Coprime k' m' ∧ k.natAbs = k' * Nat.gcd k.natAbs m.natAbs ∧ m.natAbs = m' * Nat.gcd k.natAbs m.natAbs :=
      ⟨k.natAbs / Nat.gcd k.natAbs m.natAbs, m.natAbs / Nat.gcd k.natAbs m.natAbs, Nat.coprime_div_gcd_div_gcd g0, (Nat.div_mul_cancel (Nat.gcd_dvd_left _ _)).symm, (Nat.div_mul_cancel (Nat.gcd_dvd_right _ _)).symm⟩
    generalize Nat.gcd k.natAbs m.natAbs = g at *
    rw [e1, e2] at e
    have e3 : b.natAbs * (k' * k') = c.natAbs * (m' * m') := by
      apply Nat.eq_of_mul_eq_mul_right (Nat.mul_pos g0 g0)
      calc b.natAbs * (k' * k') * (g * g) = b.natAbs * (k' * g * (k' * g)) := by simp only [Nat.mul_assoc, Nat.mul_left_comm, Nat.mul_comm]
        _ = c.natAbs * (m' * g * (m' * g)) := e
        _ = c.natAbs * (m' * m') * (g * g) := by simp only [Nat.mul_assoc, Nat.mul_left_comm, Nat.mul_comm]
    have cc : Nat.Coprime (k' * k') (m' * m') := Nat.Coprime.mul_left (Nat.Coprime.mul_right co co) (Nat.Coprime.mul_right co co)
    have d1 : k' * k' ∣ c.natAbs := cc.dvd_of_dvd_mul_right ⟨b.natAbs, by rw [← e3, Nat.mul_comm]⟩
    have d2 : m' * m' ∣ b.natAbs := cc.symm.dvd_of_dvd_mul_right ⟨c.natAbs, by rw [e3, Nat.mul_comm]⟩
    have k1 : k' < 2 := Nat.lt_of_not_le fun z => sc k' z d1
    have m1 : m' < 2 := Nat.lt_of_not_le fun z => sb m' z d2
    have k0 : k' ≠ 0 := fun z => by rw [z, Nat.zero_mul] at e1; omega
    have m0 : m' ≠ 0 := fun z => by rw [z, Nat.zero_mul] at e2; omega
    have : k' = 1 := by omega
    have : m' = 1 := by omega
    subst k' m'
    simpa using e3
  -- the signs
  have pk : 0 < k * k := by
    rcases Int.lt_or_gt_of_ne hk with z | z
    · exact Int.mul_pos_of_neg_of_neg z z
    · exact Int.mul_pos z z
  have pm : 0 < m * m := by
    rcases Int.lt_or_gt_of_ne hm with z | z
    · exact Int.mul_pos_of_neg_of_neg z z
    · exact Int.mul_pos z z
  rcases Int.lt_or_gt_of_ne b0 with zb | zb
  · rcases Int.lt_or_gt_of_ne c0 with zc | zc
    · omega
    · have h1 : n < 0 := by rw [ek]; exact Int.mul_neg_of_neg_of_pos zb pk
      have h2 : 0 < n := by rw [em]; exact Int.mul_pos zc pm
      omega
  · rcases Int.lt_or_gt_of_ne c0 with zc | zc
    · have h1 : 0 < n := by rw [ek]; exact Int.mul_pos zb pk
      have h2 : n < 0 := by rw [em]; exact Int.mul_neg_of_neg_of_pos zc pm
      omega
    · omega
theorem bare_self {b n : Int} (h : Bare b n) : Bare b b := ⟨h.1, h.2.1, 1, by simp⟩
theorem bare_nine {b n : Int} (h : Bare b n) : Bare b (b * 9) := ⟨h.1, h.2.1, 3, by simp⟩
theorem sq_add (x t : Nat) : (2 * x + t) * (2 * x + t) = 4 * (x * x) + 4 * (x * t) + t * t := by
  have a : 2 * x * (2 * x) = 4 * (x * x) := Nat.mul_mul_mul_comm 2 x 2 x
  have b : 2 * x * t = 2 * (x * t) := Nat.mul_assoc 2 x t
  have c : t * (2 * x) = 2 * (x * t) := by rw [Nat.mul_left_comm, Nat.mul_comm t x]
  rw [Nat.mul_add, Nat.add_mul, Nat.add_mul]
  omega
/-! Newton's way to a whole root, from above -/
theorem newton {n x : Nat} (hx : 0 < x) : n < ((x + n / x) / 2 + 1) * ((x + n / x) / 2 + 1) := by
  have h1 : n < x * (n / x + 1) := by
    have := Nat.lt_mul_div_succ n hx
    simpa [Nat.mul_comm] using this
  generalize n / x = q at *
  have h2 : x + q + 1 ≤ 2 * ((x + q) / 2 + 1) := by omega
  generalize (x + q) / 2 + 1 = y at *
  have h3 : (x + q + 1) * (x + q + 1) ≤ (2 * y) * (2 * y) := Nat.mul_le_mul h2 h2
  have h4 : 4 * (x * (q + 1)) ≤ (x + q + 1) * (x + q + 1) := by
    rcases Nat.le_total x (q + 1) with l | l
    · obtain ⟨t, ht⟩ := Nat.exists_eq_add_of_le l
      have : x + q + 1 = 2 * x + t := by omega
      rw [this, ht]
      have := sq_add x t
      have e2 : x * (x + t) = x * x + x * t := Nat.mul_add x x t
      omega
    · obtain ⟨t, ht⟩ := Nat.exists_eq_add_of_le l
      have e1 : x + q + 1 = 2 * (q + 1) + t := by omega
      rw [e1, ht]
      generalize q + 1 = z
      have := sq_add z t
      have e2 : (z + t) * z = z * z + z * t := by rw [Nat.add_mul, Nat.mul_comm t z]
      omega
  have h5 : (2 * y) * (2 * y) = 4 * (y * y) := by
    have := Nat.mul_mul_mul_comm 2 y 2 y
    omega
  omega
theorem newton_less {n x : Nat} (hx : 0 < x) (h : n < x * x) : (x + n / x) / 2 < x := by
  have : n / x < x := Nat.div_lt_of_lt_mul h
  omega
theorem root_is {n x m : Nat} (h1 : x * x ≤ n) (h2 : n < (x + 1) * (x + 1)) (e : n = m * m) : x = m := by
  subst e
  rcases Nat.lt_trichotomy x m with l | l | l
  · exfalso
    have : (x + 1) * (x + 1) ≤ m * m := Nat.mul_le_mul l l
    omega
  · exact l
  · exfalso
    have : (m + 1) * (m + 1) ≤ x * x := Nat.mul_le_mul l l
    have : m * m < (m + 1) * (m + 1) := Nat.mul_lt_mul_of_lt_of_le (by omega) (by omega) (by omega)
    omega
end My

namespace My
open PySem PySem.Spec PyProof.Rows L2
open C8 (Cal pe_c pe_gc)
/-- a written fraction, its two whole numbers -/
def frV (q : Int × Int) : List V := [.int q.1, .int q.2]
def FrAt (K : PySem.W.Frag) (H : Hp) (v : V) (q : Int × Int) : Prop := ∃ p, v = .ref p ∧ H p = some (.tup (frV q))
def low (q : Int × Int) : Int × Int := (lowT q.1 q.2, lowB q.1 q.2)
def addQ (q r : Int × Int) : Int × Int := low (q.1 * r.2 + r.1 * q.2, q.2 * r.2)
def mulQ (q r : Int × Int) : Int × Int := low (q.1 * r.1, q.2 * r.2)
/-- sizes: below 2 ^ n -/
def Sz (n : Nat) (x : Int) : Prop := x.natAbs < 2 ^ n
theorem Sz.mono {n m : Nat} {x : Int} (h : Sz n x) (l : n ≤ m) : Sz m x := Nat.lt_of_lt_of_le h (Nat.pow_le_pow_right (by decide) l)
theorem Sz.mul {n m : Nat} {x y : Int} (h : Sz n x) (l : Sz m y) : Sz (n + m) (x * y) := wide_lt h l
theorem Sz.add {n : Nat} {x y : Int} (h : Sz n x) (l : Sz n y) : Sz (n + 1) (x + y) := by
  unfold Sz at *
  have : (x + y).natAbs ≤ x.natAbs + y.natAbs := Int.natAbs_add_le x y
  rw [Nat.pow_succ]
  omega
theorem Sz.le {n : Nat} {x y : Int} (h : Sz n x) (l : y.natAbs ≤ x.natAbs) : Sz n y := Nat.lt_of_le_of_lt l h
theorem Sz.cmul {n m : Nat} {x y : Int} (h : Sz n x) (l : Sz m y) (hn : 0 < n) (hm : 0 < m) (b : n + m ≤ 1000000) : CMulW x y := wide_mul h l hn hm b
theorem Sz.log {n : Nat} {x : Int} (h : Sz n x) (hn : 0 < n) (b : n ≤ 9000) : x.natAbs.log2 < 9000 := Nat.lt_of_lt_of_le (PySem.Flt.log2_lt_of hn h) b
theorem cmul_small {x y : Int} (h : x.natAbs < 2 ^ 60) (l : y.natAbs < 2 ^ 60) : CMulW x y := wide_mul h l (by decide) (by decide) (by decide)
/-- a lowest form: bottom above 0, sizes -/
structure OkQ (n : Nat) (q : Int × Int) : Prop where
  pos : 0 < q.2
  t : Sz n q.1
  b : Sz n q.2
theorem OkQ.mono {n m : Nat} {q : Int × Int} (h : OkQ n q) (l : n ≤ m) : OkQ m q := ⟨h.pos, h.t.mono l, h.b.mono l⟩
theorem low_ok {n : Nat} {q : Int × Int} (hb : q.2 ≠ 0) (ht : Sz n q.1) (hB : Sz n q.2) : OkQ n (low q) := ⟨lowB_pos hb, ht.le (lowT_abs hb), hB.le (lowB_abs hb)⟩
theorem add_ok {n m : Nat} {q r : Int × Int} (h : OkQ n q) (l : OkQ m r) : OkQ (n + m + 1) (addQ q r) := by
  refine low_ok ?_ ?_ ?_
  · exact Int.ne_of_gt (Int.mul_pos h.pos l.pos)
  · refine Sz.add (h.t.mul l.b) ?_
    have := l.t.mul h.b
    rwa [Nat.add_comm] at this
  · exact (h.b.mul l.b).mono (by omega)
theorem mul_ok {n m : Nat} {q r : Int × Int} (h : OkQ n q) (l : OkQ m r) : OkQ (n + m) (mulQ q r) := low_ok (Int.ne_of_gt (Int.mul_pos h.pos l.pos)) (h.t.mul l.t) (h.b.mul l.b)

theorem sz2 {a b : V} : [a, b].length ≤ sizeLine := by show 2 ≤ sizeLine; decide
theorem sz4 {a b c d : V} : [a, b, c, d].length ≤ sizeLine := by show 4 ≤ sizeLine; decide
theorem sz5 {a b c d e : V} : [a, b, c, d, e].length ≤ sizeLine := by show 5 ≤ sizeLine; decide
theorem sz3 {a b c : V} : [a, b, c].length ≤ sizeLine := by show 3 ≤ sizeLine; decide
/-- small whole numbers -/
def Bd (n : Nat) (x : Int) : Prop := x.natAbs ≤ n
theorem Bd.mul {n m : Nat} {x y : Int} (h : Bd n x) (l : Bd m y) : Bd (n * m) (x * y) := by
  unfold Bd at *
  rw [Int.natAbs_mul]
  exact Nat.mul_le_mul h l
theorem Bd.add {n m : Nat} {x y : Int} (h : Bd n x) (l : Bd m y) : Bd (n + m) (x + y) := by
  unfold Bd at *
  omega
theorem Bd.sub {n m : Nat} {x y : Int} (h : Bd n x) (l : Bd m y) : Bd (n + m) (x - y) := by
  unfold Bd at *
  omega
theorem Bd.cm {n m : Nat} {x y : Int} (h : Bd n x) (l : Bd m y) (hn : n < 2 ^ 60 := by decide) (hm : m < 2 ^ 60 := by decide) : CMulW x y := cmul_small (Nat.lt_of_le_of_lt h hn) (Nat.lt_of_le_of_lt l hm)
theorem bd_lit {n : Nat} {x : Int} (h : x.natAbs ≤ n := by decide) : Bd n x := h
/-- what tells by being 0 that two roots are alike -/
def toldOf : List Int → Int
  | [_, _] => 1
  | [c, b, _] => b * b - 4 * c
  | [c, b, a, _] => 18 * a * b * c - 4 * a * a * a * c + a * a * b * b - 4 * b * b * b - 27 * c * c
  | [c, _, a, _, _] => c * (a * a - 4 * c)
  | _ => 0
/-- a polynomial that is good -/
structure GoodP (ns : List Int) : Prop where
  l2 : 2 ≤ ns.length
  l5 : ns.length ≤ 5
  sm : ∀ x ∈ ns, Bd 100 x
  last : atI ns (-1) = some 1
  mid1 : ns.length = 5 → ns[1]? = some 0
  mid3 : ns.length = 5 → ns[3]? = some 0
  told : toldOf ns ≠ 0
theorem gcd_fmod (x y : Int) : Int.gcd y (x.fmod y) = Int.gcd x y := by
  have : x.fmod y = x - y * x.fdiv y := Int.fmod_def x y
  rw [this, Int.gcd_comm x y]
  have e : x - y * x.fdiv y = x + y * (- x.fdiv y) := by rw [Int.mul_neg]; rfl
  rw [e, Int.gcd_add_mul_left_right]
theorem fmod_lt {x y : Int} (hy : y ≠ 0) : (x.fmod y).natAbs < y.natAbs := by
  rcases Int.lt_or_gt_of_ne hy with h | h
  · have h1 : x.fmod y = -((-x).fmod (-y)) := by rw [Int.neg_fmod_neg]; simp
    have a := Int.fmod_nonneg_of_pos (-x) (show 0 < -y by omega)
    have b := Int.fmod_lt_of_pos (-x) (show 0 < -y by omega)
    omega
  · have a := Int.fmod_nonneg_of_pos x h
    have b := Int.fmod_lt_of_pos x h
    omega
theorem same_new {H : Hp} {p : Addr} {o : HO} (hp : H p = none) : Same H (upd H p o) := fun b u q => by rw [upd_ne (ne_of_none q hp)]; exact q
theorem item_of {ns : List Int} {i : Nat} {y : V} (hi : (ns.map V.int)[i]? = some y) : ∃ z, ns[i]? = some z ∧ y = V.int z := by
  rw [List.getElem?_map] at hi
  cases e : ns[i]? with
  | none => rw [e] at hi; cases hi
  | some z => rw [e] at hi; exact ⟨z, rfl, (Option.some.inj hi).symm⟩
theorem atI_map {ns : List Int} {i : Int} {z : Int} (h : atI ns i = some z) : atI (ns.map V.int) i = some (V.int z) := by
  unfold atI at *
  rw [List.length_map]
  cases e : ixN ns.length i with
  | none => rw [e] at h; cases h
  | some j =>
    rw [e] at h
    show (ns.map V.int)[j]? = _
    have h' : ns[j]? = some z := h
    rw [List.getElem?_map, h']
    rfl
theorem Same.seqT {K : PySem.W.Frag} {H H' : Hp} {a : Addr} {xs : List V} (e : Same H H') (h : SqT K H a xs) : SqT K H' a xs := by
  rcases h with (h | ⟨o, h⟩) | h
  · exact .inl (.inl (e _ _ h))
  · exact .inl (.inr ⟨o, e _ _ h⟩)
  · exact .inr h
theorem FrAt.mono {K : PySem.W.Frag} {H H' : Hp} {v : V} {q : Int × Int} (h : FrAt K H v q) (e : Same H H') : FrAt K H' v q := by
  obtain ⟨p, rfl, hp⟩ := h
  exact ⟨p, rfl, e _ _ hp⟩
theorem FrAt.new {K : PySem.W.Frag} {H : Hp} {p : Addr} {q : Int × Int} (h : H p = some (.tup (frV q))) : FrAt K H (.ref p) q := ⟨p, rfl, h⟩
theorem take_more {α : Type} : ∀ {l : List α} {i : Nat} {x : α}, l[i]? = some x → l.take (i + 1) = l.take i ++ [x]
  | [], i, x, h => by simp at h
  | a :: l, 0, x, h => by
    have e : a = x := Option.some.inj h
    subst e
    rfl
  | a :: l, i + 1, x, h => by
    have ih := take_more (l := l) (i := i) (x := x) h
    show a :: l.take (i + 1) = a :: l.take i ++ [x]
    rw [ih]
    rfl
theorem ok_01 : OkQ 1 (0, 1) := ⟨by decide, (by decide : (0 : Int).natAbs < 2 ^ 1), (by decide : (1 : Int).natAbs < 2 ^ 1)⟩
theorem ok_n1 {n : Int} {b : Nat} (h : Bd 100 n) (hb : 10 ≤ b) : OkQ b (n, 1) := OkQ.mono (n := 10) ⟨(by decide : (0 : Int) < 1), (by unfold Sz; unfold Bd at h; show n.natAbs < 2 ^ 10; omega), (by show (1 : Int).natAbs < 2 ^ 10; decide)⟩ hb
end My

namespace My
open PySem PySem.Spec PyProof.Rows L2
/-- where the classes of errors stand -/
structure Cs where
  RootError : Addr
  NoPoly : Addr
  NoHouse : Addr
  NoLetter : Addr
  NoCount : Addr
  NoMove : Addr
  NoWord : Addr
  Full : Addr
  NoDeed : Addr
  NoText : Addr
  NoLine : Addr
  NoOver : Addr
  NoName : Addr
  Twice : Addr
  NoNumber : Addr
/-- which class an error is of: j its number among the sorts -/
structure Row (K : PySem.W.Frag) (c : Cs) (t : Value) (j : Option Nat) : Prop where
  k_NoPoly : PySem.W.kitOne K t (.ref c.NoPoly) = some (j == some 0)
  k_NoHouse : PySem.W.kitOne K t (.ref c.NoHouse) = some (j == some 1)
  k_NoLetter : PySem.W.kitOne K t (.ref c.NoLetter) = some (j == some 2)
  k_NoCount : PySem.W.kitOne K t (.ref c.NoCount) = some (j == some 3)
  k_NoMove : PySem.W.kitOne K t (.ref c.NoMove) = some (j == some 4)
  k_NoWord : PySem.W.kitOne K t (.ref c.NoWord) = some (j == some 5)
  k_Full : PySem.W.kitOne K t (.ref c.Full) = some (j == some 6)
  k_NoDeed : PySem.W.kitOne K t (.ref c.NoDeed) = some (j == some 7)
  k_NoText : PySem.W.kitOne K t (.ref c.NoText) = some (j == some 8)
  k_NoLine : PySem.W.kitOne K t (.ref c.NoLine) = some (j == some 9)
  k_NoOver : PySem.W.kitOne K t (.ref c.NoOver) = some (j == some 10)
  k_NoName : PySem.W.kitOne K t (.ref c.NoName) = some (j == some 11)
  k_Twice : PySem.W.kitOne K t (.ref c.Twice) = some (j == some 12)
  k_NoNumber : PySem.W.kitOne K t (.ref c.NoNumber) = some (j == some 13)
  k_RootError : PySem.W.kitOne K t (.ref c.RootError) = some (j.any fun i => decide (i < 10))
structure Txt (K : PySem.W.Frag) (mg : Str → Option Value) (c : Cs) : Prop where
  z_abs : mg "abs" = none
  z_len : mg "len" = none
  z_range : mg "range" = none
  z_max : mg "max" = none
  z_isinstance : mg "isinstance" = none
  z_int : mg "int" = none
  z_bool : mg "bool" = none
  g_RootError : mg "RootError" = some (.ref c.RootError)
  g_NoPoly : mg "NoPoly" = some (.ref c.NoPoly)
  g_NoHouse : mg "NoHouse" = some (.ref c.NoHouse)
  g_NoLetter : mg "NoLetter" = some (.ref c.NoLetter)
  g_NoCount : mg "NoCount" = some (.ref c.NoCount)
  g_NoMove : mg "NoMove" = some (.ref c.NoMove)
  g_NoWord : mg "NoWord" = some (.ref c.NoWord)
  g_Full : mg "Full" = some (.ref c.Full)
  g_NoDeed : mg "NoDeed" = some (.ref c.NoDeed)
  g_NoText : mg "NoText" = some (.ref c.NoText)
  g_NoLine : mg "NoLine" = some (.ref c.NoLine)
  g_NoOver : mg "NoOver" = some (.ref c.NoOver)
  g_NoName : mg "NoName" = some (.ref c.NoName)
  g_Twice : mg "Twice" = some (.ref c.Twice)
  g_NoNumber : mg "NoNumber" = some (.ref c.NoNumber)
  row_none : Row K c (.type "NoneType") none
  row_NoCount : Row K c (.ref c.NoCount) (some 3)
  exc_NoCount : ExcC K c.NoCount
  exm_NoCount_RootError : PySem.W.exmOne K (.ref c.NoCount) (.ref c.RootError) = some true
  exm_NoCount_NoNumber : PySem.W.exmOne K (.ref c.NoCount) (.ref c.NoNumber) = some false
  exm_NoCount_NoOver : PySem.W.exmOne K (.ref c.NoCount) (.ref c.NoOver) = some false
  x_NoCount : PySem.W.excIn K c.NoCount [.type "ValueError", .type "Exception", .type "BaseException", .type "object"] "ValueError.__new__" = true
  k_NoCount : PySem.W.keepIn K (.ref c.NoCount) = true
  b_NoCount : PySem.W.subIn K (.ref c.NoCount) (.type "BaseException") = some true
  t_NoCount : PySem.W.typeIn K (.ref c.NoCount) = some (.type "type")
end My
namespace My
open PySem PySem.Spec PyProof.Rows L2
open C8 (Cal pe_c pe_gc)
/-- all but a stand as they stood -/
def Xt (a : Addr) (H H' : Hp) : Prop := ∀ b o, b ≠ a → H b = some o → H' b = some o
theorem Xt.refl (a : Addr) (H : Hp) : Xt a H H := fun _ _ _ h => h
theorem Xt.trans {a : Addr} {H H1 H2 : Hp} (x : Xt a H H1) (y : Xt a H1 H2) : Xt a H H2 := fun b o n h => y b o n (x b o n h)
theorem Xt.of {a : Addr} {H H' : Hp} (x : Same H H') : Xt a H H' := fun b o _ h => x b o h
theorem Xt.upd {a : Addr} {H : Hp} {o : HO} : Xt a H (upd H a o) := fun b u n h => by rw [upd_ne n]; exact h
/-- a purse at a, drawn from less than m times -/
def Pur (H : Hp) (a : Addr) (m : Nat) : Prop := ∃ d c k : Int, H a = some (.lst [.int d, .int c, .int k]) ∧ 0 ≤ d ∧ 0 ≤ c ∧ c < 2147483647 ∧ 0 ≤ k ∧ k ≤ m
theorem Pur.mono {H : Hp} {a : Addr} {m n : Nat} (h : Pur H a m) (l : m ≤ n) : Pur H a n := by
  obtain ⟨d, c, k, h1, h2, h3, h4, h5, h6⟩ := h
  exact ⟨d, c, k, h1, h2, h3, h4, h5, by omega⟩
theorem Pur.same {H H' : Hp} {a : Addr} {m : Nat} (h : Pur H a m) (s : Same H H') : Pur H' a m := by
  obtain ⟨d, c, k, h1, h2⟩ := h
  exact ⟨d, c, k, s _ _ h1, h2⟩
theorem Pur.at {H : Hp} {a : Addr} {m : Nat} (h : Pur H a m) : ∃ o, H a = some o := by
  obtain ⟨d, c, k, h1, h2⟩ := h
  exact ⟨_, h1⟩
theorem Xt.same1 {a : Addr} {H H1 H2 : Hp} (x : Xt a H H1) (y : Same H1 H2) : Xt a H H2 := x.trans (Xt.of y)
theorem Xt.updNew {a D : Addr} {H H1 : Hp} {o : HO} (x : Xt a H H1) (h : H D = none) : Xt a H (L2.upd H1 D o) := fun b u nb hb => by
  rw [upd_ne (ne_of_none hb h)]
  exact x b u nb hb
theorem Xt.free {a D : Addr} {H H1 : Hp} (x : Xt a H H1) (n : D ≠ a) (h : H1 D = none) : H D = none := by
  cases e : H D with
  | none => rfl
  | some o => rw [x D o n e] at h; cases h
theorem Xt.back {a : Addr} {H H1 H2 : Hp} (s : Same H H1) (x : Xt a H1 H2) (h : H a = none) : Same H H2 := fun b o hb => x b o (ne_of_none hb h) (s b o hb)
theorem Pur.updNe {H : Hp} {a D : Addr} {m : Nat} {o : HO} (p : Pur H a m) (h : D ≠ a) : Pur (L2.upd H D o) a m := by
  obtain ⟨d, c, k, h1, h2⟩ := p
  exact ⟨d, c, k, by rw [upd_ne h.symm]; exact h1, h2⟩
theorem fmod_bd {x j : Int} (h : 0 < j) : 0 ≤ x.fmod j ∧ x.fmod j < j := ⟨Int.fmod_nonneg_of_pos x h, Int.fmod_lt_of_pos x h⟩
section
variable {c : Cs} {P : Program} {w : World} {K : PySem.W.Frag} {mg : Str → Option Value} {base : Heap}

abbrev s_Lat : Stmt := top 21
abbrev N_Lat : List Str := ["_law_script", "_law_k"]
abbrev P_Lat : List Str := ["_law_script", "_law_k"]
theorem sc_Lat : FnScope N_Lat ["_law_script", "_law_k"] (defScope s_Lat) := ⟨rfl, rfl, rfl, by decide +kernel, rfl, by decide +kernel, by decide +kernel⟩

def sp_Lat (K : PySem.W.Frag) : Sp := fun vs H Q _ => ∃ (a : Addr) (ns : List Int) (j : Nat), vs = [.ref a, .int (j : Nat)] ∧ SqL K H a (ns.map V.int) ∧ ∀ z : Int, Q (.int z) H
theorem ok_Lat (T : Txt K mg c) {f : Addr} {fd : FuncData} (F : L2.Fun K "_law_at" "_law_at" s_Lat f fd) : FnOk P w K mg base CX0 1 f fd P_Lat (sp_Lat K) := by
  refine F.ok sc_Lat (fun vs H Q E h => ?_) (fun cdv A outer s H vs Q E hr h => ?_)
  · obtain ⟨a, ns, j, rfl, _⟩ := h
    rfl
  · obtain ⟨a, ns, j, rfl, hS, k⟩ := h
    refine ⟨_, (pss_cons (ps_if (pt_cmpR op_lt (pv 1) (pe_callB call_len_seq (by rfl) T.z_len (by decide +kernel) (pa_cons (pv 0) pa_nil)) (nomark _)) (pss_one (ps_ret (pe_ix ix_list (pv 0) (pv 1) (fun _ _ => rfl)))) pss_nil)
      (pss_one (ps_ret pe_int))), ?_⟩
    refine ⟨_, rfl, _, rfl, a, _, rfl, .inl hS, _, _, rfl, rfl, _, rfl, ?_⟩
    refine ite2 (fun hc => ?_) (fun hc => ?_)
    · have hj : j < ns.length := by
        have := of_decide_eq_true hc
        rw [List.length_map] at this
        omega
      refine ⟨_, rfl, _, rfl, a, _, _, _, rfl, rfl, hS, atI_map (atI_nat (List.getElem?_eq_getElem hj)), k _⟩
    · exact k _

abbrev s_Lmixed : Stmt := top 22
abbrev N_Lmixed : List Str := ["_law_cell", "_law_k", "_law_figure"]
abbrev P_Lmixed : List Str := ["_law_cell", "_law_k"]
theorem sc_Lmixed : FnScope N_Lmixed ["_law_cell", "_law_k"] (defScope s_Lmixed) := ⟨rfl, rfl, rfl, by decide +kernel, rfl, by decide +kernel, by decide +kernel⟩

def sp_Lmixed : Sp := fun vs H Q _ => ∃ c k : Int, vs = [.int c, .int k] ∧ Bd (2 ^ 31) c ∧ Bd (2 ^ 40) k ∧ ∀ z : Int, 0 ≤ z → z < 2147483587 → Q (.int z) H
theorem ok_Lmixed (T : Txt K mg c) {f : Addr} {fd : FuncData} (F : L2.Fun K "_law_mixed" "_law_mixed" s_Lmixed f fd) : FnOk P w K mg base CX0 1 f fd P_Lmixed sp_Lmixed := by
  refine F.ok sc_Lmixed (fun vs H Q E h => ?_) (fun cdv A outer s H vs Q E hr h => ?_)
  · obtain ⟨c, k, rfl, _⟩ := h
    rfl
  · obtain ⟨c, k, rfl, hc, hk, q⟩ := h
    refine ⟨_, (pss_cons (ps_set (i := 2) sc_Lmixed.nd rfl (by first | exact Or.inl rfl | exact Or.inr rfl) (pe_op op_modN (pe_op op_add (pe_op op_add (pe_op op_add (pe_op op_mulW (pv 0) pe_int) (pe_op op_mulW (pe_op op_mulW pe_int (pv 1)) (pv 1))) (pv 1)) pe_int) pe_int))
      (pss_cons (ps_set (i := 2) sc_Lmixed.nd rfl (by first | exact Or.inl rfl | exact Or.inr rfl) (pe_op op_modN (pe_op op_add (pe_op op_mulW (pv 2) (pv 2)) pe_int) pe_int))
      (pss_one (ps_ret (pe_op op_modN (pe_op op_mulW (pv 2) pe_int) pe_int))))), ?_⟩
    have m1 : ∀ x : Int, Bd 2147483647 (x.fmod 2147483647) := fun x => by
      have := fmod_bd (x := x) (j := 2147483647) (by decide)
      unfold Bd; omega
    have m2 : ∀ x : Int, Bd 2147483629 (x.fmod 2147483629) := fun x => by
      have := fmod_bd (x := x) (j := 2147483629) (by decide)
      unfold Bd; omega
    refine ⟨_, rfl, _, _, rfl, rfl, hc.cm (bd_lit (n := 1103515245)), _, rfl, _, _, rfl, rfl, (bd_lit (n := 7919)).cm hk, _, rfl, _, _, rfl, rfl, ((bd_lit (n := 7919)).mul hk).cm hk, _, _, rfl, rfl, _, rfl, _, _, rfl, rfl, _, _, rfl, rfl, _, _, rfl, rfl, (show (2147483647 : Int) ≠ 0 by decide), ?_⟩
    refine ⟨_, rfl, _, rfl, _, _, rfl, rfl, (m1 _).cm (m1 _), _, _, rfl, rfl, _, _, rfl, rfl, (show (2147483629 : Int) ≠ 0 by decide), ?_⟩
    refine ⟨_, rfl, _, _, rfl, rfl, (m2 _).cm (bd_lit (n := 48271)), _, _, rfl, rfl, (show (2147483587 : Int) ≠ 0 by decide), ?_⟩
    have := fmod_bd (x := (Int.fmod (Int.fmod (c * 1103515245 + 7919 * k * k + k + 1) 2147483647 * Int.fmod (c * 1103515245 + 7919 * k * k + k + 1) 2147483647 + 69621) 2147483629) * 48271) (j := 2147483587) (by decide)
    exact q _ this.1 this.2

abbrev s_Lpurse : Stmt := top 23
abbrev N_Lpurse : List Str := ["_law_script", "_law_at_here", "_law_cell"]
abbrev P_Lpurse : List Str := ["_law_script", "_law_at_here"]
theorem sc_Lpurse : FnScope N_Lpurse ["_law_script", "_law_at_here"] (defScope s_Lpurse) := ⟨rfl, rfl, rfl, by decide +kernel, rfl, by decide +kernel, by decide +kernel⟩

def sp_Lpurse (K : PySem.W.Frag) : Sp := fun vs H Q _ => ∃ (a : Addr) (ns : List Int) (j : Nat), vs = [.ref a, .int (j : Nat)] ∧ SqL K H a (ns.map V.int) ∧ j ≤ 100 ∧
  ∀ H' p, Same H H' → H p = none → Pur H' p (1000 * j) → Q (.ref p) H'
theorem ok_Lpurse (T : Txt K mg c) {f : Addr} {fd : FuncData} (F : L2.Fun K "_law_purse" "_law_purse" s_Lpurse f fd) (h_Lat : Cal P w K mg base 1 "_law_at" (sp_Lat K) []) : FnOk P w K mg base CX0 2 f fd P_Lpurse (sp_Lpurse K) := by
  refine F.ok sc_Lpurse (fun vs H Q E h => ?_) (fun cdv A outer s H vs Q E hr h => ?_)
  · obtain ⟨a, ns, j, rfl, _⟩ := h
    rfl
  · obtain ⟨a, ns, j, rfl, hS, hj, k⟩ := h
    refine ⟨_, (pss_cons (ps_set (i := 2) sc_Lpurse.nd rfl (by first | exact Or.inl rfl | exact Or.inr rfl) (pe_c h_Lat hr (by decide) rfl (pa_cons (pv 0) (pa_cons (pv 1) pa_nil))))
      (pss_one (ps_ret (pe_lst (pa_cons (pe_op op_modN (pe_callB (call_max2 rfl) (by rfl) T.z_max (by decide +kernel) (pa_cons (pe_op op_sub (pv 2) (pe_op op_powW pe_int pe_int)) (pa_cons pe_int pa_nil))) (pe_op op_powW (pe_op op_powW pe_int pe_int) pe_int)) (pa_cons (pe_op op_modN (pv 2) pe_int) (pa_cons (pe_op op_mulW pe_int (pv 1)) pa_nil))))))), ?_⟩
    refine ⟨_, rfl, _, rfl, a, ns, j, rfl, hS, fun z => ?_⟩
    have bj : Bd 100 (j : Int) := by unfold Bd; omega
    refine ⟨_, rfl, _, _, rfl, rfl, ⟨by decide, by decide +kernel⟩, _, _, rfl, rfl, _, _, rfl, _, _, rfl, rfl, ⟨by decide, by decide +kernel⟩, _, _, rfl, rfl, ⟨by decide, by decide +kernel⟩, _, _, rfl, rfl, (show ((10 : Int) ^ (60 : Int).toNat) ^ (40 : Int).toNat ≠ 0 by decide +kernel), _, rfl, _, _, rfl, rfl, (show (2147483647 : Int) ≠ 0 by decide), _, rfl, _, _, rfl, rfl, (bd_lit (n := 1000)).cm bj, sz3, fun p hp => ?_⟩
    refine k _ p (same_new hp) hp ⟨_, _, _, upd_same, ?_, ?_, ?_, ?_, ?_⟩
    · exact (fmod_bd (by decide +kernel)).1
    · exact (fmod_bd (j := 2147483647) (by decide)).1
    · exact (fmod_bd (j := 2147483647) (by decide)).2
    · omega
    · omega

abbrev s_Ldraw : Stmt := top 24
abbrev N_Ldraw : List Str := ["_law_purse_here", "_law_out_of", "_law_figure", "_law_k", "_law_drawn"]
abbrev P_Ldraw : List Str := ["_law_purse_here", "_law_out_of"]
theorem sc_Ldraw : FnScope N_Ldraw ["_law_purse_here", "_law_out_of"] (defScope s_Ldraw) := ⟨rfl, rfl, rfl, by decide +kernel, rfl, by decide +kernel, by decide +kernel⟩

def sp_Ldraw : Sp := fun vs H Q _ => ∃ (a : Addr) (n : Int) (m : Nat), vs = [.ref a, .int n] ∧ 0 < n ∧ n < 2 ^ 200 ∧ Pur H a m ∧ m ≤ 2 ^ 30 ∧
  ∀ H' (z : Int), Xt a H H' → Pur H' a (m + 20) → 0 ≤ z → z < n → Q (.int z) H'
theorem bits_le {n : Int} (h0 : 0 < n) (h : n < 2 ^ 200) : Builtin.Int.intBits n ≤ 200 := by
  have h1 : n.natAbs < 2 ^ 200 := by
    have : (n.natAbs : Int) < ((2 ^ 200 : Nat) : Int) := by
      have e : ((2 ^ 200 : Nat) : Int) = 2 ^ 200 := by decide
      rw [e]; omega
    exact Int.ofNat_lt.mp this
  have h2 := PySem.Flt.log2_lt_of (by decide : 0 < 200) h1
  unfold Builtin.Int.intBits
  split <;> omega
theorem ok_Ldraw (T : Txt K mg c) {f : Addr} {fd : FuncData} (F : L2.Fun K "_law_draw" "_law_draw" s_Ldraw f fd) (h_Lmixed : Cal P w K mg base 1 "_law_mixed" sp_Lmixed []) : FnOk P w K mg base CX0 2 f fd P_Ldraw sp_Ldraw := by
  refine F.ok sc_Ldraw (fun vs H Q E h => ?_) (fun cdv A outer s H vs Q E hr h => ?_)
  · obtain ⟨a, n, m, rfl, _⟩ := h
    rfl
  · obtain ⟨a, n, m, rfl, hn, hn2, ⟨d, c, k0, ha, hd, hc, hc2, hk, hk2⟩, hm, k⟩ := h
    refine ⟨_, (pss_cons (ps_if (pt_cmpR op_gt (pe_ix ix_list (pv 0) pe_int (fun _ _ => rfl)) pe_int (nomark _)) (pss_cons (ps_set (i := 4) sc_Ldraw.nd rfl (by first | exact Or.inl rfl | exact Or.inr rfl) (pe_op op_modN (pe_ix ix_list (pv 0) pe_int (fun _ _ => rfl)) (pv 1)))
      (pss_cons (ps_asg (pe_op op_fdivA (pe_ix ix_list (pv 0) pe_int (fun _ _ => rfl)) (pv 1)) (pg_sub (pv 0) pe_int set_list))
      (pss_one (ps_ret (pv 4))))) pss_nil)
      (pss_cons (ps_set (i := 2) sc_Ldraw.nd rfl (by first | exact Or.inl rfl | exact Or.inr rfl) pe_int)
      (pss_cons (ps_for PassesOwn.never rfl (pi_range1 rfl T.z_range (pa_cons (pe_op op_add pe_int (pe_op op_fdivA (pe_bits (pv 1)) pe_int)) pa_nil)) (pg_name (i := 3) sc_Ldraw.nd rfl (by first | exact Or.inl rfl | exact Or.inr rfl)) (pss_cons (ps_asg (pe_op op_add (pe_ix ix_list (pv 0) pe_int (fun _ _ => rfl)) pe_int) (pg_sub (pv 0) pe_int set_list))
      (pss_one (ps_set (i := 2) sc_Ldraw.nd rfl (by first | exact Or.inl rfl | exact Or.inr rfl) (pe_op op_add (pe_op op_mulW (pv 2) pe_int) (pe_c h_Lmixed hr (by decide) rfl (pa_cons (pe_ix ix_list (pv 0) pe_int (fun _ _ => rfl)) (pa_cons (pe_ix ix_list (pv 0) pe_int (fun _ _ => rfl)) pa_nil))))))))
      (pss_one (ps_ret (pe_op op_modN (pv 2) (pv 1))))))), ?_⟩
    refine ⟨_, rfl, a, _, _, _, rfl, rfl, SqL.of ha, rfl, _, _, rfl, rfl, _, rfl, ?_⟩
    have szn : Sz 200 n := by
      unfold Sz
      have : (n.natAbs : Int) < ((2 ^ 200 : Nat) : Int) := by
        have e : ((2 ^ 200 : Nat) : Int) = 2 ^ 200 := by decide
        rw [e]; omega
      exact Int.ofNat_lt.mp this
    refine ite2 (fun hc0 => ?_) (fun hc0 => ?_)
    · have hd0 : 0 < d := of_decide_eq_true hc0
      refine ⟨_, rfl, a, _, _, _, rfl, rfl, SqL.of ha, rfl, _, rfl, _, _, rfl, rfl, Int.ne_of_gt hn, ?_⟩
      refine ⟨_, rfl, a, _, _, _, rfl, rfl, SqL.of ha, rfl, _, rfl, _, _, rfl, rfl, ⟨Int.ne_of_gt hn, szn.log (by decide) (by decide)⟩, _, rfl, a, _, _, _, rfl, rfl, ha, rfl, ?_⟩
      refine ⟨_, rfl, k _ _ Xt.upd ⟨_, _, _, upd_same, ?_, hc, hc2, hk, by omega⟩ (fmod_bd hn).1 (fmod_bd hn).2⟩
      rw [Int.fdiv_eq_ediv_of_nonneg d (by omega)]
      exact Int.ediv_nonneg hd (by omega)
    · refine ⟨_, rfl, _, rfl, _, _, rfl, rfl, ⟨(show (30 : Int) ≠ 0 by decide), (show (30 : Int).natAbs.log2 < 9000 by decide +kernel)⟩, _, _, rfl, rfl, ?_⟩
      have hb := bits_le hn hn2
      have hq : 0 ≤ Int.fdiv ((Builtin.Int.intBits n : Nat) : Int) 30 ∧ Int.fdiv ((Builtin.Int.intBits n : Nat) : Int) 30 ≤ 6 := by
        rw [Int.fdiv_eq_ediv_of_nonneg _ (by decide)]
        omega
      generalize Int.fdiv ((Builtin.Int.intBits n : Nat) : Int) 30 = e at hq ⊢
      refine ⟨1 + e, rfl, (show -(2 ^ 62 : Int) ≤ 1 + e by omega), (show 1 + e < (2 ^ 62 : Int) by omega), for_range (lo := 0) (n := (1 + e).toNat) (fun i σ H' => ∃ (fig : Int) (o1 o2 : Option V), σ = [some (.ref a), some (.int n), some (.int fig), o1, o2] ∧ Xt a H H' ∧ Pur H' a (m + i) ∧ Sz (40 * i + 1) fig ∧ 0 ≤ fig) ⟨0, none, none, rfl, Xt.refl _ _, ⟨d, c, k0, ha, hd, hc, hc2, hk, hk2⟩, (by decide : (0 : Int).natAbs < 2 ^ 1), by decide⟩ ?_ ?_⟩
      · rintro i σ H' hi ⟨fig, o1, o2, rfl, x1, ⟨d', c', k', ha', hd', hc', hc2', hk', hk2'⟩, sf, f0⟩
        have hi7 : i < 7 := by omega
        refine ⟨_, rfl, a, _, _, _, rfl, rfl, SqL.of ha', rfl, _, _, rfl, rfl, _, rfl, a, _, _, _, rfl, rfl, ha', rfl, ?_⟩
        refine ⟨_, rfl, _, _, rfl, rfl, sf.cmul (show Sz 40 2147483587 by unfold Sz; decide) (by omega) (by decide) (by omega), ?_⟩
        refine ⟨_, rfl, a, _, _, _, rfl, rfl, SqL.of upd_same, rfl, _, rfl, a, _, _, _, rfl, rfl, SqL.of upd_same, rfl, c', k' + 1, rfl, ?_, ?_, fun z z0 z1 => ?_⟩
        · unfold Bd; omega
        · unfold Bd; omega
        · refine ⟨_, _, rfl, rfl, ?_⟩
          refine ⟨fig * 2147483587 + z, _, _, rfl, x1.trans Xt.upd, ⟨d', c', k' + 1, upd_same, hd', hc', hc2', by omega, by omega⟩, ?_, ?_⟩
          · have s1 : Sz (40 * i + 1 + 39) (fig * 2147483587) := sf.mul (show Sz 39 2147483587 by unfold Sz; decide)
            have s2 : Sz (40 * i + 1 + 39) z := Sz.mono (n := 39) (by unfold Sz; omega) (by omega)
            exact (s1.add s2).mono (by omega)
          · have : 0 ≤ fig * 2147483587 := Int.mul_nonneg f0 (by decide)
            show 0 ≤ fig * 2147483587 + z
            omega
      · rintro σ H' ⟨fig, o1, o2, rfl, x1, hp, sf, f0⟩
        refine ⟨_, rfl, _, rfl, _, _, rfl, rfl, Int.ne_of_gt hn, ?_⟩
        exact k _ _ x1 (hp.mono (by omega)) (fmod_bd hn).1 (fmod_bd hn).2
end
end My

namespace My
open PySem PySem.Spec PyProof.Rows L2
open C8 (Cal pe_c pe_gc)
section
variable {c : Cs} {P : Program} {w : World} {K : PySem.W.Frag} {mg : Str → Option Value} {base : Heap}

abbrev s_Lwhole : Stmt := top 25
abbrev N_Lwhole : List Str := ["_law_found"]
abbrev P_Lwhole : List Str := ["_law_found"]
theorem sc_Lwhole : FnScope N_Lwhole ["_law_found"] (defScope s_Lwhole) := ⟨rfl, rfl, rfl, by decide +kernel, rfl, by decide +kernel, by decide +kernel⟩

def sp_Lwhole : Sp := fun vs H Q _ => ∃ i : Int, vs = [.int i] ∧ Q (.bl true) H
theorem ok_Lwhole (T : Txt K mg c) {f : Addr} {fd : FuncData} (F : L2.Fun K "_law_whole" "_law_whole" s_Lwhole f fd) : FnOk P w K mg base CX0 1 f fd P_Lwhole sp_Lwhole := by
  refine F.ok sc_Lwhole (fun vs H Q E h => ?_) (fun cdv A outer s H vs Q E hr h => ?_)
  · obtain ⟨i, rfl, _⟩ := h
    rfl
  · obtain ⟨i, rfl, k⟩ := h
    refine ⟨_, (pss_one (ps_ret (pe_and (pe_callB call_isi (by rfl) T.z_isinstance (by decide +kernel) (pa_cons (pv 0) (pa_cons (pe_bltn (v := .ty "int") (by rfl) T.z_int (by decide +kernel) rfl) pa_nil))) (pe_one (pe_not (pe_callB call_isi (by rfl) T.z_isinstance (by decide +kernel) (pa_cons (pv 0) (pa_cons (pe_bltn (v := .ty "bool") (by rfl) T.z_bool (by decide +kernel) rfl) pa_nil)))))))), ?_⟩
    refine ⟨_, rfl, _, _, _, _, true, rfl, .ty _, .base (.int i), kit_ty (by decide +kernel), _, rfl, ?_⟩
    refine iteT ?_
    refine ⟨_, rfl, _, _, _, _, false, rfl, .ty _, .base (.int i), kit_ty (by decide +kernel), _, rfl, k⟩

end
end My

namespace My
open PySem PySem.Spec PyProof.Rows L2
open C8 (Cal pe_c pe_gc)
section
variable {c : Cs} {P : Program} {w : World} {K : PySem.W.Frag} {mg : Str → Option Value} {base : Heap}
theorem cast_lt {a b : Nat} : ((a : Nat) : Int) < (b : Nat) ↔ a < b := Int.ofNat_lt
theorem cast_sq (x : Nat) : ((x : Nat) : Int) * (x : Nat) = ((x * x : Nat) : Int) := (Int.natCast_mul x x).symm
theorem fdiv_nat (a b : Nat) : Int.fdiv (a : Nat) (b : Nat) = ((a / b : Nat) : Int) := by
  rw [Int.fdiv_eq_ediv_of_nonneg _ (by omega)]; rfl
/-- a whole number of some size as one of Nat -/
theorem nat_of {n : Int} (h : 0 ≤ n) : ∃ m : Nat, n = (m : Nat) := ⟨n.toNat, by omega⟩
theorem log_small {x : Int} (h : x.natAbs < 2 ^ 60) : x.natAbs.log2 < 9000 := by
  by_cases z : x.natAbs = 0
  · rw [z]; decide
  · have := (Nat.log2_lt z).mpr h; omega

abbrev s_root_whole : Stmt := top 17
abbrev N_root_whole : List Str := ["number", "found"]
abbrev P_root_whole : List Str := ["number"]
theorem sc_root_whole : FnScope N_root_whole ["number"] (defScope s_root_whole) := ⟨rfl, rfl, rfl, by decide +kernel, rfl, by decide +kernel, by decide +kernel⟩

/-- whole roots: told where there is one, None where there is none -/
def sp_root : Sp := fun vs H Q _ => ∃ n : Int, vs = [.int n] ∧ n < 2 ^ 58 ∧ (∀ r : Nat, n = (r : Int) * r → Q (.int r) H) ∧ ((¬ ∃ r : Int, n = r * r) → Q .non H)
theorem no_root_neg {n : Int} (h : n < 0) : ¬ ∃ r : Int, n = r * r := fun ⟨r, e⟩ => by
  have : 0 ≤ r * r := by
    rcases Int.le_total 0 r with z | z
    · exact Int.mul_nonneg z z
    · exact Int.mul_nonneg_of_nonpos_of_nonpos z z
  omega
theorem no_root_nat {m : Nat} (h : ¬ ∃ r : Nat, m = r * r) : ¬ ∃ r : Int, (m : Int) = r * r := fun ⟨r, e⟩ => h ⟨r.natAbs, by
  have := congrArg Int.natAbs e
  rw [Int.natAbs_mul] at this
  simpa using this⟩
theorem ok_root_whole (T : Txt K mg c) {f : Addr} {fd : FuncData} (F : L2.Fun K "root_whole" "root_whole" s_root_whole f fd) : FnOk P w K mg base CX0 1 f fd P_root_whole sp_root := by
  refine F.ok sc_root_whole (fun vs H Q E h => ?_) (fun cdv A outer s H vs Q E hr h => ?_)
  · obtain ⟨n, rfl, _⟩ := h
    rfl
  · obtain ⟨n, rfl, hn, kY, kN⟩ := h
    refine ⟨_, (pss_cons (ps_if (pt_cmpR op_lt (pv 0) pe_int (nomark _)) (pss_one (ps_ret pe_non)) pss_nil)
      (pss_cons (ps_set (i := 1) sc_root_whole.nd rfl (by first | exact Or.inl rfl | exact Or.inr rfl) (pe_op op_shl pe_int (pe_op op_fdivA (pe_op op_add (pe_bits (pv 0)) pe_int) pe_int)))
      (pss_cons (ps_while PassesOwn.never (pt_cmpR op_gt (pe_op op_mulW (pv 1) (pv 1)) (pv 0) (nomark _)) (pss_one (ps_set (i := 1) sc_root_whole.nd rfl (by first | exact Or.inl rfl | exact Or.inr rfl) (pe_op op_fdivA (pe_op op_add (pv 1) (pe_op op_fdivA (pv 0) (pv 1))) pe_int))))
      (pss_cons (ps_if (pt_cmpR op_eq (pe_op op_mulW (pv 1) (pv 1)) (pv 0) (nomark _)) (pss_one (ps_ret (pv 1))) pss_nil)
      (pss_one (ps_ret pe_non)))))), ?_⟩
    refine ⟨_, rfl, _, _, rfl, rfl, _, rfl, ?_⟩
    refine ite2 (fun hc => ?_) (fun hc => ?_)
    · exact kN (no_root_neg (of_decide_eq_true hc))
    · have n0 : 0 ≤ n := by
        have : ¬ n < 0 := fun z => hc (decide_eq_true z)
        omega
      obtain ⟨m, rfl⟩ := nat_of n0
      have hm : m < 2 ^ 58 := by omega
      refine ⟨_, rfl, _, rfl, _, _, rfl, rfl, _, _, rfl, rfl, ⟨(show (2 : Int) ≠ 0 by decide), (show (2 : Int).natAbs.log2 < 9000 by decide +kernel)⟩, ?_⟩
      obtain ⟨bits, hbits⟩ : ∃ bits : Nat, bits = Builtin.Int.intBits (m : Nat) := ⟨_, rfl⟩
      have hb1 : m < 2 ^ bits := by
        rw [hbits]
        unfold Builtin.Int.intBits
        split
        · rename_i z
          have : m = 0 := by
            have := eq_of_beq z
            omega
          rw [this]; decide
        · exact Nat.lt_log2_self
      have hb2 : bits ≤ 58 := by
        rw [hbits]
        unfold Builtin.Int.intBits
        split
        · omega
        · rename_i z
          have nz : m ≠ 0 := fun e => z (by rw [e]; rfl)
          have := (Nat.log2_lt nz).mpr hm
          show m.log2 + 1 ≤ 58
          omega
      have ej : Int.fdiv (((Builtin.Int.intBits (m : Nat) : Nat) : Int) + 1) 2 = (((bits + 1) / 2 : Nat) : Int) := by
        rw [← hbits]
        exact fdiv_nat (bits + 1) 2
      have ej' : (1 : Int) * 2 ^ (Int.fdiv (((Builtin.Int.intBits (m : Nat) : Nat) : Int) + 1) 2).toNat = ((2 ^ ((bits + 1) / 2) : Nat) : Int) := by
        rw [ej, Int.one_mul]
        show (2 : Int) ^ ((bits + 1) / 2) = _
        rw [Int.natCast_pow]; rfl
      refine ⟨1, _, rfl, rfl, ⟨?_, ?_, (by decide)⟩, ?_⟩
      · rw [ej]; omega
      · rw [ej]; omega
      have st : m < (2 ^ ((bits + 1) / 2) + 1) * (2 ^ ((bits + 1) / 2) + 1) := by
        have h1 : 2 ^ bits ≤ 2 ^ ((bits + 1) / 2) * 2 ^ ((bits + 1) / 2) := by
          rw [← Nat.pow_add]
          exact Nat.pow_le_pow_right (by decide) (by omega)
        have h2 : 2 ^ ((bits + 1) / 2) * 2 ^ ((bits + 1) / 2) ≤ (2 ^ ((bits + 1) / 2) + 1) * (2 ^ ((bits + 1) / 2) + 1) := Nat.mul_le_mul (by omega) (by omega)
        omega
      have x0 : 2 ^ ((bits + 1) / 2) ≤ 2 ^ 30 := Nat.pow_le_pow_right (by decide) (by omega)
      have xp : 0 < 2 ^ ((bits + 1) / 2) := Nat.pow_pos (by decide)
      refine while_by (fun σ H' => H' = H ∧ ∃ x : Nat, σ = [some (.int (m : Nat)), some (.int (x : Nat))] ∧ m < (x + 1) * (x + 1) ∧ x ≤ 2 ^ 30) (fun σ _ => match σ with | [_, some (.int y)] => y.toNat | _ => 0) ⟨rfl, 2 ^ ((bits + 1) / 2), ?_, st, x0⟩ ?_ ?_
      · show [some (V.int (m : Nat)), some (V.int (1 * 2 ^ (Int.fdiv (((Builtin.Int.intBits (m : Nat) : Nat) : Int) + 1) 2).toNat))] = _
        rw [ej']
      · rintro σ H' ⟨rfl, x, rfl, hx, xs⟩
        have bx : Bd (2 ^ 30) (x : Nat) := by unfold Bd; omega
        refine ⟨_, rfl, _, rfl, _, _, rfl, rfl, bx.cm bx, _, rfl, _, _, rfl, rfl, _, rfl, ?_⟩
        refine ite2 (fun hc => ?_) (fun hc => ?_)
        · have hlt : m < x * x := by
            have := of_decide_eq_true hc
            rw [cast_sq] at this
            exact cast_lt.mp this
          have xpos : 0 < x := by
            rcases Nat.eq_zero_or_pos x with z | z
            · rw [z] at hlt; omega
            · exact z
          refine ⟨_, rfl, _, rfl, _, rfl, _, _, rfl, rfl, ⟨(show ((x : Nat) : Int) ≠ 0 by omega), log_small (by show x < 2 ^ 60; omega)⟩, _, _, rfl, rfl, _, _, rfl, rfl, ⟨(show (2 : Int) ≠ 0 by decide), (show (2 : Int).natAbs.log2 < 9000 by decide +kernel)⟩, ?_⟩
          have e1 : Int.fdiv (((x : Nat) : Int) + Int.fdiv (m : Nat) (x : Nat)) 2 = (((x + m / x) / 2 : Nat) : Int) := by
            rw [fdiv_nat]
            exact fdiv_nat (x + m / x) 2
          have less := newton_less xpos hlt
          refine ⟨⟨rfl, (x + m / x) / 2, ?_, newton xpos, by omega⟩, ?_⟩
          · show [some (V.int (m : Nat)), some (V.int (Int.fdiv (((x : Nat) : Int) + Int.fdiv (m : Nat) (x : Nat)) 2))] = _
            rw [e1]
          · show (Int.fdiv (((x : Nat) : Int) + Int.fdiv (m : Nat) (x : Nat)) 2).toNat < x
            rw [e1]; omega
        · have hge : x * x ≤ m := by
            have : ¬ ((m : Nat) : Int) < ((x : Nat) : Int) * (x : Nat) := fun z => hc (decide_eq_true z)
            rw [cast_sq] at this
            omega
          refine ⟨_, rfl, _, rfl, _, _, rfl, rfl, bx.cm bx, _, rfl, rfl, _, rfl, ?_⟩
          refine ite2 (fun hc2 => ?_) (fun hc2 => ?_)
          · have e : ((x : Nat) : Int) * (x : Nat) = (m : Nat) := by
              have := of_decide_eq_true hc2
              injection this
            exact ⟨_, rfl, kY x e.symm⟩
          · refine kN (no_root_nat fun ⟨r, e⟩ => hc2 (decide_eq_true ?_))
            have := root_is hge hx e
            subst this
            show V.int (((x : Nat) : Int) * (x : Nat)) = V.int (m : Nat)
            rw [cast_sq, e]
      · rintro σ H Q Q' hq ⟨v, h1, v2, h2, i, j, e1, e2, e3, v3, h3, i2, j2, e4, e5, k, e6, h4⟩
        exact ⟨v, h1, v2, h2, i, j, e1, e2, e3, v3, h3, i2, j2, e4, e5, k, e6, hq _ _ h4⟩
end
end My
namespace My
open PySem PySem.Spec PyProof.Rows L2
open C8 (Cal pe_c pe_gc)
section
variable {c : Cs} {P : Program} {w : World} {K : PySem.W.Frag} {mg : Str → Option Value} {base : Heap}
theorem bi_le {n f found rest : Nat} (h : BI n f found rest) (n0 : 0 < n) : 0 < found ∧ found ≤ n ∧ rest ≤ n ∧ found * rest ≤ n := by
  obtain ⟨k, e⟩ := h.eq
  have p1 : 0 < found * rest := by
    rcases Nat.eq_zero_or_pos (found * rest) with z | z
    · rw [z, Nat.zero_mul] at e; omega
    · exact z
  have p2 : 0 < k * k := by
    rcases Nat.eq_zero_or_pos (k * k) with z | z
    · rw [z, Nat.mul_zero] at e; omega
    · exact z
  have f0 : 0 < found := Nat.pos_of_mul_pos_right p1
  have l1 : found * rest ≤ n := by rw [e]; exact Nat.le_mul_of_pos_right _ p2
  exact ⟨f0, Nat.le_trans (Nat.le_mul_of_pos_right _ h.r0) l1, Nat.le_trans (Nat.le_mul_of_pos_left _ f0) l1, l1⟩
theorem fmod_nat (a b : Nat) : Int.fmod (a : Nat) (b : Nat) = ((a % b : Nat) : Int) := by
  rw [Int.fmod_eq_emod_of_nonneg _ (by omega)]; rfl
theorem ediv_nat (a b : Nat) : ((a : Nat) : Int) / ((b : Nat) : Int) = ((a / b : Nat) : Int) := rfl
theorem cast_mul (x y : Nat) : ((x : Nat) : Int) * (y : Nat) = ((x * y : Nat) : Int) := (Int.natCast_mul x y).symm
theorem abs_int (x : Int) : (if x < 0 then -x else x) = (x.natAbs : Int) := by split <;> omega
/-- the sign of a number other than 0 -/
def sgn (n : Int) : Int := if n < 0 then -1 else 1
theorem sgn_abs (n : Int) : n = sgn n * (n.natAbs : Int) := by
  unfold sgn
  split <;> omega
theorem sgn_natAbs (n : Int) : (sgn n).natAbs = 1 := by
  unfold sgn
  split <;> rfl
theorem bare_of_abs {n : Int} {b k : Nat} (b0 : 0 < b) (sb : SF b) (e : n.natAbs = b * (k * k)) : Bare (sgn n * (b : Nat)) n := by
  have ea : (sgn n * (b : Nat)).natAbs = b := by rw [Int.natAbs_mul, sgn_natAbs, Nat.one_mul]; rfl
  refine ⟨fun z => ?_, by rw [ea]; exact sb, (k : Nat), ?_⟩
  · rw [z] at ea
    have : (0 : Int).natAbs = 0 := rfl
    omega
  · conv => lhs; rw [sgn_abs n, e]
    rw [Int.natCast_mul, Int.natCast_mul, Int.mul_assoc]
abbrev s_bare_of : Stmt := top 18
abbrev N_bare_of : List Str := ["number", "found", "rest", "factor"]
abbrev P_bare_of : List Str := ["number"]
theorem sc_bare_of : FnScope N_bare_of ["number"] (defScope s_bare_of) := ⟨rfl, rfl, rfl, by decide +kernel, rfl, by decide +kernel, by decide +kernel⟩

def sp_bare_of : Sp := fun vs H Q _ => ∃ n : Int, vs = [.int n] ∧ n ≠ 0 ∧ Bd (10 ^ 13) n ∧ ∀ b : Int, Bare b n → Q (.int b) H
theorem ok_bare_of (T : Txt K mg c) {f : Addr} {fd : FuncData} (F : L2.Fun K "bare_of" "bare_of" s_bare_of f fd) (h_root_whole : Cal P w K mg base 1 "root_whole" sp_root []) : FnOk P w K mg base CX0 2 f fd P_bare_of sp_bare_of := by
  refine F.ok sc_bare_of (fun vs H Q E h => ?_) (fun cdv A outer s H vs Q E hr h => ?_)
  · obtain ⟨n, rfl, _⟩ := h
    rfl
  · obtain ⟨n, rfl, n0, hn, k⟩ := h
    refine ⟨_, (pss_cons (ps_set (i := 1) sc_bare_of.nd rfl (by first | exact Or.inl rfl | exact Or.inr rfl) pe_int)
      (pss_cons (ps_if (pt_cmpR op_lt (pv 0) pe_int (nomark _)) (pss_one (ps_set (i := 1) sc_bare_of.nd rfl (by first | exact Or.inl rfl | exact Or.inr rfl) (pe_un un_neg pe_int))) pss_nil)
      (pss_cons (ps_set (i := 2) sc_bare_of.nd rfl (by first | exact Or.inl rfl | exact Or.inr rfl) (pe_callB call_abs (by rfl) T.z_abs (by decide +kernel) (pa_cons (pv 0) pa_nil)))
      (pss_cons (ps_set (i := 3) sc_bare_of.nd rfl (by first | exact Or.inl rfl | exact Or.inr rfl) pe_int)
      (pss_cons (ps_while PassesOwn.never (pt_cmpR op_le (pe_op op_mulW (pe_op op_mulW (pv 3) (pv 3)) (pv 3)) (pv 2) (nomark _)) (pss_cons (ps_while PassesOwn.never (pt_cmpR op_eq (pe_op op_modN (pv 2) (pe_op op_mulW (pv 3) (pv 3))) pe_int (nomark _)) (pss_one (ps_aug (i := 2) sc_bare_of.nd rfl (by first | exact Or.inl rfl | exact Or.inr rfl) (pe_op op_mulW (pv 3) (pv 3)) ip_fdiv)))
      (pss_cons (ps_if (pt_cmpR op_eq (pe_op op_modN (pv 2) (pv 3)) pe_int (nomark _)) (pss_cons (ps_aug (i := 2) sc_bare_of.nd rfl (by first | exact Or.inl rfl | exact Or.inr rfl) (pv 3) ip_fdiv)
      (pss_one (ps_aug (i := 1) sc_bare_of.nd rfl (by first | exact Or.inl rfl | exact Or.inr rfl) (pv 3) ip_mul))) pss_nil)
      (pss_one (ps_aug (i := 3) sc_bare_of.nd rfl (by first | exact Or.inl rfl | exact Or.inr rfl) pe_int ip_add)))))
      (pss_cons (ps_if (pt_cmpR op_isN (pe_c h_root_whole hr (by decide) rfl (pa_cons (pv 2) pa_nil)) pe_non (nomark _)) (pss_one (ps_aug (i := 1) sc_bare_of.nd rfl (by first | exact Or.inl rfl | exact Or.inr rfl) (pv 2) ip_mul)) pss_nil)
      (pss_one (ps_ret (pv 1))))))))), ?_⟩
    have hN : n.natAbs ≤ 10 ^ 13 := hn
    have hN0 : 0 < n.natAbs := by omega
    have fits : ∀ {f fN r : Nat}, BI n.natAbs f fN r → fN ≤ 10 ^ 13 ∧ r ≤ 10 ^ 13 ∧ fN * r ≤ 10 ^ 13 := fun h => by
      have := bi_le h hN0
      omega
    have bs : Bd 1 (sgn n) := by unfold Bd; rw [sgn_natAbs]; omega
    refine ⟨_, rfl, _, _, rfl, rfl, _, rfl, ?_⟩
    refine ite2 (fun hc => ?neg) (fun hc => ?pos)
    case' neg =>
      have e : sgn n = -1 := if_pos (of_decide_eq_true hc)
      refine ⟨_, rfl, ?_⟩
    case' pos =>
      have e : sgn n = 1 := if_neg (fun z => hc (decide_eq_true z))
    all_goals
      refine ⟨_, rfl, _, rfl, ?_⟩
      refine while_by (fun σ H' => H' = H ∧ ∃ f fN r : Nat, σ = [some (.int n), some (.int (sgn n * (fN : Nat))), some (.int (r : Nat)), some (.int (f : Nat))] ∧ 2 ≤ f ∧ f ≤ 30000 ∧ BI n.natAbs f fN r) (fun σ _ => match σ with | [_, _, _, some (.int y)] => 40000 - y.toNat | _ => 0) ⟨rfl, 2, 1, n.natAbs, ?_, by omega, by omega, bi_start hN0⟩ ?_ ?_
      · show _ = [some (V.int n), some (V.int (sgn n * 1)), some (V.int n.natAbs), some (V.int 2)]
        rw [e, ← abs_int]; rfl
      · rintro σ H' ⟨rfl, f, fN, r, rfl, f2, fm, hb⟩
        obtain ⟨l1, l2, l3⟩ := fits hb
        have bf : Bd 30000 ((f : Nat) : Int) := by unfold Bd; omega
        have f0 : 0 < f * f := Nat.mul_pos (by omega) (by omega)
        refine ⟨_, rfl, _, rfl, _, _, rfl, rfl, bf.cm bf, _, rfl, _, _, rfl, rfl, (bf.mul bf).cm bf, _, rfl, _, _, rfl, rfl, _, rfl, ?_⟩
        refine ite2 (fun hc => ?_) (fun hc => ?_)
        · have hc1 : f * f * f ≤ r := by
            have := of_decide_eq_true hc
            rw [cast_mul, cast_mul] at this
            omega
          have fs : f < 29999 := by
            refine Nat.lt_of_not_le fun z => ?_
            have : 29999 * 29999 * 29999 ≤ f * f * f := Nat.mul_le_mul (Nat.mul_le_mul z z) z
            omega
          refine while_by (fun σ H2 => H2 = H' ∧ ∃ r : Nat, σ = [some (.int n), some (.int (sgn n * (fN : Nat))), some (.int (r : Nat)), some (.int (f : Nat))] ∧ BI n.natAbs f fN r) (fun σ _ => match σ with | [_, _, some (.int y), _] => y.toNat | _ => 0) ⟨rfl, r, rfl, hb⟩ ?_ ?_
          · rintro σ H2 ⟨rfl, r, rfl, hb⟩
            obtain ⟨l1, l2, l3⟩ := fits hb
            have ec : ((f : Nat) : Int) * (f : Nat) = ((f * f : Nat) : Int) := cast_mul f f
            refine ⟨_, rfl, _, rfl, _, rfl, _, _, rfl, rfl, bf.cm bf, _, _, rfl, rfl, (show ((f : Nat) : Int) * (f : Nat) ≠ 0 by rw [ec]; omega), rfl, _, rfl, ?_⟩
            refine ite2 (fun hd => ?_) (fun hd => ?_)
            · have dv : f * f ∣ r := by
                have : Int.fmod ((r : Nat) : Int) (((f : Nat) : Int) * (f : Nat)) = 0 := by
                  have := of_decide_eq_true hd
                  injection this
                rw [ec, fmod_nat] at this
                exact Nat.dvd_of_mod_eq_zero (by omega)
              refine ⟨_, rfl, _, rfl, _, rfl, _, _, rfl, rfl, bf.cm bf, _, _, rfl, rfl, ⟨(show (0 : Int) < ((f : Nat) : Int) * (f : Nat) by rw [ec]; omega), ?_⟩, ⟨rfl, r / (f * f), ?_, bi_sq f2 hb dv⟩, ?_⟩
              · exact log_small (Nat.lt_of_le_of_lt (bf.mul bf) (by decide))
              · show [some (V.int n), some (V.int (sgn n * (fN : Nat))), some (V.int ((r : Nat) / (((f : Nat) : Int) * (f : Nat)))), some (V.int (f : Nat))] = _
                rw [ec, ediv_nat]
              · show (((r : Nat) : Int) / (((f : Nat) : Int) * (f : Nat))).toNat < r
                rw [ec, ediv_nat]
                show r / (f * f) < r
                have := Nat.div_lt_self hb.r0 (show 1 < f * f by
                  have : 2 * 2 ≤ f * f := Nat.mul_le_mul f2 f2
                  omega)
                exact this
            · have nd : ¬ f * f ∣ r := fun ⟨q, e⟩ => hd (decide_eq_true (by
                show V.int (Int.fmod ((r : Nat) : Int) (((f : Nat) : Int) * (f : Nat))) = V.int 0
                rw [ec, fmod_nat, e, Nat.mul_mod_right]; rfl))
              refine ⟨_, rfl, _, rfl, _, _, rfl, rfl, (show ((f : Nat) : Int) ≠ 0 by omega), rfl, _, rfl, ?_⟩
              have lf : ((f : Nat) : Int).natAbs.log2 < 9000 := log_small (Nat.lt_of_le_of_lt bf (by decide))
              refine ite2 (fun hd => ?_) (fun hd => ?_)
              · have dv : f ∣ r := by
                  have : Int.fmod ((r : Nat) : Int) ((f : Nat) : Int) = 0 := by
                    have := of_decide_eq_true hd
                    injection this
                  rw [fmod_nat] at this
                  exact Nat.dvd_of_mod_eq_zero (by omega)
                have hb' := bi_one f2 hb nd dv
                refine ⟨_, rfl, _, rfl, _, _, rfl, rfl, ⟨(show (0 : Int) < (f : Nat) by omega), lf⟩, ?_⟩
                refine ⟨_, rfl, _, rfl, _, _, rfl, rfl, .inr ⟨by omega, by omega⟩, ?_⟩
                refine ⟨_, rfl, _, _, rfl, rfl, ⟨rfl, f + 1, fN * f, r / f, ?_, by omega, by omega, hb'⟩, ?_⟩
                · show [some (V.int n), some (V.int (sgn n * (fN : Nat) * (f : Nat))), some (V.int (((r : Nat) : Int) / (f : Nat))), some (V.int (((f : Nat) : Int) + 1))] = _
                  rw [Int.mul_assoc, cast_mul, ediv_nat]; rfl
                · show 40000 - (((f : Nat) : Int) + 1).toNat < 40000 - ((f : Nat) : Int).toNat
                  omega
              · have nd1 : ¬ f ∣ r := fun ⟨q, e⟩ => hd (decide_eq_true (by
                  show V.int (Int.fmod ((r : Nat) : Int) ((f : Nat) : Int)) = V.int 0
                  rw [fmod_nat, e, Nat.mul_mod_right]; rfl))
                refine ⟨_, rfl, _, _, rfl, rfl, ⟨rfl, f + 1, fN, r, ?_, by omega, by omega, bi_none hb nd1⟩, ?_⟩
                · rfl
                · show 40000 - (((f : Nat) : Int) + 1).toNat < 40000 - ((f : Nat) : Int).toNat
                  omega
          · rintro σ H Q Q' hq ⟨v, h1, v2, h2, v3, h3, i, j, e1, e2, e3, i2, j2, e4, e5, e6, u, k1, e7, h4⟩
            exact ⟨v, h1, v2, h2, v3, h3, i, j, e1, e2, e3, i2, j2, e4, e5, e6, u, k1, e7, hq _ _ h4⟩
        · have big : r < f * f * f := by
            have : ¬ (((f : Nat) : Int) * (f : Nat) * (f : Nat) ≤ (r : Nat)) := fun z => hc (decide_eq_true z)
            rw [cast_mul, cast_mul] at this
            omega
          obtain ⟨yes, no⟩ := bare_abs f2 hb big
          refine ⟨_, rfl, (r : Nat), rfl, by omega, fun m hm => ?_, fun hm => ?_⟩
          · have hm' : r = m * m := by
              rw [cast_mul] at hm
              omega
            obtain ⟨sf, kk, ek⟩ := yes m hm'
            refine ⟨rfl, _, rfl, ?_⟩
            refine ite2 (fun hd => nomatch of_decide_eq_true hd) (fun _ => ?_)
            exact ⟨_, rfl, k _ (bare_of_abs (bi_le hb hN0).1 sf ek)⟩
          · have hm' : ¬ ∃ m : Nat, r = m * m := fun ⟨m, e⟩ => hm ⟨(m : Nat), by rw [cast_mul, ← e]⟩
            obtain ⟨sf, kk, ek⟩ := no hm'
            refine ⟨rfl, _, rfl, ?_⟩
            refine ite2 (fun _ => ?_) (fun hd => absurd (decide_eq_true rfl) hd)
            refine ⟨_, rfl, _, rfl, _, _, rfl, rfl, .inr ⟨by omega, by omega⟩, _, rfl, ?_⟩
            have := bare_of_abs (n := n) (Nat.mul_pos (bi_le hb hN0).1 hb.r0) sf ek
            show Q (V.int (sgn n * (fN : Nat) * (r : Nat))) H'
            rw [Int.mul_assoc, cast_mul]
            exact k _ this
      · rintro σ H Q Q' hq ⟨v, h1, v2, h2, i, j, e1, e2, e3, v3, h3, i2, j2, e4, e5, e6, v4, h5, i3, j3, e7, e8, k1, e9, h4⟩
        exact ⟨v, h1, v2, h2, i, j, e1, e2, e3, v3, h3, i2, j2, e4, e5, e6, v4, h5, i3, j3, e7, e8, k1, e9, hq _ _ h4⟩
end
end My

namespace My
open PySem PySem.Spec PyProof.Rows L2
open C8 (Cal pe_c pe_gc)
section
variable {c : Cs} {P : Program} {w : World} {K : PySem.W.Frag} {mg : Str → Option Value} {base : Heap}
abbrev s_bare : Stmt := top 19
abbrev N_bare : List Str := ["number"]
abbrev P_bare : List Str := ["number"]
theorem sc_bare : FnScope N_bare ["number"] (defScope s_bare) := ⟨rfl, rfl, rfl, by decide +kernel, rfl, by decide +kernel, by decide +kernel⟩

def sp_bare (cc : Cs) : Sp := fun vs H Q E => ∃ n : Int, vs = [.int n] ∧ Bd (10 ^ 13) n ∧ (n = 0 → E (.ref cc.NoCount) none H) ∧ (n ≠ 0 → ∀ b : Int, Bare b n → Q (.int b) H)
theorem ok_bare (T : Txt K mg c) {f : Addr} {fd : FuncData} (F : L2.Fun K "bare" "bare" s_bare f fd) (h_bare_of : Cal P w K mg base 2 "bare_of" sp_bare_of []) : FnOk P w K mg base (L2.CX P w) 3 f fd P_bare (sp_bare c) := by
  refine F.okX sc_bare (fun vs H Q E h => ?_) (fun cdv A outer s H vs Q E hr h => ?_)
  · obtain ⟨n, rfl, _⟩ := h
    rfl
  · obtain ⟨n, rfl, hn, k0, k⟩ := h
    refine ⟨_, (pss_cons (ps_if (pt_cmpR op_eq (pv 0) pe_int (nomark _)) (pss_one (ps_raise rfl (takes_of rfl rfl rfl rfl) (pmk_own PySem.F.excBase_ValueError T.x_NoCount T.g_NoCount T.k_NoCount (raises_own T.b_NoCount T.t_NoCount) rfl))) pss_nil)
      (pss_one (ps_ret (pe_c h_bare_of hr (by decide) rfl (pa_cons (pv 0) pa_nil))))), ?_⟩
    refine ⟨_, rfl, rfl, _, rfl, ?_⟩
    refine ite2 (fun hc => ?_) (fun hc => ?_)
    · refine k0 ?_
      have := of_decide_eq_true hc
      injection this
    · have n0 : n ≠ 0 := fun e => hc (decide_eq_true (by rw [e]))
      exact ⟨_, rfl, n, rfl, n0, hn, fun b hb => k n0 b hb⟩
abbrev s_Lroot : Stmt := top 26
abbrev N_Lroot : List Str := ["_law_figure", "_law_low", "_law_high", "_law_mid"]
abbrev P_Lroot : List Str := ["_law_figure"]
theorem sc_Lroot : FnScope N_Lroot ["_law_figure"] (defScope s_Lroot) := ⟨rfl, rfl, rfl, by decide +kernel, rfl, by decide +kernel, by decide +kernel⟩

theorem ok_Lroot (T : Txt K mg c) {f : Addr} {fd : FuncData} (F : L2.Fun K "_law_root" "_law_root" s_Lroot f fd) : FnOk P w K mg base CX0 1 f fd P_Lroot sp_root := by
  refine F.ok sc_Lroot (fun vs H Q E h => ?_) (fun cdv A outer s H vs Q E hr h => ?_)
  · obtain ⟨n, rfl, _⟩ := h
    rfl
  · obtain ⟨n, rfl, hn, kY, kN⟩ := h
    refine ⟨_, (pss_cons (ps_if (pt_cmpR op_lt (pv 0) pe_int (nomark _)) (pss_one (ps_ret pe_non)) pss_nil)
      (pss_cons (ps_set (i := 1) sc_Lroot.nd rfl (by first | exact Or.inl rfl | exact Or.inr rfl) pe_int)
      (pss_cons (ps_set (i := 2) sc_Lroot.nd rfl (by first | exact Or.inl rfl | exact Or.inr rfl) pe_int)
      (pss_cons (ps_while PassesOwn.never (pt_cmpR op_le (pe_op op_mulW (pv 2) (pv 2)) (pv 0) (nomark _)) (pss_one (ps_set (i := 2) sc_Lroot.nd rfl (by first | exact Or.inl rfl | exact Or.inr rfl) (pe_op op_mulW pe_int (pv 2)))))
      (pss_cons (ps_while PassesOwn.never (pt_cmpR op_gt (pe_op op_sub (pv 2) (pv 1)) pe_int (nomark _)) (pss_cons (ps_set (i := 3) sc_Lroot.nd rfl (by first | exact Or.inl rfl | exact Or.inr rfl) (pe_op op_fdivA (pe_op op_add (pv 1) (pv 2)) pe_int))
      (pss_one (ps_if (pt_cmpR op_le (pe_op op_mulW (pv 3) (pv 3)) (pv 0) (nomark _)) (pss_one (ps_set (i := 1) sc_Lroot.nd rfl (by first | exact Or.inl rfl | exact Or.inr rfl) (pv 3))) (pss_one (ps_set (i := 2) sc_Lroot.nd rfl (by first | exact Or.inl rfl | exact Or.inr rfl) (pv 3)))))))
      (pss_cons (ps_if (pt_cmpR op_eq (pe_op op_mulW (pv 1) (pv 1)) (pv 0) (nomark _)) (pss_one (ps_ret (pv 1))) pss_nil)
      (pss_one (ps_ret pe_non)))))))), ?_⟩
    refine ⟨_, rfl, _, _, rfl, rfl, _, rfl, ?_⟩
    refine ite2 (fun hc => ?_) (fun hc => ?_)
    · exact kN (no_root_neg (of_decide_eq_true hc))
    · have nn : 0 ≤ n := by
        have : ¬ n < 0 := fun z => hc (decide_eq_true z)
        omega
      obtain ⟨m, rfl⟩ := nat_of nn
      have hm : m < 2 ^ 58 := by omega
      refine while_by (fun σ H' => H' = H ∧ ∃ x : Nat, σ = [some (.int (m : Nat)), some (.int 0), some (.int (x : Nat)), none] ∧ 0 < x ∧ x ≤ 2 ^ 31) (fun σ _ => match σ with | [_, _, some (.int y), _] => 2 ^ 32 - y.toNat | _ => 0) ⟨rfl, 1, rfl, by decide, by decide⟩ ?_ ?_
      · rintro σ H' ⟨rfl, x, rfl, x0, xs⟩
        have bx : Bd (2 ^ 31) (x : Nat) := by unfold Bd; omega
        refine ⟨_, rfl, _, rfl, _, _, rfl, rfl, cmul_small (Nat.lt_of_le_of_lt bx (by decide)) (Nat.lt_of_le_of_lt bx (by decide)), _, rfl, _, _, rfl, rfl, _, rfl, ?_⟩
        refine ite2 (fun hc => ?_) (fun hc => ?_)
        · have hle : x * x ≤ m := by
            have := of_decide_eq_true hc
            rw [cast_sq] at this
            omega
          have xl : x < 2 ^ 29 := by
            refine Nat.lt_of_not_le fun z => ?_
            have : 2 ^ 29 * 2 ^ 29 ≤ x * x := Nat.mul_le_mul z z
            omega
          refine ⟨_, rfl, _, _, rfl, rfl, (bd_lit (n := 2)).cm bx, ⟨rfl, 2 * x, ?_, by omega, by omega⟩, ?_⟩
          · show [some (V.int (m : Nat)), some (V.int 0), some (V.int (2 * (x : Nat))), none] = _
            rw [show (2 : Int) * (x : Nat) = ((2 * x : Nat) : Int) by omega]
          · show 2 ^ 32 - (2 * ((x : Nat) : Int)).toNat < 2 ^ 32 - x
            omega
        · have hgt : m < x * x := by
            have : ¬ ((x : Nat) : Int) * (x : Nat) ≤ (m : Nat) := fun z => hc (decide_eq_true z)
            rw [cast_sq] at this
            omega
          refine while_by (fun σ H2 => H2 = H' ∧ ∃ (l h : Nat) (o : Option V), σ = [some (.int (m : Nat)), some (.int (l : Nat)), some (.int (h : Nat)), o] ∧ l < h ∧ h ≤ 2 ^ 31 ∧ l * l ≤ m ∧ m < h * h) (fun σ _ => match σ with | [_, some (.int x), some (.int y), _] => y.toNat - x.toNat | _ => 0) ⟨rfl, 0, x, _, rfl, by omega, by omega, by omega, hgt⟩ ?_ ?_
          · rintro σ H2 ⟨rfl, l, h, o, rfl, lh, hs, lo, hi⟩
            refine ⟨_, rfl, _, rfl, _, _, rfl, rfl, _, _, rfl, rfl, _, rfl, ?_⟩
            refine ite2 (fun hc => ?_) (fun hc => ?_)
            · have gap : l + 1 < h := by
                have := of_decide_eq_true hc
                omega
              have em : Int.fdiv (((l : Nat) : Int) + (h : Nat)) 2 = (((l + h) / 2 : Nat) : Int) := fdiv_nat (l + h) 2
              have bm : Bd (2 ^ 31) (((l + h) / 2 : Nat) : Int) := by unfold Bd; omega
              refine ⟨_, rfl, _, rfl, _, _, rfl, rfl, _, _, rfl, rfl, ⟨(show (2 : Int) ≠ 0 by decide), (show (2 : Int).natAbs.log2 < 9000 by decide +kernel)⟩, ?_⟩
              refine ⟨_, rfl, _, rfl, _, _, rfl, rfl, ?_, _, rfl, _, _, rfl, rfl, _, rfl, ?_⟩
              · rw [em]
                exact cmul_small (Nat.lt_of_le_of_lt bm (by decide)) (Nat.lt_of_le_of_lt bm (by decide))
              refine ite2 (fun hd => ?_) (fun hd => ?_)
              · have hle : (l + h) / 2 * ((l + h) / 2) ≤ m := by
                  have := of_decide_eq_true hd
                  rw [em, cast_sq] at this
                  omega
                refine ⟨_, rfl, ⟨rfl, (l + h) / 2, h, some (.int (((l + h) / 2 : Nat))), ?_, by omega, hs, hle, hi⟩, ?_⟩
                · show [some (V.int (m : Nat)), some (V.int (Int.fdiv (((l : Nat) : Int) + (h : Nat)) 2)), some (V.int (h : Nat)), some (V.int (Int.fdiv (((l : Nat) : Int) + (h : Nat)) 2))] = _
                  rw [em]
                · show (h : Int).toNat - (Int.fdiv (((l : Nat) : Int) + (h : Nat)) 2).toNat < (h : Int).toNat - (l : Int).toNat
                  rw [em]
                  omega
              · have hlt : m < (l + h) / 2 * ((l + h) / 2) := by
                  have : ¬ (Int.fdiv (((l : Nat) : Int) + (h : Nat)) 2 * Int.fdiv (((l : Nat) : Int) + (h : Nat)) 2 ≤ (m : Nat)) := fun z => hd (decide_eq_true z)
                  rw [em, cast_sq] at this
                  omega
                refine ⟨_, rfl, ⟨rfl, l, (l + h) / 2, some (.int (((l + h) / 2 : Nat))), ?_, by omega, by omega, lo, hlt⟩, ?_⟩
                · show [some (V.int (m : Nat)), some (V.int (l : Nat)), some (V.int (Int.fdiv (((l : Nat) : Int) + (h : Nat)) 2)), some (V.int (Int.fdiv (((l : Nat) : Int) + (h : Nat)) 2))] = _
                  rw [em]
                · show (Int.fdiv (((l : Nat) : Int) + (h : Nat)) 2).toNat - (l : Int).toNat < (h : Int).toNat - (l : Int).toNat
                  rw [em]
                  omega
            · have hh : h = l + 1 := by
                have : ¬ (1 : Int) < ((h : Nat) : Int) - (l : Nat) := fun z => hc (decide_eq_true z)
                omega
              subst hh
              have bl : Bd (2 ^ 31) (l : Nat) := by unfold Bd; omega
              refine ⟨_, rfl, _, rfl, _, _, rfl, rfl, cmul_small (Nat.lt_of_le_of_lt bl (by decide)) (Nat.lt_of_le_of_lt bl (by decide)), _, rfl, rfl, _, rfl, ?_⟩
              refine ite2 (fun hc2 => ?_) (fun hc2 => ?_)
              · have e : ((l : Nat) : Int) * (l : Nat) = (m : Nat) := by
                  have := of_decide_eq_true hc2
                  injection this
                exact ⟨_, rfl, kY l e.symm⟩
              · refine kN (no_root_nat fun ⟨r, e⟩ => hc2 (decide_eq_true ?_))
                have := root_is lo hi e
                subst this
                show V.int (((l : Nat) : Int) * (l : Nat)) = V.int (m : Nat)
                rw [cast_sq, e]
          · rintro σ H Q Q' hq ⟨v, h1, v2, h2, i, j, e1, e2, i2, j2, e4, e5, k1, e7, h4⟩
            exact ⟨v, h1, v2, h2, i, j, e1, e2, i2, j2, e4, e5, k1, e7, hq _ _ h4⟩
      · rintro σ H Q Q' hq ⟨v, h1, v2, h2, i, j, e1, e2, e3, v3, h3, i2, j2, e4, e5, k1, e7, h4⟩
        exact ⟨v, h1, v2, h2, i, j, e1, e2, e3, v3, h3, i2, j2, e4, e5, k1, e7, hq _ _ h4⟩
abbrev s_Lbare : Stmt := top 27
abbrev N_Lbare : List Str := ["_law_figure", "_law_size", "_law_found", "_law_by", "_law_many"]
abbrev P_Lbare : List Str := ["_law_figure"]
theorem sc_Lbare : FnScope N_Lbare ["_law_figure"] (defScope s_Lbare) := ⟨rfl, rfl, rfl, by decide +kernel, rfl, by decide +kernel, by decide +kernel⟩

theorem ok_Lbare (T : Txt K mg c) {f : Addr} {fd : FuncData} (F : L2.Fun K "_law_bare" "_law_bare" s_Lbare f fd) (h_Lroot : Cal P w K mg base 1 "_law_root" sp_root []) : FnOk P w K mg base CX0 2 f fd P_Lbare sp_bare_of := by
  refine F.ok sc_Lbare (fun vs H Q E h => ?_) (fun cdv A outer s H vs Q E hr h => ?_)
  · obtain ⟨n, rfl, _⟩ := h
    rfl
  · obtain ⟨n, rfl, n0, hn, k⟩ := h
    refine ⟨_, (pss_cons (ps_set (i := 1) sc_Lbare.nd rfl (by first | exact Or.inl rfl | exact Or.inr rfl) (pe_callB call_abs (by rfl) T.z_abs (by decide +kernel) (pa_cons (pv 0) pa_nil)))
      (pss_cons (ps_set (i := 2) sc_Lbare.nd rfl (by first | exact Or.inl rfl | exact Or.inr rfl) pe_int)
      (pss_cons (ps_set (i := 3) sc_Lbare.nd rfl (by first | exact Or.inl rfl | exact Or.inr rfl) pe_int)
      (pss_cons (ps_while PassesOwn.never (pt_cmpR op_le (pe_op op_mulW (pe_op op_mulW (pv 3) (pv 3)) (pv 3)) (pv 1) (nomark _)) (pss_cons (ps_set (i := 4) sc_Lbare.nd rfl (by first | exact Or.inl rfl | exact Or.inr rfl) pe_int)
      (pss_cons (ps_while PassesOwn.never (pt_cmpR op_eq (pe_op op_modN (pv 1) (pv 3)) pe_int (nomark _)) (pss_cons (ps_set (i := 1) sc_Lbare.nd rfl (by first | exact Or.inl rfl | exact Or.inr rfl) (pe_op op_fdivA (pv 1) (pv 3)))
      (pss_one (ps_set (i := 4) sc_Lbare.nd rfl (by first | exact Or.inl rfl | exact Or.inr rfl) (pe_op op_add (pv 4) pe_int)))))
      (pss_cons (ps_if (pt_cmpR op_eq (pe_op op_modN (pv 4) pe_int) pe_int (nomark _)) (pss_one (ps_set (i := 2) sc_Lbare.nd rfl (by first | exact Or.inl rfl | exact Or.inr rfl) (pe_op op_mulW (pv 2) (pv 3)))) pss_nil)
      (pss_one (ps_set (i := 3) sc_Lbare.nd rfl (by first | exact Or.inl rfl | exact Or.inr rfl) (pe_op op_add (pv 3) pe_int)))))))
      (pss_cons (ps_if (pt_cmpR op_isN (pe_c h_Lroot hr (by decide) rfl (pa_cons (pv 1) pa_nil)) pe_non (nomark _)) (pss_one (ps_set (i := 2) sc_Lbare.nd rfl (by first | exact Or.inl rfl | exact Or.inr rfl) (pe_op op_mulW (pv 2) (pv 1)))) pss_nil)
      (pss_cons (ps_if (pt_cmpR op_lt (pv 0) pe_int (nomark _)) (pss_one (ps_set (i := 2) sc_Lbare.nd rfl (by first | exact Or.inl rfl | exact Or.inr rfl) (pe_op op_sub pe_int (pv 2)))) pss_nil)
      (pss_one (ps_ret (pv 2))))))))), ?_⟩
    have hN : n.natAbs ≤ 10 ^ 13 := hn
    have hN0 : 0 < n.natAbs := by omega
    have fits : ∀ {f fN r : Nat}, BI n.natAbs f fN r → fN ≤ 10 ^ 13 ∧ r ≤ 10 ^ 13 ∧ fN * r ≤ 10 ^ 13 := fun h => by
      have := bi_le h hN0
      omega
    refine ⟨_, rfl, _, rfl, ?_⟩
    refine while_by (fun σ H' => H' = H ∧ ∃ (f fN r : Nat) (o : Option V), σ = [some (.int n), some (.int (r : Nat)), some (.int (fN : Nat)), some (.int (f : Nat)), o] ∧ 2 ≤ f ∧ f ≤ 30000 ∧ BI n.natAbs f fN r) (fun σ _ => match σ with | [_, _, _, some (.int y), _] => 40000 - y.toNat | _ => 0) ⟨rfl, 2, 1, n.natAbs, none, ?_, by omega, by omega, bi_start hN0⟩ ?_ ?_
    · show _ = [some (V.int n), some (V.int n.natAbs), some (V.int 1), some (V.int 2), none]
      rw [← abs_int]; rfl
    · rintro σ H' ⟨rfl, f, fN, r, o, rfl, f2, fm, hb⟩
      obtain ⟨l1, l2, l3⟩ := fits hb
      have bf : Bd 30000 ((f : Nat) : Int) := by unfold Bd; omega
      refine ⟨_, rfl, _, rfl, _, _, rfl, rfl, bf.cm bf, _, rfl, _, _, rfl, rfl, (bf.mul bf).cm bf, _, rfl, _, _, rfl, rfl, _, rfl, ?_⟩
      refine ite2 (fun hc => ?_) (fun hc => ?_)
      · have hc1 : f * f * f ≤ r := by
          have := of_decide_eq_true hc
          rw [cast_mul, cast_mul] at this
          omega
        have fs : f < 29999 := by
          refine Nat.lt_of_not_le fun z => ?_
          have : 29999 * 29999 * 29999 ≤ f * f * f := Nat.mul_le_mul (Nat.mul_le_mul z z) z
          omega
        refine while_by (fun σ H2 => H2 = H' ∧ ∃ m r : Nat, σ = [some (.int n), some (.int (r : Nat)), some (.int (fN : Nat)), some (.int (f : Nat)), some (.int (m : Nat))] ∧ BL n.natAbs f fN m r ∧ r ≤ 10 ^ 13) (fun σ _ => match σ with | [_, some (.int y), _, _, _] => y.toNat | _ => 0) ⟨rfl, 0, r, rfl, bl_start hb, l2⟩ ?_ ?_
        · rintro σ H2 ⟨rfl, m, r, rfl, hl, lr⟩
          refine ⟨_, rfl, _, rfl, _, _, rfl, rfl, (show ((f : Nat) : Int) ≠ 0 by omega), rfl, _, rfl, ?_⟩
          have lf : ((f : Nat) : Int).natAbs.log2 < 9000 := log_small (Nat.lt_of_le_of_lt bf (by decide))
          refine ite2 (fun hd => ?_) (fun hd => ?_)
          · have dv : f ∣ r := by
              have : Int.fmod ((r : Nat) : Int) ((f : Nat) : Int) = 0 := by
                have := of_decide_eq_true hd
                injection this
              rw [fmod_nat] at this
              exact Nat.dvd_of_mod_eq_zero (by omega)
            refine ⟨_, rfl, _, rfl, _, _, rfl, rfl, ⟨(show ((f : Nat) : Int) ≠ 0 by omega), lf⟩, ?_⟩
            refine ⟨_, rfl, _, _, rfl, rfl, ⟨rfl, m + 1, r / f, ?_, bl_step f2 hl dv, ?_⟩, ?_⟩
            · show [some (V.int n), some (V.int (Int.fdiv (r : Nat) (f : Nat))), some (V.int (fN : Nat)), some (V.int (f : Nat)), some (V.int (((m : Nat) : Int) + 1))] = _
              rw [fdiv_nat]; rfl
            · exact Nat.le_trans (Nat.div_le_self r f) lr
            · show (Int.fdiv ((r : Nat) : Int) (f : Nat)).toNat < r
              rw [fdiv_nat]
              show r / f < r
              exact Nat.div_lt_self hl.r0 (by omega)
          · have nd1 : ¬ f ∣ r := fun ⟨q, e⟩ => hd (decide_eq_true (by
              show V.int (Int.fmod ((r : Nat) : Int) ((f : Nat) : Int)) = V.int 0
              rw [fmod_nat, e, Nat.mul_mod_right]; rfl))
            have hb' := bl_end f2 hl nd1
            refine ⟨_, rfl, _, _, rfl, rfl, (show (2 : Int) ≠ 0 by decide), rfl, _, rfl, ?_⟩
            have em : Int.fmod ((m : Nat) : Int) 2 = ((m % 2 : Nat) : Int) := fmod_nat m 2
            refine ite2 (fun hd => ?_) (fun hd => ?_)
            · have m1 : m % 2 = 1 := by
                have : Int.fmod ((m : Nat) : Int) 2 = 1 := by
                  have := of_decide_eq_true hd
                  injection this
                rw [em] at this
                omega
              rw [if_pos m1] at hb'
              refine ⟨_, rfl, _, rfl, _, _, rfl, rfl, cmul_small (by show fN < 2 ^ 60; omega) (by show f < 2 ^ 60; omega), ?_⟩
              refine ⟨_, rfl, _, _, rfl, rfl, ⟨rfl, f + 1, fN * f, r, some (.int (m : Nat)), ?_, by omega, by omega, hb'⟩, ?_⟩
              · show [some (V.int n), some (V.int (r : Nat)), some (V.int (((fN : Nat) : Int) * (f : Nat))), some (V.int (((f : Nat) : Int) + 1)), some (V.int (m : Nat))] = _
                rw [cast_mul]; rfl
              · show 40000 - (((f : Nat) : Int) + 1).toNat < 40000 - ((f : Nat) : Int).toNat
                omega
            · have m1 : ¬ m % 2 = 1 := fun z => hd (decide_eq_true (by
                show V.int (Int.fmod ((m : Nat) : Int) 2) = V.int 1
                rw [em, z]; rfl))
              rw [if_neg m1] at hb'
              refine ⟨_, rfl, _, _, rfl, rfl, ⟨rfl, f + 1, fN, r, _, rfl, by omega, by omega, hb'⟩, ?_⟩
              show 40000 - (((f : Nat) : Int) + 1).toNat < 40000 - ((f : Nat) : Int).toNat
              omega
        · rintro σ H Q Q' hq ⟨v, h1, v2, h2, i2, j2, e4, e5, e6, u, k1, e7, h4⟩
          exact ⟨v, h1, v2, h2, i2, j2, e4, e5, e6, u, k1, e7, hq _ _ h4⟩
      · have big : r < f * f * f := by
          have : ¬ (((f : Nat) : Int) * (f : Nat) * (f : Nat) ≤ (r : Nat)) := fun z => hc (decide_eq_true z)
          rw [cast_mul, cast_mul] at this
          omega
        obtain ⟨yes, no⟩ := bare_abs f2 hb big
        have fin : ∀ (z : Nat) (o : Option V), Bare (sgn n * (z : Nat)) n → (tSeq
              (tIfS (tTest (tOp (rI0 fun i j => V.bl (decide (i < j))) (tVar 0) (tC (V.int 0))))
                (tAsg (tOp (rI0 fun i j => V.int (i - j)) (tC (V.int 0)) (tVar 2)) (gName 2)) tNext)
              (tRet (tVar 2))) ({ nx := fun _ H' => Q .non H', rt := Q } : Ends) [some (.int n), some (.int (r : Nat)), some (.int (z : Nat)), some (.int (f : Nat)), o] H' := fun z o hz => by
          refine ⟨_, rfl, _, _, rfl, rfl, _, rfl, ?_⟩
          refine ite2 (fun hd => ?_) (fun hd => ?_)
          · refine ⟨_, rfl, _, _, rfl, rfl, _, rfl, ?_⟩
            have := k _ hz
            rw [show sgn n = -1 from if_pos (of_decide_eq_true hd)] at this
            show Q (.int (0 - (z : Nat))) H'
            rw [show (0 : Int) - (z : Nat) = -1 * (z : Nat) by omega]
            exact this
          · have := k _ hz
            rw [show sgn n = 1 from if_neg (fun y => hd (decide_eq_true y)), Int.one_mul] at this
            exact ⟨_, rfl, this⟩
        refine ⟨_, rfl, (r : Nat), rfl, by omega, fun m hm => ?_, fun hm => ?_⟩
        · have hm' : r = m * m := by
            rw [cast_mul] at hm
            omega
          obtain ⟨sf, kk, ek⟩ := yes m hm'
          refine ⟨rfl, _, rfl, ?_⟩
          refine ite2 (fun hd => nomatch of_decide_eq_true hd) (fun _ => ?_)
          exact fin _ _ (bare_of_abs (bi_le hb hN0).1 sf ek)
        · have hm' : ¬ ∃ m : Nat, r = m * m := fun ⟨m, e⟩ => hm ⟨(m : Nat), by rw [cast_mul, ← e]⟩
          obtain ⟨sf, kk, ek⟩ := no hm'
          refine ⟨rfl, _, rfl, ?_⟩
          refine ite2 (fun _ => ?_) (fun hd => absurd (decide_eq_true rfl) hd)
          refine ⟨_, rfl, _, rfl, _, _, rfl, rfl, cmul_small (by show fN < 2 ^ 60; omega) (by show r < 2 ^ 60; omega), ?_⟩
          have := fin _ o (bare_of_abs (n := n) (Nat.mul_pos (bi_le hb hN0).1 hb.r0) sf ek)
          rw [← cast_mul] at this
          exact this
    · rintro σ H Q Q' hq ⟨v, h1, v2, h2, i, j, e1, e2, e3, v3, h3, i2, j2, e4, e5, e6, v4, h5, i3, j3, e7, e8, k1, e9, h4⟩
      exact ⟨v, h1, v2, h2, i, j, e1, e2, e3, v3, h3, i2, j2, e4, e5, e6, v4, h5, i3, j3, e7, e8, k1, e9, hq _ _ h4⟩
end
end My

namespace My
open PySem PySem.Spec PyProof.Rows L2
open C8 (Cal pe_c pe_gc)
/-! ### data that is compared -/
def dInts (ns : List Int) : PyData := .list (ns.map PyData.int)
def dFr (q : Int × Int) : PyData := .tuple [.int q.1, .int q.2]
theorem canInts : ∀ ns : List Int, PyData.canLayAll0 (ns.map PyData.int) = true ∧ PyData.depthAll (ns.map PyData.int) ≤ 1
  | [] => ⟨rfl, by decide⟩
  | n :: r => by
    have h := canInts r
    refine ⟨?_, ?_⟩
    · show (PyData.canLay0 (.int n) && PyData.canLayAll0 (r.map PyData.int)) = true
      rw [h.1]; rfl
    · show max (PyData.depth (.int n)) (PyData.depthAll (r.map PyData.int)) ≤ 1
      have : PyData.depth (.int n) ≤ 1 := by unfold PyData.depth; omega
      omega
theorem shInts (ns : List Int) : SeqAt.shaped (dInts ns) = true := by
  unfold SeqAt.shaped dInts
  have h := canInts ns
  have d : PyData.depth (.list (ns.map PyData.int)) ≤ 64 := by
    show PyData.depthAll (ns.map PyData.int) + 1 ≤ 64
    omega
  rw [show PyData.canLay0 (.list (ns.map PyData.int)) = true from h.1, decide_eq_true d]; rfl
theorem dpAllInts {K : PySem.W.Frag} {H : Hp} : ∀ ns : List Int, DpAll K H (ns.map V.int) (ns.map PyData.int)
  | [] => .nil
  | n :: r => .cons (.int n) (dpAllInts r)
theorem dpInts {K : PySem.W.Frag} {H : Hp} {a : Addr} {ns : List Int} (h : SqL K H a (ns.map V.int)) : Dp K H (.ref a) (dInts ns) := .lst h (dpAllInts ns)
theorem dpFr {K : PySem.W.Frag} {H : Hp} {v : V} {q : Int × Int} (h : FrAt K H v q) : Dp K H v (dFr q) := by
  obtain ⟨p, rfl, hp⟩ := h
  exact .tup (SqT.of hp) (.cons (.int _) (.cons (.int _) .nil))
theorem eqInts (ns : List Int) : PyData.eqv (dInts ns) (dInts ns) = true := SeqAt.eqv_refl _ (SeqAt.canLay_of_shaped (shInts ns))
end My

namespace My
open PySem PySem.Spec PyProof.Rows L2
open C8 (Cal pe_c pe_gc)
/-- what the law's class answers of: no error, or one that was caught and kept; j: its sort -/
def Ask (K : PySem.W.Frag) (c : Cs) (H : Hp) (v : V) (j : Option Nat) : Prop := ∃ t, Row K c t j ∧
  ((v = .non ∧ t = .type "NoneType" ∧ j = none) ∨ ∃ a D d i, v = .ref a ∧ t = .ref D ∧ Kept H a D d ∧ ExcC K D ∧ j = some i ∧ i < 14)
theorem Kept.same {H H' : Hp} {a D : Addr} {d : Option Addr} (h : Kept H a D d) (s : Same H H') : Kept H' a D d := by
  obtain ⟨h1, h2⟩ := h
  refine ⟨s _ _ h1, ?_⟩
  rcases h2 with rfl | ⟨dd, fs, rfl, h3⟩
  · exact .inl rfl
  · exact .inr ⟨dd, fs, rfl, s _ _ h3⟩
theorem Ask.same {K : PySem.W.Frag} {c : Cs} {H H' : Hp} {v : V} {j : Option Nat} (h : Ask K c H v j) (s : Same H H') : Ask K c H' v j := by
  obtain ⟨t, r, h | ⟨a, D, d, i, e1, e2, k, x⟩⟩ := h
  · exact ⟨t, r, .inl h⟩
  · exact ⟨t, r, .inr ⟨a, D, d, i, e1, e2, k.same s, x⟩⟩
theorem Ask.is {K : PySem.W.Frag} {c : Cs} {H : Hp} {v : V} {j : Option Nat} {C : Addr} {b : Bool} {Q : VK} (h : Ask K c H v j) (f : ∀ t, Row K c t j → PySem.W.kitOne K t (.ref C) = some b) (q : Q (.bl b) H) : rIsi K [v, .ref C] H Q ∨ rIsK K [v, .ref C] H Q := by
  obtain ⟨t, r, ⟨rfl, rfl, rfl⟩ | ⟨a, D, d, i, rfl, rfl, k, x, rfl, hi⟩⟩ := h
  · exact .inl ⟨_, _, _, _, b, rfl, .own C, .base .non, f _ r, q⟩
  · exact .inr ⟨a, D, d, _, _, b, rfl, k, x, .own C, f _ r, q⟩
/-- what the law's class answers -/
def kindsOf (j : Option Nat) : List Int := match j with | some k => [(k : Int)] | none => []
def kindsTo (j : Option Nat) (i : Nat) : List Int := match j with | some k => if k < i then [(k : Int)] else [] | none => []
theorem kindsTo_all {j : Option Nat} (h : ∀ i, j = some i → i < 14) : kindsTo j 14 = kindsOf j := by
  cases j with
  | none => rfl
  | some k => exact if_pos (h k rfl)
theorem kindsTo_len (j : Option Nat) (i : Nat) : (kindsTo j i).length ≤ 1 := by
  unfold kindsTo
  cases j with
  | none => exact Nat.zero_le _
  | some k =>
    dsimp only
    split
    · exact Nat.le_refl _
    · exact Nat.zero_le _
theorem kindsTo_yes {j : Option Nat} {i : Nat} (h : (j == some i) = true) : kindsTo j (i + 1) = kindsTo j i ++ [(i : Int)] := by
  have e : j = some i := eq_of_beq h
  subst e
  show (if i < i + 1 then [(i : Int)] else []) = (if i < i then [(i : Int)] else []) ++ [(i : Int)]
  rw [if_pos (by omega), if_neg (by omega)]; rfl
theorem kindsTo_no {j : Option Nat} {i : Nat} (h : (j == some i) = false) : kindsTo j (i + 1) = kindsTo j i := by
  cases j with
  | none => rfl
  | some k =>
    have ne : k ≠ i := fun z => by rw [z] at h; simp at h
    show (if k < i + 1 then [(k : Int)] else []) = (if k < i then [(k : Int)] else [])
    by_cases l : k < i
    · rw [if_pos l, if_pos (by omega)]
    · rw [if_neg l, if_neg (by omega)]
def flagsV (j : Option Nat) : List V := [.bl (j == some 0), .bl (j == some 1), .bl (j == some 2), .bl (j == some 3), .bl (j == some 4), .bl (j == some 5), .bl (j == some 6), .bl (j == some 7), .bl (j == some 8), .bl (j == some 9), .bl (j == some 10), .bl (j == some 11), .bl (j == some 12), .bl (j == some 13)]
theorem flags_at {j : Option Nat} {i : Nat} (h : i < 14) : (flagsV j)[i]? = some (.bl (j == some i)) := by
  match i, h with
  | 0, _ | 1, _ | 2, _ | 3, _ | 4, _ | 5, _ | 6, _ | 7, _ | 8, _ | 9, _ | 10, _ | 11, _ | 12, _ | 13, _ => rfl
theorem Ask.lt {K : PySem.W.Frag} {c : Cs} {H : Hp} {v : V} {j : Option Nat} (h : Ask K c H v j) : ∀ i, j = some i → i < 14 := by
  obtain ⟨t, r, ⟨_, _, e⟩ | ⟨a, D, d, i, _, _, k, x, e, hi⟩⟩ := h
  · intro i z; rw [e] at z; cases z
  · intro i' z; rw [e] at z; cases z; exact hi
theorem Ask.non {K : PySem.W.Frag} {c : Cs} {H : Hp} {v : V} {j : Option Nat} (h : Ask K c H v j) : (v = .non ∧ j = none) ∨ (v ≠ .non ∧ ∃ i, j = some i) := by
  obtain ⟨t, r, ⟨e, _, e2⟩ | ⟨a, D, d, i, e, _, k, x, e2, hi⟩⟩ := h
  · exact .inl ⟨e, e2⟩
  · exact .inr ⟨(by rw [e]; exact fun z => nomatch z), i, e2⟩
section
variable {c : Cs} {P : Program} {w : World} {K : PySem.W.Frag} {mg : Str → Option Value} {base : Heap}
abbrev s_Lclass : Stmt := top 28
abbrev N_Lclass : List Str := ["_law_e", "_law_found", "_law_kinds", "_law_k"]
abbrev P_Lclass : List Str := ["_law_e"]
theorem sc_Lclass : FnScope N_Lclass ["_law_e"] (defScope s_Lclass) := ⟨rfl, rfl, rfl, by decide +kernel, rfl, by decide +kernel, by decide +kernel⟩

def sp_Lclass (K : PySem.W.Frag) (c : Cs) : Sp := fun vs H Q _ => ∃ (v : V) (j : Option Nat), vs = [v] ∧ Ask K c H v j ∧ ∀ H' p, Same H H' → H' p = some (.lst ((kindsOf j).map V.int)) → H p = none → Q (.ref p) H'
theorem ok_Lclass (T : Txt K mg c) {f : Addr} {fd : FuncData} (F : L2.Fun K "_law_class" "_law_class" s_Lclass f fd) : FnOk P w K mg base CX0 1 f fd P_Lclass (sp_Lclass K c) := by
  refine F.ok sc_Lclass (fun vs H Q E h => ?_) (fun cdv A outer s H vs Q E hr h => ?_)
  · obtain ⟨v, j, rfl, _⟩ := h
    rfl
  · obtain ⟨v, j, rfl, A0, k⟩ := h
    refine ⟨_, (pss_cons (ps_set (i := 1) sc_Lclass.nd rfl (by first | exact Or.inl rfl | exact Or.inr rfl) (pe_lst (pa_cons (pe_callB call_isA (by rfl) T.z_isinstance (by decide +kernel) (pa_cons (pv 0) (pa_cons (pe_gc (v := .ref c.NoPoly) rfl ⟨_, T.g_NoPoly, rfl⟩) pa_nil))) (pa_cons (pe_callB call_isA (by rfl) T.z_isinstance (by decide +kernel) (pa_cons (pv 0) (pa_cons (pe_gc (v := .ref c.NoHouse) rfl ⟨_, T.g_NoHouse, rfl⟩) pa_nil))) (pa_cons (pe_callB call_isA (by rfl) T.z_isinstance (by decide +kernel) (pa_cons (pv 0) (pa_cons (pe_gc (v := .ref c.NoLetter) rfl ⟨_, T.g_NoLetter, rfl⟩) pa_nil))) (pa_cons (pe_callB call_isA (by rfl) T.z_isinstance (by decide +kernel) (pa_cons (pv 0) (pa_cons (pe_gc (v := .ref c.NoCount) rfl ⟨_, T.g_NoCount, rfl⟩) pa_nil))) pa_nil))))))
      (pss_cons (ps_set (i := 1) sc_Lclass.nd rfl (by first | exact Or.inl rfl | exact Or.inr rfl) (pe_op op_cat (pv 1) (pe_lst (pa_cons (pe_callB call_isA (by rfl) T.z_isinstance (by decide +kernel) (pa_cons (pv 0) (pa_cons (pe_gc (v := .ref c.NoMove) rfl ⟨_, T.g_NoMove, rfl⟩) pa_nil))) (pa_cons (pe_callB call_isA (by rfl) T.z_isinstance (by decide +kernel) (pa_cons (pv 0) (pa_cons (pe_gc (v := .ref c.NoWord) rfl ⟨_, T.g_NoWord, rfl⟩) pa_nil))) (pa_cons (pe_callB call_isA (by rfl) T.z_isinstance (by decide +kernel) (pa_cons (pv 0) (pa_cons (pe_gc (v := .ref c.Full) rfl ⟨_, T.g_Full, rfl⟩) pa_nil))) (pa_cons (pe_callB call_isA (by rfl) T.z_isinstance (by decide +kernel) (pa_cons (pv 0) (pa_cons (pe_gc (v := .ref c.NoDeed) rfl ⟨_, T.g_NoDeed, rfl⟩) pa_nil))) pa_nil)))))))
      (pss_cons (ps_set (i := 1) sc_Lclass.nd rfl (by first | exact Or.inl rfl | exact Or.inr rfl) (pe_op op_cat (pv 1) (pe_lst (pa_cons (pe_callB call_isA (by rfl) T.z_isinstance (by decide +kernel) (pa_cons (pv 0) (pa_cons (pe_gc (v := .ref c.NoText) rfl ⟨_, T.g_NoText, rfl⟩) pa_nil))) (pa_cons (pe_callB call_isA (by rfl) T.z_isinstance (by decide +kernel) (pa_cons (pv 0) (pa_cons (pe_gc (v := .ref c.NoLine) rfl ⟨_, T.g_NoLine, rfl⟩) pa_nil))) (pa_cons (pe_callB call_isA (by rfl) T.z_isinstance (by decide +kernel) (pa_cons (pv 0) (pa_cons (pe_gc (v := .ref c.NoOver) rfl ⟨_, T.g_NoOver, rfl⟩) pa_nil))) (pa_cons (pe_callB call_isA (by rfl) T.z_isinstance (by decide +kernel) (pa_cons (pv 0) (pa_cons (pe_gc (v := .ref c.NoName) rfl ⟨_, T.g_NoName, rfl⟩) pa_nil))) pa_nil)))))))
      (pss_cons (ps_set (i := 1) sc_Lclass.nd rfl (by first | exact Or.inl rfl | exact Or.inr rfl) (pe_op op_cat (pv 1) (pe_lst (pa_cons (pe_callB call_isA (by rfl) T.z_isinstance (by decide +kernel) (pa_cons (pv 0) (pa_cons (pe_gc (v := .ref c.Twice) rfl ⟨_, T.g_Twice, rfl⟩) pa_nil))) (pa_cons (pe_callB call_isA (by rfl) T.z_isinstance (by decide +kernel) (pa_cons (pv 0) (pa_cons (pe_gc (v := .ref c.NoNumber) rfl ⟨_, T.g_NoNumber, rfl⟩) pa_nil))) pa_nil)))))
      (pss_cons (ps_setLc (i := 2) (own := [("_law_k", 3)]) (g := gName 3) (by rfl) sc_Lclass.nd rfl rfl (sw_true rfl rfl rfl (by decide +kernel)) (pi_range1 rfl T.z_range (pa_cons pe_int pa_nil)) (blkOk_by (own := [("_law_k", 3)]) (N := N_Lclass) (sc := defScope s_Lclass) (by decide +kernel)) (fun _ _ _ _ _ => (pg_name (i := 3) sc_Lclass.nd rfl (by first | exact Or.inl rfl | exact Or.inr rfl))) (fun _ _ _ _ _ => (pts_one (pt_val (pe_ix (show IxR _ (rIxL K) from ix_list) (pv 1) (pv 3) (fun _ _ => rfl))))) (fun _ _ _ _ _ => (pv 3)))
      (pss_cons (ps_if (PW.pt (pw_and (pt_cmpR op_notN (pv 0) pe_non (nomark _)) (pw_and1 (pt_cmpR (op_eqD hr.units) (pv 2) (pe_lst pa_nil) (nomark _))))) (pss_one (ps_ret (pe_lst (pa_cons pe_int pa_nil)))) pss_nil)
      (pss_cons (ps_if (pt_cmpR op_ne (pe_callB call_isA (by rfl) T.z_isinstance (by decide +kernel) (pa_cons (pv 0) (pa_cons (pe_gc (v := .ref c.RootError) rfl ⟨_, T.g_RootError, rfl⟩) pa_nil))) (pe_and (pe_cmpR (op_neD hr.units) (pv 2) (pe_lst pa_nil) (nomark _)) (pe_one (pe_cmpR op_lt (pe_ix ix_list (pv 2) pe_int (fun _ _ => rfl)) pe_int (nomark _)))) (nomark _)) (pss_one (ps_ret (pe_lst (pa_cons pe_int pa_nil)))) pss_nil)
      (pss_one (ps_ret (pv 2)))))))))), ?_⟩
    refine ⟨_, rfl, A0.is (fun t r => r.k_NoPoly) ⟨_, rfl, A0.is (fun t r => r.k_NoHouse) ⟨_, rfl, A0.is (fun t r => r.k_NoLetter) ⟨_, rfl, A0.is (fun t r => r.k_NoCount) ⟨sz4, fun p1 hp1 => ?_⟩⟩⟩⟩⟩
    have s1 := same_new (o := .lst [.bl (j == some 0), .bl (j == some 1), .bl (j == some 2), .bl (j == some 3)]) hp1
    have A1 := A0.same s1
    refine ⟨_, rfl, _, rfl, A1.is (fun t r => r.k_NoMove) ⟨_, rfl, A1.is (fun t r => r.k_NoWord) ⟨_, rfl, A1.is (fun t r => r.k_Full) ⟨_, rfl, A1.is (fun t r => r.k_NoDeed) ⟨sz4, fun p2 hp2 => ?_⟩⟩⟩⟩⟩
    refine ⟨p1, p2, _, _, rfl, rfl, same_new hp2 _ _ upd_same, upd_same, (show 8 ≤ sizeLine by decide), fun p3 hp3 => ?_⟩
    have s3 := (s1.trans (same_new (o := .lst [.bl (j == some 4), .bl (j == some 5), .bl (j == some 6), .bl (j == some 7)]) hp2)).trans (same_new (o := .lst ([V.bl (j == some 0), .bl (j == some 1), .bl (j == some 2), .bl (j == some 3)] ++ [.bl (j == some 4), .bl (j == some 5), .bl (j == some 6), .bl (j == some 7)])) hp3)
    have A3 := A0.same s3
    refine ⟨_, rfl, _, rfl, A3.is (fun t r => r.k_NoText) ⟨_, rfl, A3.is (fun t r => r.k_NoLine) ⟨_, rfl, A3.is (fun t r => r.k_NoOver) ⟨_, rfl, A3.is (fun t r => r.k_NoName) ⟨sz4, fun p4 hp4 => ?_⟩⟩⟩⟩⟩
    refine ⟨p3, p4, _, _, rfl, rfl, same_new hp4 _ _ upd_same, upd_same, (show 12 ≤ sizeLine by decide), fun p5 hp5 => ?_⟩
    have s5 := (s3.trans (same_new (o := .lst [.bl (j == some 8), .bl (j == some 9), .bl (j == some 10), .bl (j == some 11)]) hp4)).trans (same_new (o := .lst (([V.bl (j == some 0), .bl (j == some 1), .bl (j == some 2), .bl (j == some 3)] ++ [.bl (j == some 4), .bl (j == some 5), .bl (j == some 6), .bl (j == some 7)]) ++ [.bl (j == some 8), .bl (j == some 9), .bl (j == some 10), .bl (j == some 11)])) hp5)
    have A5 := A0.same s5
    refine ⟨_, rfl, _, rfl, A5.is (fun t r => r.k_Twice) ⟨_, rfl, A5.is (fun t r => r.k_NoNumber) ⟨sz2, fun p6 hp6 => ?_⟩⟩⟩
    refine ⟨p5, p6, _, _, rfl, rfl, same_new hp6 _ _ upd_same, upd_same, (show 14 ≤ sizeLine by decide), fun p7 hp7 => ?_⟩
    have s7 := (s5.trans (same_new (o := .lst [.bl (j == some 12), .bl (j == some 13)]) hp6)).trans (same_new (o := .lst (flagsV j)) hp7)
    refine ⟨14, rfl, by decide, by decide, fun D hD => lc_range (lo := 0) (n := 14) (fun i H' => H' D = some (.lst ((kindsTo j i).map V.int)) ∧ H' p7 = some (.lst (flagsV j)) ∧ Same H H') ⟨?_, same_new hD _ _ upd_same, s7.trans (same_new hD)⟩ ?_ ?_⟩
    · rw [upd_same]
      cases j with
      | none => rfl
      | some k => rfl
    · rintro i H' hi ⟨hD', h7, sm⟩
      refine ⟨rfl, _, rfl, _, rfl, p7, _, _, _, rfl, rfl, SqL.of h7, ?_, (j == some i), rfl, ?_⟩
      · rw [Int.zero_add]
        exact atI_nat (flags_at hi)
      have D7 : D ≠ p7 := fun z => by rw [z] at hD; rw [upd_same] at hD; cases hD
      have HD : H D = none := s7.free hD
      refine ite2 (fun hc => ?_) (fun hc => ?_)
      · refine ⟨_, rfl, _, hD', ?_, ?_, ?_, ?_⟩
        · rw [List.length_map]
          have := kindsTo_len j i
          exact Nat.lt_of_le_of_lt this (by decide)
        · rw [upd_same, kindsTo_yes hc, List.map_append, Int.zero_add]; rfl
        · rw [upd_ne D7.symm]; exact h7
        · intro b u hb
          rw [upd_ne (ne_of_none hb HD)]
          exact sm b u hb
      · refine ⟨?_, h7, sm⟩
        rw [kindsTo_no (by simpa using hc)]; exact hD'
    · rintro H8 ⟨hD', h7, sm⟩
      rw [kindsTo_all A0.lt] at hD'
      have HD : H D = none := s7.free hD
      rcases A0.non with ⟨rfl, rfl⟩ | ⟨vn, i, rfl⟩
      · refine ⟨_, rfl, rfl, _, rfl, ?_⟩
        refine ite2 (fun hc => absurd hc (by decide)) (fun _ => ?_)
        refine ⟨_, rfl, (A0.same sm).is (fun t r => r.k_RootError) ?_⟩
        refine ⟨_, rfl, (show 0 ≤ sizeLine by decide), fun p8 hp8 => ⟨dInts [], dInts [], dpInts (SqL.of (same_new hp8 _ _ hD')), dpInts (SqL.of upd_same), shInts [], shInts [], (!PyData.eqv (dInts []) (dInts [])), rfl, ?_⟩⟩
        rw [eqInts]
        refine ite2 (fun hc => nomatch hc) (fun _ => ?_)
        refine ⟨rfl, _, rfl, ?_⟩
        refine iteNS rfl ?_
        exact ⟨_, rfl, k _ D (sm.trans (same_new hp8)) (same_new hp8 _ _ hD') HD⟩
      · refine ⟨_, rfl, rfl, _, rfl, ?_⟩
        refine ite2 (fun _ => ?_) (fun hc => absurd (by rw [decide_eq_false vn]; rfl) hc)
        refine ⟨_, rfl, (show 0 ≤ sizeLine by decide), fun p8 hp8 => ⟨dInts [(i : Int)], dInts [], dpInts (SqL.of (same_new hp8 _ _ hD')), dpInts (SqL.of upd_same), shInts _, shInts [], (PyData.eqv (dInts [(i : Int)]) (dInts [])), rfl, ?_⟩⟩
        have e0 : PyData.eqv (dInts [(i : Int)]) (dInts []) = false := rfl
        rw [e0]
        refine ite2 (fun hc => nomatch hc) (fun _ => ?_)
        have s8 := sm.trans (same_new (o := .lst []) hp8)
        refine ⟨_, rfl, (A0.same s8).is (fun t r => r.k_RootError) ?_⟩
        refine ⟨_, rfl, (show 0 ≤ sizeLine by decide), fun p9 hp9 => ⟨dInts [(i : Int)], dInts [], dpInts (SqL.of (same_new hp9 _ _ (same_new hp8 _ _ hD'))), dpInts (SqL.of upd_same), shInts _, shInts [], (!PyData.eqv (dInts [(i : Int)]) (dInts [])), rfl, ?_⟩⟩
        rw [e0]
        refine ite2 (fun _ => ?_) (fun hc => absurd rfl hc)
        have hD9 := same_new (o := .lst []) hp9 _ _ (same_new (o := .lst []) hp8 _ _ hD')
        refine ⟨_, rfl, D, _, _, _, rfl, rfl, SqL.of hD9, rfl, _, _, rfl, rfl, rfl, _, rfl, ?_⟩
        have eb : (Option.any (fun i => decide (i < 10)) (some i)) = decide ((i : Int) < 10) := by
          show decide (i < 10) = decide ((i : Int) < 10)
          exact decide_eq_decide.mpr (by omega)
        rw [eb]
        refine iteNS rfl ?_
        exact ⟨_, rfl, k _ D (s8.trans (same_new hp9)) hD9 HD⟩
end
end My

namespace My
open PySem PySem.Spec PyProof.Rows L2
open C8 (Cal pe_c pe_gc)
section
variable {c : Cs} {P : Program} {w : World} {K : PySem.W.Frag} {mg : Str → Option Value} {base : Heap}
abbrev s_Lamount : Stmt := top 29
abbrev N_Lamount : List Str := ["_law_purse_here", "_law_kind", "_law_size", "_law_one", "_law_some"]
abbrev P_Lamount : List Str := ["_law_purse_here"]
theorem sc_Lamount : FnScope N_Lamount ["_law_purse_here"] (defScope s_Lamount) := ⟨rfl, rfl, rfl, by decide +kernel, rfl, by decide +kernel, by decide +kernel⟩

def sp_Lamount : Sp := fun vs H Q _ => ∃ (a : Addr) (m : Nat), vs = [.ref a] ∧ Pur H a m ∧ m ≤ 2 ^ 29 ∧ ∀ H' (n : Int), Xt a H H' → Pur H' a (m + 200) → n ≠ 0 → Bd (10 ^ 12) n → Q (.int n) H'
theorem ok_Lamount (T : Txt K mg c) {f : Addr} {fd : FuncData} (F : L2.Fun K "_law_amount" "_law_amount" s_Lamount f fd) (h_Ldraw : Cal P w K mg base 2 "_law_draw" sp_Ldraw []) : FnOk P w K mg base CX0 3 f fd P_Lamount sp_Lamount := by
  refine F.ok sc_Lamount (fun vs H Q E h => ?_) (fun cdv A outer s H vs Q E hr h => ?_)
  · obtain ⟨a, m, rfl, _⟩ := h
    rfl
  · obtain ⟨a, m, rfl, hp, hm, k⟩ := h
    refine ⟨_, (pss_cons (ps_set (i := 1) sc_Lamount.nd rfl (by first | exact Or.inl rfl | exact Or.inr rfl) (pe_c h_Ldraw hr (by decide) rfl (pa_cons (pv 0) (pa_cons pe_int pa_nil))))
      (pss_cons (ps_set (i := 2) sc_Lamount.nd rfl (by first | exact Or.inl rfl | exact Or.inr rfl) (pe_op op_add pe_int (pe_c h_Ldraw hr (by decide) rfl (pa_cons (pv 0) (pa_cons pe_int pa_nil)))))
      (pss_cons (ps_if (pt_cmpR op_eq (pv 1) pe_int (nomark _)) (pss_one (ps_set (i := 2) sc_Lamount.nd rfl (by first | exact Or.inl rfl | exact Or.inr rfl) (pe_op op_add pe_int (pe_c h_Ldraw hr (by decide) rfl (pa_cons (pv 0) (pa_cons (pe_op op_sub (pe_op op_powW pe_int pe_int) pe_int) pa_nil)))))) (pss_one (ps_if (pt_cmpR op_eq (pv 1) pe_int (nomark _)) (pss_one (ps_set (i := 2) sc_Lamount.nd rfl (by first | exact Or.inl rfl | exact Or.inr rfl) (pe_op op_mulW (pe_op op_add pe_int (pe_c h_Ldraw hr (by decide) rfl (pa_cons (pv 0) (pa_cons pe_int pa_nil)))) (pe_op op_add pe_int (pe_c h_Ldraw hr (by decide) rfl (pa_cons (pv 0) (pa_cons pe_int pa_nil))))))) (pss_one (ps_if (pt_cmpR op_eq (pv 1) pe_int (nomark _)) (pss_cons (ps_set (i := 3) sc_Lamount.nd rfl (by first | exact Or.inl rfl | exact Or.inr rfl) (pe_op op_add pe_int (pe_c h_Ldraw hr (by decide) rfl (pa_cons (pv 0) (pa_cons pe_int pa_nil)))))
      (pss_one (ps_set (i := 2) sc_Lamount.nd rfl (by first | exact Or.inl rfl | exact Or.inr rfl) (pe_op op_mulW (pe_op op_mulW (pv 3) (pv 3)) (pe_op op_add pe_int (pe_c h_Ldraw hr (by decide) rfl (pa_cons (pv 0) (pa_cons pe_int pa_nil)))))))) (pss_one (ps_if (pt_cmpR op_eq (pv 1) pe_int (nomark _)) (pss_cons (ps_set (i := 3) sc_Lamount.nd rfl (by first | exact Or.inl rfl | exact Or.inr rfl) (pe_op op_add pe_int (pe_c h_Ldraw hr (by decide) rfl (pa_cons (pv 0) (pa_cons pe_int pa_nil)))))
      (pss_one (ps_set (i := 2) sc_Lamount.nd rfl (by first | exact Or.inl rfl | exact Or.inr rfl) (pe_op op_mulW (pe_op op_mulW (pv 3) (pv 3)) (pv 3))))) (pss_one (ps_if (pt_cmpR op_eq (pv 1) pe_int (nomark _)) (pss_cons (ps_set (i := 4) sc_Lamount.nd rfl (by first | exact Or.inl rfl | exact Or.inr rfl) (pe_lst (pa_cons pe_int (pa_cons pe_int (pa_cons pe_int (pa_cons pe_int (pa_cons pe_int (pa_cons pe_int (pa_cons pe_int pa_nil)))))))))
      (pss_one (ps_set (i := 2) sc_Lamount.nd rfl (by first | exact Or.inl rfl | exact Or.inr rfl) (pe_op op_mulW (pe_ix ix_list (pv 4) (pe_c h_Ldraw hr (by decide) rfl (pa_cons (pv 0) (pa_cons pe_int pa_nil))) (fun _ _ => rfl)) (pe_ix ix_list (pv 4) (pe_c h_Ldraw hr (by decide) rfl (pa_cons (pv 0) (pa_cons pe_int pa_nil))) (fun _ _ => rfl)))))) pss_nil)))))))))
      (pss_one (ps_ret (pe_op op_mulW (pv 2) (pe_op op_sub pe_int (pe_op op_mulW pe_int (pe_c h_Ldraw hr (by decide) rfl (pa_cons (pv 0) (pa_cons pe_int pa_nil))))))))))), ?_⟩
    have fin : ∀ (H' : Hp) (sz : Int) (m' : Nat) (o1 o3 o4 : Option V), Xt a H H' → Pur H' a m' → m' ≤ m + 180 → 0 < sz → sz ≤ 10 ^ 12 → (tRet
          (tOp (rI CMulW fun i j => V.int (i * j)) (tVar 2)
            (tOp (rI0 fun i j => V.int (i - j)) (tC (V.int 1))
              (tOp (rI CMulW fun i j => V.int (i * j)) (tC (V.int 2))
                (tCall sp_Ldraw [] C8.E0 (tCons (tVar 0) (tCons (tC (V.int 2)) tNil))))))) ({ nx := fun _ H' => Q .non H', rt := Q } : Ends) [some (.ref a), o1, some (.int sz), o3, o4] H' := by
      intro H' sz m' o1 o3 o4 x hp' hm' s0 s1
      have bsz : Bd (10 ^ 12) sz := by unfold Bd; omega
      refine ⟨_, rfl, _, rfl, a, 2, m', rfl, by decide, by decide, hp', by omega, fun H1 z x1 p1 z0 z1 => ?_⟩
      have bz : Bd 1 z := by unfold Bd; omega
      refine ⟨_, _, rfl, rfl, (bd_lit (n := 2)).cm bz, _, _, rfl, rfl, ?_⟩
      have b12 : Bd 3 (1 - 2 * z) := by unfold Bd; omega
      refine ⟨_, _, rfl, rfl, bsz.cm b12, ?_⟩
      have hz : z = 0 ∨ z = 1 := by omega
      refine k _ _ (x.trans x1) (p1.mono (by omega)) ?_ ?_
      · rcases hz with rfl | rfl
        · show sz * (1 - 2 * 0) ≠ 0; omega
        · show sz * (1 - 2 * 1) ≠ 0; omega
      · rcases hz with rfl | rfl
        · show Bd _ (sz * (1 - 2 * 0)); unfold Bd; omega
        · show Bd _ (sz * (1 - 2 * 1)); unfold Bd; omega
    refine ⟨_, rfl, a, 6, m, rfl, by decide, by decide, hp, by omega, fun H1 kd x1 p1 k0 k1 => ?_⟩
    refine ⟨_, rfl, a, 100, _, rfl, by decide, by decide, p1, by omega, fun H2 z2 x2 p2 z20 z21 => ?_⟩
    have x12 := x1.trans x2
    refine ⟨_, _, rfl, rfl, _, rfl, rfl, _, rfl, ?_⟩
    refine ite2 (fun _ => ?_) (fun _ => ?_)
    · refine ⟨_, rfl, _, _, rfl, rfl, ⟨by decide, by decide +kernel⟩, _, _, rfl, rfl, a, _, _, rfl, (show (0 : Int) < 10 ^ 12 - 1 by decide), (show (10 : Int) ^ 12 - 1 < 2 ^ 200 by decide), p2, by omega, fun H3 z3 x3 p3 z30 z31 => ?_⟩
      have z31' : z3 < 10 ^ 12 - 1 := z31
      exact ⟨_, _, rfl, rfl, fin H3 _ _ _ _ _ (x12.trans x3) p3 (by omega) (by omega) (by omega)⟩
    refine ⟨_, rfl, rfl, _, rfl, ?_⟩
    refine ite2 (fun _ => ?_) (fun _ => ?_)
    · refine ⟨_, rfl, a, _, _, rfl, (by decide), (by decide), p2, by omega, fun H3 z3 x3 p3 z30 z31 => ?_⟩
      refine ⟨_, _, rfl, rfl, _, rfl, a, _, _, rfl, (by decide), (by decide), p3, by omega, fun H4 z4 x4 p4 z40 z41 => ?_⟩
      have b3 : Bd 180000 (1 + z3) := by unfold Bd; omega
      have b4 : Bd 180000 (1 + z4) := by unfold Bd; omega
      have pos : 0 < (1 + z3) * (1 + z4) := Int.mul_pos (by omega) (by omega)
      have bp := b3.mul b4
      refine ⟨_, _, rfl, rfl, _, _, rfl, rfl, b3.cm b4, fin H4 _ _ _ _ _ ((x12.trans x3).trans x4) p4 (by omega) pos ?_⟩
      show (1 + z3) * (1 + z4) ≤ 10 ^ 12
      unfold Bd at bp
      omega
    refine ⟨_, rfl, rfl, _, rfl, ?_⟩
    refine ite2 (fun _ => ?_) (fun _ => ?_)
    · refine ⟨_, rfl, a, _, _, rfl, (by decide), (by decide), p2, by omega, fun H3 z3 x3 p3 z30 z31 => ?_⟩
      have b3 : Bd 180000 (1 + z3) := by unfold Bd; omega
      refine ⟨_, _, rfl, rfl, _, rfl, _, rfl, _, _, rfl, rfl, b3.cm b3, _, rfl, a, _, _, rfl, (by decide), (by decide), p3, by omega, fun H4 z4 x4 p4 z40 z41 => ?_⟩
      have b4 : Bd 30 (1 + z4) := by unfold Bd; omega
      have pos : 0 < (1 + z3) * (1 + z3) * (1 + z4) := Int.mul_pos (Int.mul_pos (by omega) (by omega)) (by omega)
      have bp := (b3.mul b3).mul b4
      refine ⟨_, _, rfl, rfl, _, _, rfl, rfl, (b3.mul b3).cm b4, fin H4 _ _ _ _ _ ((x12.trans x3).trans x4) p4 (by omega) pos ?_⟩
      show (1 + z3) * (1 + z3) * (1 + z4) ≤ 10 ^ 12
      unfold Bd at bp
      omega
    refine ⟨_, rfl, rfl, _, rfl, ?_⟩
    refine ite2 (fun _ => ?_) (fun _ => ?_)
    · refine ⟨_, rfl, a, _, _, rfl, (by decide), (by decide), p2, by omega, fun H3 z3 x3 p3 z30 z31 => ?_⟩
      have b3 : Bd 9999 (1 + z3) := by unfold Bd; omega
      have pos : 0 < (1 + z3) * (1 + z3) * (1 + z3) := Int.mul_pos (Int.mul_pos (by omega) (by omega)) (by omega)
      have bp := (b3.mul b3).mul b3
      refine ⟨_, _, rfl, rfl, _, rfl, _, rfl, _, _, rfl, rfl, b3.cm b3, _, rfl, _, _, rfl, rfl, (b3.mul b3).cm b3, fin H3 _ _ _ _ _ (x12.trans x3) p3 (by omega) pos ?_⟩
      show (1 + z3) * (1 + z3) * (1 + z3) ≤ 10 ^ 12
      unfold Bd at bp
      omega
    refine ⟨_, rfl, rfl, _, rfl, ?_⟩
    refine ite2 (fun _ => ?_) (fun _ => ?_)
    · refine ⟨(show 7 ≤ sizeLine by decide), fun l hl => ?_⟩
      obtain ⟨oa, hoa⟩ := p2.at
      have nla : l ≠ a := (ne_of_none hoa hl).symm
      have at7 : ∀ z : Int, 0 ≤ z → z < 7 → ∃ y : Int, atI ([999983, 999979, 999961, 99991, 9973, 7, 2].map V.int) z = some (.int y) ∧ 2 ≤ y ∧ y ≤ 999983 := fun z z0 z1 => by
        have h7 : z = 0 ∨ z = 1 ∨ z = 2 ∨ z = 3 ∨ z = 4 ∨ z = 5 ∨ z = 6 := by omega
        rcases h7 with rfl | rfl | rfl | rfl | rfl | rfl | rfl
        · exact ⟨_, rfl, by decide, by decide⟩
        · exact ⟨_, rfl, by decide, by decide⟩
        · exact ⟨_, rfl, by decide, by decide⟩
        · exact ⟨_, rfl, by decide, by decide⟩
        · exact ⟨_, rfl, by decide, by decide⟩
        · exact ⟨_, rfl, by decide, by decide⟩
        · exact ⟨_, rfl, by decide, by decide⟩
      have s2 : Same H2 (upd H2 l (.lst ([999983, 999979, 999961, 99991, 9973, 7, 2].map V.int))) := same_new hl
      refine ⟨_, rfl, _, rfl, a, _, _, rfl, (by decide), (by decide), p2.same s2, by omega, fun H3 z3 x3 p3 z30 z31 => ?_⟩
      obtain ⟨y3, ey3, y30, y31⟩ := at7 z3 z30 z31
      have hl3 := x3 _ _ nla (upd_same (H := H2) (a := l) (o := .lst ([999983, 999979, 999961, 99991, 9973, 7, 2].map V.int)))
      refine ⟨l, _, _, _, rfl, rfl, SqL.of hl3, ey3, _, rfl, _, rfl, a, _, _, rfl, (by decide), (by decide), p3, by omega, fun H4 z4 x4 p4 z40 z41 => ?_⟩
      obtain ⟨y4, ey4, y40, y41⟩ := at7 z4 z40 z41
      have b3 : Bd 999983 y3 := by unfold Bd; omega
      have b4 : Bd 999983 y4 := by unfold Bd; omega
      have pos : 0 < y3 * y4 := Int.mul_pos (by omega) (by omega)
      have bp := b3.mul b4
      refine ⟨l, _, _, _, rfl, rfl, SqL.of (x4 _ _ nla hl3), ey4, _, _, rfl, rfl, b3.cm b4, fin H4 _ _ _ _ _ (((x12.trans (Xt.of s2)).trans x3).trans x4) p4 (by omega) pos ?_⟩
      show y3 * y4 ≤ 10 ^ 12
      unfold Bd at bp
      omega
    · exact fin H2 _ _ _ _ _ x12 p2 (by omega) (by omega) (by omega)
abbrev s_law : Stmt := top 30
abbrev N_law : List Str := ["_law_script", "_law_cell", "_law_caught", "_law_e", "_law_figure", "_law_due", "_law_by", "_law_found"]
abbrev P_law : List Str := ["_law_script"]
theorem sc_law : FnScope N_law ["_law_script"] (defScope s_law) := ⟨rfl, rfl, rfl, by decide +kernel, rfl, by decide +kernel, by decide +kernel⟩

def spLaw (K : PySem.W.Frag) : Sp := fun vs H Q _ => ∃ (a : Addr) (ns : List Int), vs = [.ref a] ∧ SqL K H a (ns.map V.int) ∧ ns.length ≤ 63 ∧ ∀ H', Q (.bl true) H'
theorem ok_law (T : Txt K mg c) {f : Addr} {fd : FuncData} (F : L2.Fun K "law" "law" s_law f fd) (h_Lpurse : Cal P w K mg base 2 "_law_purse" (sp_Lpurse K) []) (h_Lamount : Cal P w K mg base 3 "_law_amount" sp_Lamount []) (h_Lbare : Cal P w K mg base 2 "_law_bare" sp_bare_of [])
    (h_Lroot : Cal P w K mg base 1 "_law_root" sp_root []) (h_Lwhole : Cal P w K mg base 1 "_law_whole" sp_Lwhole []) (h_Lclass : Cal P w K mg base 1 "_law_class" (sp_Lclass K c) []) (h_bare : CalX P w K mg base 3 "bare" (sp_bare c)) (k_bare : KCalX P w K mg base 3 "bare" (sp_bare c) 0 ["number"] (fun _ ws => ws)) : FnOk P w K mg base CX0 4 f fd ["_law_script"] (spLaw K) := by
  refine F.ok sc_law (fun vs H Q E h => ?_) (fun cdv A outer s H vs Q E hr h => ?_)
  · obtain ⟨a, ns, rfl, _⟩ := h
    rfl
  · obtain ⟨a, ns, rfl, hS, _, k⟩ := h
    refine ⟨_, (pss_cons (ps_for PassesOwn.never rfl (pi_range1 rfl T.z_range (pa_cons pe_int pa_nil)) (pg_name (i := 1) sc_law.nd rfl (by first | exact Or.inl rfl | exact Or.inr rfl)) (pss_cons (ps_set (i := 4) sc_law.nd rfl (by first | exact Or.inl rfl | exact Or.inr rfl) (pe_c h_Lamount hr (by decide) rfl (pa_cons (pe_c h_Lpurse hr (by decide) rfl (pa_cons (pv 0) (pa_cons (pv 1) pa_nil))) pa_nil)))
      (pss_cons (ps_set (i := 5) sc_law.nd rfl (by first | exact Or.inl rfl | exact Or.inr rfl) (pe_c h_Lbare hr (by decide) rfl (pa_cons (pv 4) pa_nil)))
      (pss_cons (ps_if (PW.pt (pw_or (pt_cmpR op_isN (pe_c h_Lroot hr (by decide) rfl (pa_cons (pe_op op_fdivA (pv 4) (pv 5)) pa_nil)) pe_non (nomark _)) (pw_or1 (pt_cmpR op_ne (pe_op op_modN (pv 4) (pv 5)) pe_int (nomark _))))) (pss_one (ps_ret pe_bl)) pss_nil)
      (pss_cons (ps_set (i := 6) sc_law.nd rfl (by first | exact Or.inl rfl | exact Or.inr rfl) (pe_ix ix_list (pe_lst (pa_cons pe_int (pa_cons pe_int pa_nil))) (pe_callTy call_int1 (by rfl) T.z_int (by decide +kernel) (pa_cons (pe_cmpR op_lt (pe_callB call_abs (by rfl) T.z_abs (by decide +kernel) (pa_cons (pv 5) pa_nil)) (pe_op op_powW pe_int pe_int) (nomark _)) pa_nil)) (fun _ _ => rfl)))
      (pss_one (ps_for PassesOwn.never rfl (pi_list (pe_lst (pa_cons (pe_cX h_bare hr (by decide) rfl (pa_cons (pv 4) pa_nil)) (pa_cons (pe_ck0X k_bare hr (by decide) rfl (pk_cons (pv 4) pk_nil)) (pa_cons (pe_cX h_bare hr (by decide) rfl (pa_cons (pv 5) pa_nil)) (pa_cons (pe_cX h_bare hr (by decide) rfl (pa_cons (pe_op op_mulW (pv 5) (pv 6)) pa_nil)) pa_nil)))))) (pg_name (i := 7) sc_law.nd rfl (by first | exact Or.inl rfl | exact Or.inr rfl)) (pss_one (ps_if (PW.pt (pw_or (pt_cmpR op_ne (pv 7) (pv 5) (nomark _)) (pw_or1 (pt_not (pt_val (pe_c h_Lwhole hr (by decide) rfl (pa_cons (pv 7) pa_nil))))))) (pss_one (ps_ret pe_bl)) pss_nil)))))))))
      (pss_cons (ps_set (i := 2) sc_law.nd rfl (by first | exact Or.inl rfl | exact Or.inr rfl) pe_non)
      (pss_cons (ps_try_keep (i := 3) rfl rfl rfl sc_law.nd rfl rfl takes0 (fun W pn xe tk _ => (pss_one (ps_expr (pe_cS h_bare hr (by decide) rfl (fun σ => passAt tk σ) (pa_cons pe_int pa_nil))))) (.cons ⟨rfl, by decide, .inl T.g_RootError⟩ (fun a oe cls d pn => (pss_one (ps_set (i := 2) sc_law.nd rfl (by first | exact Or.inl rfl | exact Or.inr rfl) (pv 3)))) (.cons ⟨rfl, by decide, .inl T.g_NoNumber⟩ (fun a oe cls d pn => (pss_one (ps_set (i := 2) sc_law.nd rfl (by first | exact Or.inl rfl | exact Or.inr rfl) (pv 3)))) (.cons ⟨rfl, by decide, .inl T.g_NoOver⟩ (fun a oe cls d pn => (pss_one (ps_set (i := 2) sc_law.nd rfl (by first | exact Or.inl rfl | exact Or.inr rfl) (pv 3)))) .nil))))
      (pss_one (ps_ret (pe_cmpR (op_eqD hr.units) (pe_c h_Lclass hr (by decide) rfl (pa_cons (pv 2) pa_nil)) (pe_lst (pa_cons pe_int pa_nil)) (nomark _))))))), ?_⟩
    refine ⟨8, rfl, by decide, by decide, for_range (lo := 0) (n := 8) (fun i σ H' => ∃ o1 o4 o5 o6 o7 : Option V, σ = [some (.ref a), o1, none, none, o4, o5, o6, o7] ∧ Same H H') ⟨_, _, _, _, _, rfl, Same.refl H⟩ ?_ ?_⟩
    · rintro i σ H0 hi ⟨o1, o4, o5, o6, o7, rfl, s0⟩
      refine ⟨_, rfl, _, rfl, a, ns, i, by rw [Int.zero_add]; rfl, s0.seq hS, by omega, fun H1 pu s1 hpu0 hpu => ?_⟩
      refine ⟨pu, _, rfl, hpu, by omega, fun H2 n x2 _ n0 bn => ?_⟩
      have s02 : Same H0 H2 := Xt.back s1 x2 hpu0
      have bn' : Bd (10 ^ 13) n := Nat.le_trans bn (by decide)
      refine ⟨_, rfl, n, rfl, n0, bn', fun b hb => ?_⟩
      obtain ⟨b0, sb, q, eq⟩ := id hb
      have q0 : q ≠ 0 := fun z => n0 (by rw [eq, z]; simp)
      have bb : b.natAbs ≤ 10 ^ 12 := by
        have e := congrArg Int.natAbs eq
        rw [Int.natAbs_mul] at e
        have p : 0 < (q * q).natAbs := Int.natAbs_pos.mpr (Int.mul_ne_zero q0 q0)
        have := Nat.le_mul_of_pos_right b.natAbs p
        unfold Bd at bn
        omega
      have bq : (q * q).natAbs ≤ 10 ^ 12 := by
        have e := congrArg Int.natAbs eq
        rw [Int.natAbs_mul] at e
        have p : 0 < b.natAbs := Int.natAbs_pos.mpr b0
        have := Nat.le_mul_of_pos_left (q * q).natAbs p
        unfold Bd at bn
        omega
      have ef : Int.fdiv n b = q * q := by
        rw [eq]; exact Int.mul_fdiv_cancel_left _ b0
      have em : Int.fmod n b = 0 := by
        rw [eq]; exact Int.mul_fmod_right b (q * q)
      refine ⟨_, rfl, _, rfl, _, _, rfl, rfl, ⟨b0, log_small (by omega)⟩, Int.fdiv n b, rfl, by rw [ef]; omega, fun r hr => ?_, fun no => absurd ⟨q, ef⟩ no⟩
      refine ⟨rfl, _, rfl, ?_⟩
      refine ite2 (fun hd => nomatch of_decide_eq_true hd) (fun _ => ?_)
      refine ⟨_, rfl, _, rfl, _, _, rfl, rfl, b0, rfl, _, rfl, ?_⟩
      refine iteNS (show V.int (Int.fmod n b) = V.int 0 by rw [em]) ?_
      refine ⟨sz2, fun l hl => ?_⟩
      refine ⟨_, rfl, _, rfl, _, _, rfl, rfl, ⟨by decide, by decide +kernel⟩, _, _, rfl, rfl, .inr ⟨_, rfl, ?_⟩⟩
      have ab : (if b < 0 then -b else b) = (b.natAbs : Int) := abs_int b
      obtain ⟨y, hy, by_⟩ : ∃ y : Int, atI [V.int 1, V.int 9] (if decide ((if b < 0 then -b else b) < 10 ^ (11 : Int).toNat) = true then 1 else 0) = some (.int y) ∧ Bd (10 ^ 13) (b * y) ∧ Bd 9 y ∧ y ≠ 0 ∧ Bare b (b * y) := by
        by_cases hc : (if b < 0 then -b else b) < 10 ^ (11 : Int).toNat
        · rw [decide_eq_true hc, if_pos rfl]
          refine ⟨9, rfl, ?_, by unfold Bd; decide, by decide, bare_nine hb⟩
          rw [ab] at hc
          have hc' : (b.natAbs : Int) < 10 ^ 11 := hc
          unfold Bd
          omega
        · rw [decide_eq_false hc, if_neg Bool.false_ne_true]
          refine ⟨1, rfl, ?_, by unfold Bd; decide, by decide, ?_⟩
          · unfold Bd; omega
          · rw [Int.mul_one]; exact bare_self hb
      obtain ⟨b9, by9, yn, hb9⟩ := by_
      refine ⟨l, _, _, _, rfl, rfl, SqL.of upd_same, hy, ?_⟩
      refine ⟨_, rfl, n, rfl, bn', fun z => absurd z n0, fun _ b1 hb1 => ?_⟩
      have e1 := bare_unique n0 hb1 hb
      subst e1
      refine ⟨_, rfl, rfl, rfl, n, rfl, bn', fun z => absurd z n0, fun _ b2 hb2 => ?_⟩
      have e2 := bare_unique n0 hb2 hb1
      subst e2
      refine ⟨_, rfl, b2, rfl, Nat.le_trans bb (by decide), fun z => absurd z b0, fun _ b3 hb3 => ?_⟩
      have e3 := bare_unique b0 hb3 (bare_self hb2)
      subst e3
      have y0 : b3 * y ≠ 0 := Int.mul_ne_zero b0 yn
      refine ⟨_, rfl, _, rfl, _, _, rfl, rfl, cmul_small (by omega) (by unfold Bd at by9; omega), b3 * y, rfl, b9, fun z => absurd z y0, fun _ b4 hb4 => ?_⟩
      have e4 := bare_unique y0 hb4 hb9
      subst e4
      refine ⟨sz4, fun fl hfl => ⟨fl, rfl, ⟨_, SqL.of upd_same⟩, for_list (K := K) (a := fl) (xs := [.int b4, .int b4, .int b4, .int b4]) (fun j σ H' => ∃ o7 : Option V, σ = [some (.ref a), some (.int (0 + (i : Int))), none, none, some (.int n), some (.int b4), some (.int y), o7] ∧ H' = upd (upd H2 l (.lst [.int 1, .int 9])) fl (.lst [.int b4, .int b4, .int b4, .int b4])) ⟨_, rfl, rfl⟩ (fun j σ H' _ ⟨_, _, e⟩ => by rw [e]; exact SqL.of upd_same) ?_ ?_⟩⟩
      · rintro j x σ H' hj ⟨o7, rfl, rfl⟩
        have hx : x = .int b4 := by
          have := List.mem_of_getElem? hj
          simpa using this
        subst hx
        refine ⟨_, rfl, _, rfl, rfl, _, rfl, ?_⟩
        refine iteNS rfl ?_
        refine ⟨_, rfl, b4, rfl, true, rfl, ?_⟩
        refine iteF ?_
        exact ⟨_, rfl, rfl⟩
      · rintro σ H' ⟨o7, rfl, rfl⟩
        exact ⟨_, _, _, _, _, rfl, s0.trans (s02.trans ((same_new hl).trans (same_new hfl)))⟩
    · rintro σ H' ⟨o1, o4, o5, o6, o7, rfl, s0⟩
      refine ⟨0, rfl, bd_lit, fun _ => ?_, fun z => absurd rfl z⟩
      refine ⟨true, T.exm_NoCount_RootError, fun _ e he => ?_, fun z => nomatch z⟩
      refine ⟨_, rfl, fun ne => ?_⟩
      have kp : Kept (upd H' e (ExV (.ref c.NoCount) none e)) e c.NoCount none := ⟨upd_same, .inl rfl⟩
      refine ⟨_, rfl, .ref e, some 3, rfl, ⟨_, T.row_NoCount, .inr ⟨e, c.NoCount, none, 3, rfl, rfl, kp, T.exc_NoCount, rfl, by decide⟩⟩, fun H2 p sm hp hn => ?_⟩
      refine ⟨(show 1 ≤ sizeLine by decide), fun l hl => ⟨dInts [3], dInts [3], dpInts (SqL.of (same_new hl _ _ hp)), dpInts (SqL.of upd_same), shInts _, shInts _, ?_⟩⟩
      rw [eqInts]
      exact k _
end
end My

namespace My
open PySem PySem.Spec PyProof.Rows L2
open C8 (Cal pe_c pe_gc)
theorem all_mk {l : PySem.W.OpenLaw} {w : World} {K : PySem.W.Frag} {h : Heap} {mg : Str → Option Value} {fa : Addr} (X : K.In h) (G : h.Ns mainGlobals mg) (hfa : mg "law" = some (.ref fa))
    {f0 : Addr} {od0 an0 : Option Addr} {sl0 : Array (Option Value)} {oc0 kV0 dc0 pm0 cd0 ct0 : Value}
    (a0 : PySem.W.nsIn K mainGlobals "root_whole" = some (some (.ref f0))) (l0 : K.lookup f0 = some ⟨oc0, od0, .func (PySem.W.fnOf "root_whole" "root_whole" (defArgs s_root_whole) (defBody s_root_whole) (defScope s_root_whole) .none kV0 dc0 pm0 an0 cd0 ct0), sl0⟩) (c0 : PySem.W.codeIn K cd0 "root_whole" = true) (k0 : PySem.W.keepIn K (.ref f0) = true)
    {f1 : Addr} {od1 an1 : Option Addr} {sl1 : Array (Option Value)} {oc1 kV1 dc1 pm1 cd1 ct1 : Value}
    (a1 : PySem.W.nsIn K mainGlobals "bare_of" = some (some (.ref f1))) (l1 : K.lookup f1 = some ⟨oc1, od1, .func (PySem.W.fnOf "bare_of" "bare_of" (defArgs s_bare_of) (defBody s_bare_of) (defScope s_bare_of) .none kV1 dc1 pm1 an1 cd1 ct1), sl1⟩) (c1 : PySem.W.codeIn K cd1 "bare_of" = true) (k1 : PySem.W.keepIn K (.ref f1) = true)
    {f2 : Addr} {od2 an2 : Option Addr} {sl2 : Array (Option Value)} {oc2 kV2 dc2 pm2 cd2 ct2 : Value}
    (a2 : PySem.W.nsIn K mainGlobals "bare" = some (some (.ref f2))) (l2 : K.lookup f2 = some ⟨oc2, od2, .func (PySem.W.fnOf "bare" "bare" (defArgs s_bare) (defBody s_bare) (defScope s_bare) .none kV2 dc2 pm2 an2 cd2 ct2), sl2⟩) (c2 : PySem.W.codeIn K cd2 "bare" = true) (k2 : PySem.W.keepIn K (.ref f2) = true)
    {f3 : Addr} {od3 an3 : Option Addr} {sl3 : Array (Option Value)} {oc3 kV3 dc3 pm3 cd3 ct3 : Value}
    (a3 : PySem.W.nsIn K mainGlobals "_law_at" = some (some (.ref f3))) (l3 : K.lookup f3 = some ⟨oc3, od3, .func (PySem.W.fnOf "_law_at" "_law_at" (defArgs s_Lat) (defBody s_Lat) (defScope s_Lat) .none kV3 dc3 pm3 an3 cd3 ct3), sl3⟩) (c3 : PySem.W.codeIn K cd3 "_law_at" = true) (k3 : PySem.W.keepIn K (.ref f3) = true)
    {f4 : Addr} {od4 an4 : Option Addr} {sl4 : Array (Option Value)} {oc4 kV4 dc4 pm4 cd4 ct4 : Value}
    (a4 : PySem.W.nsIn K mainGlobals "_law_mixed" = some (some (.ref f4))) (l4 : K.lookup f4 = some ⟨oc4, od4, .func (PySem.W.fnOf "_law_mixed" "_law_mixed" (defArgs s_Lmixed) (defBody s_Lmixed) (defScope s_Lmixed) .none kV4 dc4 pm4 an4 cd4 ct4), sl4⟩) (c4 : PySem.W.codeIn K cd4 "_law_mixed" = true) (k4 : PySem.W.keepIn K (.ref f4) = true)
    {f5 : Addr} {od5 an5 : Option Addr} {sl5 : Array (Option Value)} {oc5 kV5 dc5 pm5 cd5 ct5 : Value}
    (a5 : PySem.W.nsIn K mainGlobals "_law_purse" = some (some (.ref f5))) (l5 : K.lookup f5 = some ⟨oc5, od5, .func (PySem.W.fnOf "_law_purse" "_law_purse" (defArgs s_Lpurse) (defBody s_Lpurse) (defScope s_Lpurse) .none kV5 dc5 pm5 an5 cd5 ct5), sl5⟩) (c5 : PySem.W.codeIn K cd5 "_law_purse" = true) (k5 : PySem.W.keepIn K (.ref f5) = true)
    {f6 : Addr} {od6 an6 : Option Addr} {sl6 : Array (Option Value)} {oc6 kV6 dc6 pm6 cd6 ct6 : Value}
    (a6 : PySem.W.nsIn K mainGlobals "_law_draw" = some (some (.ref f6))) (l6 : K.lookup f6 = some ⟨oc6, od6, .func (PySem.W.fnOf "_law_draw" "_law_draw" (defArgs s_Ldraw) (defBody s_Ldraw) (defScope s_Ldraw) .none kV6 dc6 pm6 an6 cd6 ct6), sl6⟩) (c6 : PySem.W.codeIn K cd6 "_law_draw" = true) (k6 : PySem.W.keepIn K (.ref f6) = true)
    {f7 : Addr} {od7 an7 : Option Addr} {sl7 : Array (Option Value)} {oc7 kV7 dc7 pm7 cd7 ct7 : Value}
    (a7 : PySem.W.nsIn K mainGlobals "_law_whole" = some (some (.ref f7))) (l7 : K.lookup f7 = some ⟨oc7, od7, .func (PySem.W.fnOf "_law_whole" "_law_whole" (defArgs s_Lwhole) (defBody s_Lwhole) (defScope s_Lwhole) .none kV7 dc7 pm7 an7 cd7 ct7), sl7⟩) (c7 : PySem.W.codeIn K cd7 "_law_whole" = true) (k7 : PySem.W.keepIn K (.ref f7) = true)
    {f8 : Addr} {od8 an8 : Option Addr} {sl8 : Array (Option Value)} {oc8 kV8 dc8 pm8 cd8 ct8 : Value}
    (a8 : PySem.W.nsIn K mainGlobals "_law_root" = some (some (.ref f8))) (l8 : K.lookup f8 = some ⟨oc8, od8, .func (PySem.W.fnOf "_law_root" "_law_root" (defArgs s_Lroot) (defBody s_Lroot) (defScope s_Lroot) .none kV8 dc8 pm8 an8 cd8 ct8), sl8⟩) (c8 : PySem.W.codeIn K cd8 "_law_root" = true) (k8 : PySem.W.keepIn K (.ref f8) = true)
    {f9 : Addr} {od9 an9 : Option Addr} {sl9 : Array (Option Value)} {oc9 kV9 dc9 pm9 cd9 ct9 : Value}
    (a9 : PySem.W.nsIn K mainGlobals "_law_bare" = some (some (.ref f9))) (l9 : K.lookup f9 = some ⟨oc9, od9, .func (PySem.W.fnOf "_law_bare" "_law_bare" (defArgs s_Lbare) (defBody s_Lbare) (defScope s_Lbare) .none kV9 dc9 pm9 an9 cd9 ct9), sl9⟩) (c9 : PySem.W.codeIn K cd9 "_law_bare" = true) (k9 : PySem.W.keepIn K (.ref f9) = true)
    {f10 : Addr} {od10 an10 : Option Addr} {sl10 : Array (Option Value)} {oc10 kV10 dc10 pm10 cd10 ct10 : Value}
    (a10 : PySem.W.nsIn K mainGlobals "_law_class" = some (some (.ref f10))) (l10 : K.lookup f10 = some ⟨oc10, od10, .func (PySem.W.fnOf "_law_class" "_law_class" (defArgs s_Lclass) (defBody s_Lclass) (defScope s_Lclass) .none kV10 dc10 pm10 an10 cd10 ct10), sl10⟩) (c10 : PySem.W.codeIn K cd10 "_law_class" = true) (k10 : PySem.W.keepIn K (.ref f10) = true)
    {f11 : Addr} {od11 an11 : Option Addr} {sl11 : Array (Option Value)} {oc11 kV11 dc11 pm11 cd11 ct11 : Value}
    (a11 : PySem.W.nsIn K mainGlobals "_law_amount" = some (some (.ref f11))) (l11 : K.lookup f11 = some ⟨oc11, od11, .func (PySem.W.fnOf "_law_amount" "_law_amount" (defArgs s_Lamount) (defBody s_Lamount) (defScope s_Lamount) .none kV11 dc11 pm11 an11 cd11 ct11), sl11⟩) (c11 : PySem.W.codeIn K cd11 "_law_amount" = true) (k11 : PySem.W.keepIn K (.ref f11) = true)
    {f12 : Addr} {od12 an12 : Option Addr} {sl12 : Array (Option Value)} {oc12 kV12 dc12 pm12 cd12 ct12 : Value}
    (a12 : PySem.W.nsIn K mainGlobals "law" = some (some (.ref f12))) (l12 : K.lookup f12 = some ⟨oc12, od12, .func (PySem.W.fnOf "law" "law" (defArgs s_law) (defBody s_law) (defScope s_law) .none kV12 dc12 pm12 an12 cd12 ct12), sl12⟩) (c12 : PySem.W.codeIn K cd12 "law" = true) (k12 : PySem.W.keepIn K (.ref f12) = true)
    (z_abs : PySem.W.nsIn K mainGlobals "abs" = some none)
    (z_len : PySem.W.nsIn K mainGlobals "len" = some none)
    (z_range : PySem.W.nsIn K mainGlobals "range" = some none)
    (z_max : PySem.W.nsIn K mainGlobals "max" = some none)
    (z_isinstance : PySem.W.nsIn K mainGlobals "isinstance" = some none)
    (z_int : PySem.W.nsIn K mainGlobals "int" = some none)
    (z_bool : PySem.W.nsIn K mainGlobals "bool" = some none)
    {C_RootError C_NoPoly C_NoHouse C_NoLetter C_NoCount C_NoMove C_NoWord C_Full C_NoDeed C_NoText C_NoLine C_NoOver C_NoName C_Twice C_NoNumber : Addr}
    (a_RootError : PySem.W.nsIn K mainGlobals "RootError" = some (some (.ref C_RootError)))
    (i_RootError : PySem.W.isClsIn K C_RootError = true)
    (y_RootError : PySem.W.typeIn K (.ref C_RootError) = some (.type "type"))
    (n_RootError : PySem.W.subIn K (.type "NoneType") (.ref C_RootError) = some false)
    (a_NoPoly : PySem.W.nsIn K mainGlobals "NoPoly" = some (some (.ref C_NoPoly)))
    (i_NoPoly : PySem.W.isClsIn K C_NoPoly = true)
    (y_NoPoly : PySem.W.typeIn K (.ref C_NoPoly) = some (.type "type"))
    (n_NoPoly : PySem.W.subIn K (.type "NoneType") (.ref C_NoPoly) = some false)
    (a_NoHouse : PySem.W.nsIn K mainGlobals "NoHouse" = some (some (.ref C_NoHouse)))
    (i_NoHouse : PySem.W.isClsIn K C_NoHouse = true)
    (y_NoHouse : PySem.W.typeIn K (.ref C_NoHouse) = some (.type "type"))
    (n_NoHouse : PySem.W.subIn K (.type "NoneType") (.ref C_NoHouse) = some false)
    (a_NoLetter : PySem.W.nsIn K mainGlobals "NoLetter" = some (some (.ref C_NoLetter)))
    (i_NoLetter : PySem.W.isClsIn K C_NoLetter = true)
    (y_NoLetter : PySem.W.typeIn K (.ref C_NoLetter) = some (.type "type"))
    (n_NoLetter : PySem.W.subIn K (.type "NoneType") (.ref C_NoLetter) = some false)
    (a_NoCount : PySem.W.nsIn K mainGlobals "NoCount" = some (some (.ref C_NoCount)))
    (i_NoCount : PySem.W.isClsIn K C_NoCount = true)
    (y_NoCount : PySem.W.typeIn K (.ref C_NoCount) = some (.type "type"))
    (n_NoCount : PySem.W.subIn K (.type "NoneType") (.ref C_NoCount) = some false)
    (a_NoMove : PySem.W.nsIn K mainGlobals "NoMove" = some (some (.ref C_NoMove)))
    (i_NoMove : PySem.W.isClsIn K C_NoMove = true)
    (y_NoMove : PySem.W.typeIn K (.ref C_NoMove) = some (.type "type"))
    (n_NoMove : PySem.W.subIn K (.type "NoneType") (.ref C_NoMove) = some false)
    (a_NoWord : PySem.W.nsIn K mainGlobals "NoWord" = some (some (.ref C_NoWord)))
    (i_NoWord : PySem.W.isClsIn K C_NoWord = true)
    (y_NoWord : PySem.W.typeIn K (.ref C_NoWord) = some (.type "type"))
    (n_NoWord : PySem.W.subIn K (.type "NoneType") (.ref C_NoWord) = some false)
    (a_Full : PySem.W.nsIn K mainGlobals "Full" = some (some (.ref C_Full)))
    (i_Full : PySem.W.isClsIn K C_Full = true)
    (y_Full : PySem.W.typeIn K (.ref C_Full) = some (.type "type"))
    (n_Full : PySem.W.subIn K (.type "NoneType") (.ref C_Full) = some false)
    (a_NoDeed : PySem.W.nsIn K mainGlobals "NoDeed" = some (some (.ref C_NoDeed)))
    (i_NoDeed : PySem.W.isClsIn K C_NoDeed = true)
    (y_NoDeed : PySem.W.typeIn K (.ref C_NoDeed) = some (.type "type"))
    (n_NoDeed : PySem.W.subIn K (.type "NoneType") (.ref C_NoDeed) = some false)
    (a_NoText : PySem.W.nsIn K mainGlobals "NoText" = some (some (.ref C_NoText)))
    (i_NoText : PySem.W.isClsIn K C_NoText = true)
    (y_NoText : PySem.W.typeIn K (.ref C_NoText) = some (.type "type"))
    (n_NoText : PySem.W.subIn K (.type "NoneType") (.ref C_NoText) = some false)
    (a_NoLine : PySem.W.nsIn K mainGlobals "NoLine" = some (some (.ref C_NoLine)))
    (i_NoLine : PySem.W.isClsIn K C_NoLine = true)
    (y_NoLine : PySem.W.typeIn K (.ref C_NoLine) = some (.type "type"))
    (n_NoLine : PySem.W.subIn K (.type "NoneType") (.ref C_NoLine) = some false)
    (a_NoOver : PySem.W.nsIn K mainGlobals "NoOver" = some (some (.ref C_NoOver)))
    (i_NoOver : PySem.W.isClsIn K C_NoOver = true)
    (y_NoOver : PySem.W.typeIn K (.ref C_NoOver) = some (.type "type"))
    (n_NoOver : PySem.W.subIn K (.type "NoneType") (.ref C_NoOver) = some false)
    (a_NoName : PySem.W.nsIn K mainGlobals "NoName" = some (some (.ref C_NoName)))
    (i_NoName : PySem.W.isClsIn K C_NoName = true)
    (y_NoName : PySem.W.typeIn K (.ref C_NoName) = some (.type "type"))
    (n_NoName : PySem.W.subIn K (.type "NoneType") (.ref C_NoName) = some false)
    (a_Twice : PySem.W.nsIn K mainGlobals "Twice" = some (some (.ref C_Twice)))
    (i_Twice : PySem.W.isClsIn K C_Twice = true)
    (y_Twice : PySem.W.typeIn K (.ref C_Twice) = some (.type "type"))
    (n_Twice : PySem.W.subIn K (.type "NoneType") (.ref C_Twice) = some false)
    (a_NoNumber : PySem.W.nsIn K mainGlobals "NoNumber" = some (some (.ref C_NoNumber)))
    (i_NoNumber : PySem.W.isClsIn K C_NoNumber = true)
    (y_NoNumber : PySem.W.typeIn K (.ref C_NoNumber) = some (.type "type"))
    (n_NoNumber : PySem.W.subIn K (.type "NoneType") (.ref C_NoNumber) = some false)
    (e_RootError : PySem.W.subIn K (.ref C_RootError) (.type "BaseException") = some true)
    (e_NoCount : PySem.W.subIn K (.ref C_NoCount) (.type "BaseException") = some true)
    (e_NoOver : PySem.W.subIn K (.ref C_NoOver) (.type "BaseException") = some true)
    (e_NoNumber : PySem.W.subIn K (.ref C_NoNumber) (.type "BaseException") = some true)
    (s_NoCount_RootError : PySem.W.subIn K (.ref C_NoCount) (.ref C_RootError) = some true)
    (d_NoCount_RootError : (Value.ref C_NoCount == Value.ref C_RootError) = false)
    (s_NoCount_NoPoly : PySem.W.subIn K (.ref C_NoCount) (.ref C_NoPoly) = some false)
    (d_NoCount_NoPoly : (Value.ref C_NoCount == Value.ref C_NoPoly) = false)
    (s_NoCount_NoHouse : PySem.W.subIn K (.ref C_NoCount) (.ref C_NoHouse) = some false)
    (d_NoCount_NoHouse : (Value.ref C_NoCount == Value.ref C_NoHouse) = false)
    (s_NoCount_NoLetter : PySem.W.subIn K (.ref C_NoCount) (.ref C_NoLetter) = some false)
    (d_NoCount_NoLetter : (Value.ref C_NoCount == Value.ref C_NoLetter) = false)
    (s_NoCount_NoMove : PySem.W.subIn K (.ref C_NoCount) (.ref C_NoMove) = some false)
    (d_NoCount_NoMove : (Value.ref C_NoCount == Value.ref C_NoMove) = false)
    (s_NoCount_NoWord : PySem.W.subIn K (.ref C_NoCount) (.ref C_NoWord) = some false)
    (d_NoCount_NoWord : (Value.ref C_NoCount == Value.ref C_NoWord) = false)
    (s_NoCount_Full : PySem.W.subIn K (.ref C_NoCount) (.ref C_Full) = some false)
    (d_NoCount_Full : (Value.ref C_NoCount == Value.ref C_Full) = false)
    (s_NoCount_NoDeed : PySem.W.subIn K (.ref C_NoCount) (.ref C_NoDeed) = some false)
    (d_NoCount_NoDeed : (Value.ref C_NoCount == Value.ref C_NoDeed) = false)
    (s_NoCount_NoText : PySem.W.subIn K (.ref C_NoCount) (.ref C_NoText) = some false)
    (d_NoCount_NoText : (Value.ref C_NoCount == Value.ref C_NoText) = false)
    (s_NoCount_NoLine : PySem.W.subIn K (.ref C_NoCount) (.ref C_NoLine) = some false)
    (d_NoCount_NoLine : (Value.ref C_NoCount == Value.ref C_NoLine) = false)
    (s_NoCount_NoOver : PySem.W.subIn K (.ref C_NoCount) (.ref C_NoOver) = some false)
    (d_NoCount_NoOver : (Value.ref C_NoCount == Value.ref C_NoOver) = false)
    (s_NoCount_NoName : PySem.W.subIn K (.ref C_NoCount) (.ref C_NoName) = some false)
    (d_NoCount_NoName : (Value.ref C_NoCount == Value.ref C_NoName) = false)
    (s_NoCount_Twice : PySem.W.subIn K (.ref C_NoCount) (.ref C_Twice) = some false)
    (d_NoCount_Twice : (Value.ref C_NoCount == Value.ref C_Twice) = false)
    (s_NoCount_NoNumber : PySem.W.subIn K (.ref C_NoCount) (.ref C_NoNumber) = some false)
    (d_NoCount_NoNumber : (Value.ref C_NoCount == Value.ref C_NoNumber) = false)
    (x_NoCount : PySem.W.excIn K C_NoCount [.type "ValueError", .type "Exception", .type "BaseException", .type "object"] "ValueError.__new__" = true)
    (k_NoCount : PySem.W.keepIn K (.ref C_NoCount) = true)
    (hg_NoCount : PySem.W.findIn K (.ref C_NoCount) "__getattribute__" = some (some (.builtin "BaseException.__getattribute__")))
    (hk_NoCount : PySem.W.findIn K (.ref C_NoCount) "__getattr__" = some none)
    (hd_NoCount : PySem.W.hasDictIn K C_NoCount = true)
    (ha_NoCount : PySem.W.findIn K (.ref C_NoCount) "__class__" = some (some (.builtin "object.__class__")))
    (hm_NoCount : PySem.W.mroIn K C_NoCount (.type "object") = some true)
    (hn : PySem.W.specialIn K (.builtin "object.__class__") "__get__" = some (some (.builtin "getset_descriptor.__get__")))
    (ht : PySem.W.takesIn K (.builtin "object.__class__") = some true) :
    ∃ fd : FuncData, (∀ (s : Shared) (v : Value), BindsTo s fd ⟨[v], []⟩ [("_law_script", v)]) ∧ ∀ base : Heap, K.In base → base.Ns mainGlobals mg → FnOk l.prog w K mg base CX0 4 fa fd ["_law_script"] (spLaw K) := by
  have T : Txt K mg ⟨C_RootError, C_NoPoly, C_NoHouse, C_NoLetter, C_NoCount, C_NoMove, C_NoWord, C_Full, C_NoDeed, C_NoText, C_NoLine, C_NoOver, C_NoName, C_Twice, C_NoNumber⟩ := { g_RootError := PySem.W.mg_of X G a_RootError, g_NoPoly := PySem.W.mg_of X G a_NoPoly, g_NoHouse := PySem.W.mg_of X G a_NoHouse, g_NoLetter := PySem.W.mg_of X G a_NoLetter, g_NoCount := PySem.W.mg_of X G a_NoCount, g_NoMove := PySem.W.mg_of X G a_NoMove, g_NoWord := PySem.W.mg_of X G a_NoWord, g_Full := PySem.W.mg_of X G a_Full, g_NoDeed := PySem.W.mg_of X G a_NoDeed, g_NoText := PySem.W.mg_of X G a_NoText, g_NoLine := PySem.W.mg_of X G a_NoLine, g_NoOver := PySem.W.mg_of X G a_NoOver, g_NoName := PySem.W.mg_of X G a_NoName, g_Twice := PySem.W.mg_of X G a_Twice, g_NoNumber := PySem.W.mg_of X G a_NoNumber, row_none := { k_RootError := kit_none ⟨i_RootError, y_RootError⟩ n_RootError, k_NoPoly := kit_none ⟨i_NoPoly, y_NoPoly⟩ n_NoPoly, k_NoHouse := kit_none ⟨i_NoHouse, y_NoHouse⟩ n_NoHouse, k_NoLetter := kit_none ⟨i_NoLetter, y_NoLetter⟩ n_NoLetter, k_NoCount := kit_none ⟨i_NoCount, y_NoCount⟩ n_NoCount, k_NoMove := kit_none ⟨i_NoMove, y_NoMove⟩ n_NoMove, k_NoWord := kit_none ⟨i_NoWord, y_NoWord⟩ n_NoWord, k_Full := kit_none ⟨i_Full, y_Full⟩ n_Full, k_NoDeed := kit_none ⟨i_NoDeed, y_NoDeed⟩ n_NoDeed, k_NoText := kit_none ⟨i_NoText, y_NoText⟩ n_NoText, k_NoLine := kit_none ⟨i_NoLine, y_NoLine⟩ n_NoLine, k_NoOver := kit_none ⟨i_NoOver, y_NoOver⟩ n_NoOver, k_NoName := kit_none ⟨i_NoName, y_NoName⟩ n_NoName, k_Twice := kit_none ⟨i_Twice, y_Twice⟩ n_Twice, k_NoNumber := kit_none ⟨i_NoNumber, y_NoNumber⟩ n_NoNumber }, row_NoCount := { k_RootError := kit_of_sub ⟨i_RootError, y_RootError⟩ s_NoCount_RootError d_NoCount_RootError, k_NoPoly := kit_of_sub ⟨i_NoPoly, y_NoPoly⟩ s_NoCount_NoPoly d_NoCount_NoPoly, k_NoHouse := kit_of_sub ⟨i_NoHouse, y_NoHouse⟩ s_NoCount_NoHouse d_NoCount_NoHouse, k_NoLetter := kit_of_sub ⟨i_NoLetter, y_NoLetter⟩ s_NoCount_NoLetter d_NoCount_NoLetter, k_NoCount := kit_self, k_NoMove := kit_of_sub ⟨i_NoMove, y_NoMove⟩ s_NoCount_NoMove d_NoCount_NoMove, k_NoWord := kit_of_sub ⟨i_NoWord, y_NoWord⟩ s_NoCount_NoWord d_NoCount_NoWord, k_Full := kit_of_sub ⟨i_Full, y_Full⟩ s_NoCount_Full d_NoCount_Full, k_NoDeed := kit_of_sub ⟨i_NoDeed, y_NoDeed⟩ s_NoCount_NoDeed d_NoCount_NoDeed, k_NoText := kit_of_sub ⟨i_NoText, y_NoText⟩ s_NoCount_NoText d_NoCount_NoText, k_NoLine := kit_of_sub ⟨i_NoLine, y_NoLine⟩ s_NoCount_NoLine d_NoCount_NoLine, k_NoOver := kit_of_sub ⟨i_NoOver, y_NoOver⟩ s_NoCount_NoOver d_NoCount_NoOver, k_NoName := kit_of_sub ⟨i_NoName, y_NoName⟩ s_NoCount_NoName d_NoCount_NoName, k_Twice := kit_of_sub ⟨i_Twice, y_Twice⟩ s_NoCount_Twice d_NoCount_Twice, k_NoNumber := kit_of_sub ⟨i_NoNumber, y_NoNumber⟩ s_NoCount_NoNumber d_NoCount_NoNumber }, exc_NoCount := ⟨hg_NoCount, hk_NoCount, e_NoCount, hd_NoCount, ha_NoCount, hn, ht, hm_NoCount⟩, exm_NoCount_RootError := exm_of_sub ⟨i_RootError, y_RootError⟩ e_RootError s_NoCount_RootError, exm_NoCount_NoNumber := exm_of_sub ⟨i_NoNumber, y_NoNumber⟩ e_NoNumber s_NoCount_NoNumber, exm_NoCount_NoOver := exm_of_sub ⟨i_NoOver, y_NoOver⟩ e_NoOver s_NoCount_NoOver, x_NoCount := x_NoCount, k_NoCount := k_NoCount, b_NoCount := e_NoCount, t_NoCount := y_NoCount, z_abs := PySem.W.mg_none_of X G z_abs, z_len := PySem.W.mg_none_of X G z_len, z_range := PySem.W.mg_none_of X G z_range, z_max := PySem.W.mg_none_of X G z_max, z_isinstance := PySem.W.mg_none_of X G z_isinstance, z_int := PySem.W.mg_none_of X G z_int, z_bool := PySem.W.mg_none_of X G z_bool }
  have e := hfa.symm.trans (PySem.W.mg_of X G a12)
  cases e
  refine ⟨PySem.W.fnOf "law" "law" (defArgs s_law) (defBody s_law) (defScope s_law) .none kV12 dc12 pm12 an12 cd12 ct12, fun s v => .of_eq rfl, fun base _ _ => ?_⟩
  have F0 := L2.fun_mk (st := s_root_whole) l0 c0 k0
  have b0 := F0.binds (ps := P_root_whole) fun _ _ _ _ _ _ us hl => match us, hl with | [_], _ => rfl
  have h_root_whole : Cal l.prog w K mg base 1 "root_whole" sp_root [] := ⟨f0, _, P_root_whole, [], ok_root_whole T F0 , PySem.W.mg_of X G a0, k0, b0, .nil⟩
  have F1 := L2.fun_mk (st := s_bare_of) l1 c1 k1
  have b1 := F1.binds (ps := P_bare_of) fun _ _ _ _ _ _ us hl => match us, hl with | [_], _ => rfl
  have h_bare_of : Cal l.prog w K mg base 2 "bare_of" sp_bare_of [] := ⟨f1, _, P_bare_of, [], ok_bare_of T F1 h_root_whole, PySem.W.mg_of X G a1, k1, b1, .nil⟩
  have F2 := L2.fun_mk (st := s_bare) l2 c2 k2
  have b2 := F2.binds (ps := P_bare) fun _ _ _ _ _ _ us hl => match us, hl with | [_], _ => rfl
  have h_bare : CalX l.prog w K mg base 3 "bare" (sp_bare ⟨C_RootError, C_NoPoly, C_NoHouse, C_NoLetter, C_NoCount, C_NoMove, C_NoWord, C_Full, C_NoDeed, C_NoText, C_NoLine, C_NoOver, C_NoName, C_Twice, C_NoNumber⟩) := ⟨f2, _, P_bare, ok_bare T F2 h_bare_of, PySem.W.mg_of X G a2, k2, b2⟩
  have k_bare : KCalX l.prog w K mg base 3 "bare" (sp_bare ⟨C_RootError, C_NoPoly, C_NoHouse, C_NoLetter, C_NoCount, C_NoMove, C_NoWord, C_Full, C_NoDeed, C_NoText, C_NoLine, C_NoOver, C_NoName, C_Twice, C_NoNumber⟩) 0 ["number"] (fun _ zs => zs) := ⟨f2, _, P_bare, fun _ ws => ws, ok_bare T F2 h_bare_of, PySem.W.mg_of X G a2, k2, fun s us ws _ h1 h2 => match us, ws, h1, h2 with | [], [_], _, _ => .of_eq rfl, fun r1 r2 => r2⟩
  have F3 := L2.fun_mk (st := s_Lat) l3 c3 k3
  have b3 := F3.binds (ps := P_Lat) fun _ _ _ _ _ _ us hl => match us, hl with | [_, _], _ => rfl
  have h_Lat : Cal l.prog w K mg base 1 "_law_at" (sp_Lat K) [] := ⟨f3, _, P_Lat, [], ok_Lat T F3 , PySem.W.mg_of X G a3, k3, b3, .nil⟩
  have F4 := L2.fun_mk (st := s_Lmixed) l4 c4 k4
  have b4 := F4.binds (ps := P_Lmixed) fun _ _ _ _ _ _ us hl => match us, hl with | [_, _], _ => rfl
  have h_Lmixed : Cal l.prog w K mg base 1 "_law_mixed" sp_Lmixed [] := ⟨f4, _, P_Lmixed, [], ok_Lmixed T F4 , PySem.W.mg_of X G a4, k4, b4, .nil⟩
  have F5 := L2.fun_mk (st := s_Lpurse) l5 c5 k5
  have b5 := F5.binds (ps := P_Lpurse) fun _ _ _ _ _ _ us hl => match us, hl with | [_, _], _ => rfl
  have h_Lpurse : Cal l.prog w K mg base 2 "_law_purse" (sp_Lpurse K) [] := ⟨f5, _, P_Lpurse, [], ok_Lpurse T F5 h_Lat, PySem.W.mg_of X G a5, k5, b5, .nil⟩
  have F6 := L2.fun_mk (st := s_Ldraw) l6 c6 k6
  have b6 := F6.binds (ps := P_Ldraw) fun _ _ _ _ _ _ us hl => match us, hl with | [_, _], _ => rfl
  have h_Ldraw : Cal l.prog w K mg base 2 "_law_draw" sp_Ldraw [] := ⟨f6, _, P_Ldraw, [], ok_Ldraw T F6 h_Lmixed, PySem.W.mg_of X G a6, k6, b6, .nil⟩
  have F7 := L2.fun_mk (st := s_Lwhole) l7 c7 k7
  have b7 := F7.binds (ps := P_Lwhole) fun _ _ _ _ _ _ us hl => match us, hl with | [_], _ => rfl
  have h_Lwhole : Cal l.prog w K mg base 1 "_law_whole" sp_Lwhole [] := ⟨f7, _, P_Lwhole, [], ok_Lwhole T F7 , PySem.W.mg_of X G a7, k7, b7, .nil⟩
  have F8 := L2.fun_mk (st := s_Lroot) l8 c8 k8
  have b8 := F8.binds (ps := P_Lroot) fun _ _ _ _ _ _ us hl => match us, hl with | [_], _ => rfl
  have h_Lroot : Cal l.prog w K mg base 1 "_law_root" sp_root [] := ⟨f8, _, P_Lroot, [], ok_Lroot T F8 , PySem.W.mg_of X G a8, k8, b8, .nil⟩
  have F9 := L2.fun_mk (st := s_Lbare) l9 c9 k9
  have b9 := F9.binds (ps := P_Lbare) fun _ _ _ _ _ _ us hl => match us, hl with | [_], _ => rfl
  have h_Lbare : Cal l.prog w K mg base 2 "_law_bare" sp_bare_of [] := ⟨f9, _, P_Lbare, [], ok_Lbare T F9 h_Lroot, PySem.W.mg_of X G a9, k9, b9, .nil⟩
  have F10 := L2.fun_mk (st := s_Lclass) l10 c10 k10
  have b10 := F10.binds (ps := P_Lclass) fun _ _ _ _ _ _ us hl => match us, hl with | [_], _ => rfl
  have h_Lclass : Cal l.prog w K mg base 1 "_law_class" (sp_Lclass K ⟨C_RootError, C_NoPoly, C_NoHouse, C_NoLetter, C_NoCount, C_NoMove, C_NoWord, C_Full, C_NoDeed, C_NoText, C_NoLine, C_NoOver, C_NoName, C_Twice, C_NoNumber⟩) [] := ⟨f10, _, P_Lclass, [], ok_Lclass T F10 , PySem.W.mg_of X G a10, k10, b10, .nil⟩
  have F11 := L2.fun_mk (st := s_Lamount) l11 c11 k11
  have b11 := F11.binds (ps := P_Lamount) fun _ _ _ _ _ _ us hl => match us, hl with | [_], _ => rfl
  have h_Lamount : Cal l.prog w K mg base 3 "_law_amount" sp_Lamount [] := ⟨f11, _, P_Lamount, [], ok_Lamount T F11 h_Ldraw, PySem.W.mg_of X G a11, k11, b11, .nil⟩
  have F12 := L2.fun_mk (st := s_law) l12 c12 k12
  exact ok_law T F12 h_Lpurse h_Lamount h_Lbare h_Lroot h_Lwhole h_Lclass h_bare k_bare
theorem walk {l : PySem.W.OpenLaw} {q : Program} {loose : List Str} {XP : (Str → Option Value) → Heap → Prop} {YP : World → Heap → Prop} {d : DefRec} {K : Params → PySem.W.Frag} (hn : l.most = some 63) (hdf : d.params.defaults = [])
    (hY : ∀ (w : World) (h : Heap), YP w h → (K w.params).In h)
    (F : ∀ (w : World) (mg : Str → Option Value) (fa : Addr) (h : Heap), (K w.params).In h → h.Ns mainGlobals mg → mg d.name = some (.ref fa) →
      ∃ fd : FuncData, (∀ (s : Shared) (u : Value), BindsTo s fd ⟨[u], []⟩ [("_law_script", u)]) ∧ ∀ base : Heap, (K w.params).In base → base.Ns mainGlobals mg → FnOk l.prog w (K w.params) mg base CX0 4 fa fd ["_law_script"] (spLaw (K w.params))) :
    PySem.W.WalkO q loose XP YP l.row.toRowW d [] (fun f vs => PySem.call f vs) :=
  L2.walk_of (n := 63) (k := 4) (x := "_law_script") (CX := fun _ => CX0) (sp := fun w => spLaw (K w.params)) hn (by decide) hdf ⟨rfl, by decide, by decide⟩ hY F (fun _ _ a ns hl _ hS => ⟨a, ns, rfl, hS, hl, fun _ => rfl⟩) fun _ _ _ _ _ z => z
end My

open PySem PySem.W PyProof.Rows in
set_option maxRecDepth 100000 in
set_option maxHeartbeats 0 in
theorem PySem.Challenge.cw_rootmoves_k03_bare_parts_holds : PySem.Challenge.rw_rootmoves_k03_bare_parts.Holds := by
  w_on; o_law; k_head; (case hw => w_witness2)
  k_fill
  refine My.walk (l := PySem.Challenge.rw_rootmoves_k03_bare_parts) rfl rfl (fun w h Y => PySem.W.kIn_of Y) ?F
  case F =>
    intro w mg fa h KX G hmg
    refine' My.all_mk KX G hmg ?a0 ?l0 ?c0 ?k0 ?a1 ?l1 ?c1 ?k1 ?a2 ?l2 ?c2 ?k2 ?a3 ?l3 ?c3 ?k3 ?a4 ?l4 ?c4 ?k4 ?a5 ?l5 ?c5 ?k5 ?a6 ?l6 ?c6 ?k6 ?a7 ?l7 ?c7 ?k7 ?a8 ?l8 ?c8 ?k8 ?a9 ?l9 ?c9 ?k9 ?a10 ?l10 ?c10 ?k10 ?a11 ?l11 ?c11 ?k11 ?a12 ?l12 ?c12 ?k12 ?z_abs ?z_len ?z_range ?z_max ?z_isinstance ?z_int ?z_bool ?a_RootError ?i_RootError ?y_RootError ?n_RootError ?a_NoPoly ?i_NoPoly ?y_NoPoly ?n_NoPoly ?a_NoHouse ?i_NoHouse ?y_NoHouse ?n_NoHouse ?a_NoLetter ?i_NoLetter ?y_NoLetter ?n_NoLetter ?a_NoCount ?i_NoCount ?y_NoCount ?n_NoCount ?a_NoMove ?i_NoMove ?y_NoMove ?n_NoMove ?a_NoWord ?i_NoWord ?y_NoWord ?n_NoWord ?a_Full ?i_Full ?y_Full ?n_Full ?a_NoDeed ?i_NoDeed ?y_NoDeed ?n_NoDeed ?a_NoText ?i_NoText ?y_NoText ?n_NoText ?a_NoLine ?i_NoLine ?y_NoLine ?n_NoLine ?a_NoOver ?i_NoOver ?y_NoOver ?n_NoOver ?a_NoName ?i_NoName ?y_NoName ?n_NoName ?a_Twice ?i_Twice ?y_Twice ?n_Twice ?a_NoNumber ?i_NoNumber ?y_NoNumber ?n_NoNumber ?e_RootError ?e_NoCount ?e_NoOver ?e_NoNumber ?s_NoCount_RootError ?d_NoCount_RootError ?s_NoCount_NoPoly ?d_NoCount_NoPoly ?s_NoCount_NoHouse ?d_NoCount_NoHouse ?s_NoCount_NoLetter ?d_NoCount_NoLetter ?s_NoCount_NoMove ?d_NoCount_NoMove ?s_NoCount_NoWord ?d_NoCount_NoWord ?s_NoCount_Full ?d_NoCount_Full ?s_NoCount_NoDeed ?d_NoCount_NoDeed ?s_NoCount_NoText ?d_NoCount_NoText ?s_NoCount_NoLine ?d_NoCount_NoLine ?s_NoCount_NoOver ?d_NoCount_NoOver ?s_NoCount_NoName ?d_NoCount_NoName ?s_NoCount_Twice ?d_NoCount_Twice ?s_NoCount_NoNumber ?d_NoCount_NoNumber ?x_NoCount ?k_NoCount ?hg_NoCount ?hk_NoCount ?hd_NoCount ?ha_NoCount ?hm_NoCount ?hn ?ht
    (case a0 => k_is)
    (case l0 => k_is)
    (case c0 => k_is)
    (case k0 => k_is)
    (case a1 => k_is)
    (case l1 => k_is)
    (case c1 => k_is)
    (case k1 => k_is)
    (case a2 => k_is)
    (case l2 => k_is)
    (case c2 => k_is)
    (case k2 => k_is)
    (case a3 => k_is)
    (case l3 => k_is)
    (case c3 => k_is)
    (case k3 => k_is)
    (case a4 => k_is)
    (case l4 => k_is)
    (case c4 => k_is)
    (case k4 => k_is)
    (case a5 => k_is)
    (case l5 => k_is)
    (case c5 => k_is)
    (case k5 => k_is)
    (case a6 => k_is)
    (case l6 => k_is)
    (case c6 => k_is)
    (case k6 => k_is)
    (case a7 => k_is)
    (case l7 => k_is)
    (case c7 => k_is)
    (case k7 => k_is)
    (case a8 => k_is)
    (case l8 => k_is)
    (case c8 => k_is)
    (case k8 => k_is)
    (case a9 => k_is)
    (case l9 => k_is)
    (case c9 => k_is)
    (case k9 => k_is)
    (case a10 => k_is)
    (case l10 => k_is)
    (case c10 => k_is)
    (case k10 => k_is)
    (case a11 => k_is)
    (case l11 => k_is)
    (case c11 => k_is)
    (case k11 => k_is)
    (case a12 => k_is)
    (case l12 => k_is)
    (case c12 => k_is)
    (case k12 => k_is)
    (case z_abs => k_is)
    (case z_len => k_is)
    (case z_range => k_is)
    (case z_max => k_is)
    (case z_isinstance => k_is)
    (case z_int => k_is)
    (case z_bool => k_is)
    (case a_RootError => k_is)
    (case i_RootError => k_is)
    (case y_RootError => k_is)
    (case n_RootError => k_is)
    (case a_NoPoly => k_is)
    (case i_NoPoly => k_is)
    (case y_NoPoly => k_is)
    (case n_NoPoly => k_is)
    (case a_NoHouse => k_is)
    (case i_NoHouse => k_is)
    (case y_NoHouse => k_is)
    (case n_NoHouse => k_is)
    (case a_NoLetter => k_is)
    (case i_NoLetter => k_is)
    (case y_NoLetter => k_is)
    (case n_NoLetter => k_is)
    (case a_NoCount => k_is)
    (case i_NoCount => k_is)
    (case y_NoCount => k_is)
    (case n_NoCount => k_is)
    (case a_NoMove => k_is)
    (case i_NoMove => k_is)
    (case y_NoMove => k_is)
    (case n_NoMove => k_is)
    (case a_NoWord => k_is)
    (case i_NoWord => k_is)
    (case y_NoWord => k_is)
    (case n_NoWord => k_is)
    (case a_Full => k_is)
    (case i_Full => k_is)
    (case y_Full => k_is)
    (case n_Full => k_is)
    (case a_NoDeed => k_is)
    (case i_NoDeed => k_is)
    (case y_NoDeed => k_is)
    (case n_NoDeed => k_is)
    (case a_NoText => k_is)
    (case i_NoText => k_is)
    (case y_NoText => k_is)
    (case n_NoText => k_is)
    (case a_NoLine => k_is)
    (case i_NoLine => k_is)
    (case y_NoLine => k_is)
    (case n_NoLine => k_is)
    (case a_NoOver => k_is)
    (case i_NoOver => k_is)
    (case y_NoOver => k_is)
    (case n_NoOver => k_is)
    (case a_NoName => k_is)
    (case i_NoName => k_is)
    (case y_NoName => k_is)
    (case n_NoName => k_is)
    (case a_Twice => k_is)
    (case i_Twice => k_is)
    (case y_Twice => k_is)
    (case n_Twice => k_is)
    (case a_NoNumber => k_is)
    (case i_NoNumber => k_is)
    (case y_NoNumber => k_is)
    (case n_NoNumber => k_is)
    (case e_RootError => k_is)
    (case e_NoCount => k_is)
    (case e_NoOver => k_is)
    (case e_NoNumber => k_is)
    (case s_NoCount_RootError => k_is)
    (case d_NoCount_RootError => rfl)
    (case s_NoCount_NoPoly => k_is)
    (case d_NoCount_NoPoly => rfl)
    (case s_NoCount_NoHouse => k_is)
    (case d_NoCount_NoHouse => rfl)
    (case s_NoCount_NoLetter => k_is)
    (case d_NoCount_NoLetter => rfl)
    (case s_NoCount_NoMove => k_is)
    (case d_NoCount_NoMove => rfl)
    (case s_NoCount_NoWord => k_is)
    (case d_NoCount_NoWord => rfl)
    (case s_NoCount_Full => k_is)
    (case d_NoCount_Full => rfl)
    (case s_NoCount_NoDeed => k_is)
    (case d_NoCount_NoDeed => rfl)
    (case s_NoCount_NoText => k_is)
    (case d_NoCount_NoText => rfl)
    (case s_NoCount_NoLine => k_is)
    (case d_NoCount_NoLine => rfl)
    (case s_NoCount_NoOver => k_is)
    (case d_NoCount_NoOver => rfl)
    (case s_NoCount_NoName => k_is)
    (case d_NoCount_NoName => rfl)
    (case s_NoCount_Twice => k_is)
    (case d_NoCount_Twice => rfl)
    (case s_NoCount_NoNumber => k_is)
    (case d_NoCount_NoNumber => rfl)
    (case x_NoCount => k_exc)
    (case k_NoCount => k_is)
    (case hg_NoCount => k_is)
    (case hk_NoCount => k_is)
    (case hd_NoCount => k_is)
    (case ha_NoCount => k_is)
    (case hm_NoCount => k_is)
    (case hn => k_is)
    (case ht => k_is)
#print axioms PySem.Challenge.cw_rootmoves_k03_bare_parts_holds
