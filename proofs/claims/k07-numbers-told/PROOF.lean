import PyProof.Rows.All
import Wide.All
import OpenK.AllK
import Wide.FinOn
import HandS.ForMost
import HandS.Codes
import HandS.Wide
import HandS.WideBits
import HandS.WideMore
import HandS.Style
import HandS.NoneIn
import HandS.IsInst
import HandS.Deep
import HandS.Walk
import HandS.ForExc
import HandS.TryMany
import HandS.ExcIs
import HandS.ExcInit
import HandS.Defaults
import HandS.Zip
import HandS.OwnEq
import HandS.SortKw
import KE.DataMinMax
import KE.GoesRaise
import KE.KStateDown
import Lean
import HandS.HeadEnd
import HandS.HeadHook2
import HandS.HeadNt
import HandS.Head0
import HandS.Head1
import HandS.Head2
import PySem.Challenge.RW_rootmoves_k07_numbers_told
set_option Elab.async false
set_option linter.all false
set_option maxRecDepth 100000
set_option maxHeartbeats 4000000
namespace My
open PySem
def top (i : Nat) : Stmt := PySem.Challenge.pw_rootmoves_k07_numbers_told.main.body.getD i (.Pass ⟨0, 0, 0, 0⟩)
end My
/-! ### the top's run in the kernel: what is read off its end -/
namespace My
open PySem PySem.Spec PyProof.Rows L2
abbrev AlM : Type := Bool × List He.FnW
def obsM (ck : PySem.W.Frag → Bool) (fn : List He.DefD) (K : PySem.W.Frag) : AlM := (ck K && fn.all fun d => d.ok K, fn.map fun d => He.fnW K d.at_)
def valM (fn : List He.DefD) : AlM := (true, fn.map He.DefD.val)
def obsMG (as : List Addr) (ck : PySem.W.Frag → Bool) (fn : List He.DefD) (g : Addr → Option Obj) : AlM := obsM ck fn (He.frG g as)
def hookM (as : List Addr) (ck : PySem.W.Frag → Bool) (fn : List He.DefD) : PySem.W.Hook where
  α := AlM
  obs := fun s => obsMG as ck fn s.heap.get?
  val := fun _ => valM fn
  says := fun _ h => ∃ K : PySem.W.Frag, K.In h ∧ obsM ck fn K = valM fn
  of := fun _ _ e => ⟨_, He.frG_in, e⟩
  keeps := fun _ _ _ ⟨K, hK, c⟩ k => ⟨K, PySem.W.Frag.In.keeps hK k, c⟩
theorem obsMG_eq {as : List Addr} {ck : PySem.W.Frag → Bool} {fn : List He.DefD} {g : Addr → Option Obj} {s : Shared} (h : ∀ a, g a = s.heap.get? a) : obsMG as ck fn g = (hookM as ck fn).obs s := by
  have e : g = s.heap.get? := funext h
  rw [e] <;> rfl
section
variable {ck : PySem.W.Frag → Bool} {fn : List He.DefD} {K : PySem.W.Frag}
theorem saysM_ck (c : obsM ck fn K = valM fn) : ck K = true := (He.ba (show (ck K && fn.all fun d => d.ok K) = true from congrArg (fun z : AlM => z.1) c)).1
theorem saysM_fn (c : obsM ck fn K = valM fn) (i : Nat) {d : He.DefD} (h : fn[i]? = some d) : ∃ fd, FunD K d.name d.qual d.params d.body d.scope (d.dvs K) (d.kws K) (He.fAd K d.at_) fd := by
  have c2 := (He.ba (show (ck K && fn.all fun d => d.ok K) = true from congrArg (fun z : AlM => z.1) c)).2
  have e : fn.map (fun d => He.fnW K d.at_) = fn.map He.DefD.val := congrArg (fun z : AlM => z.2) c
  have e2 : (fn.map fun d => He.fnW K d.at_)[i]? = (fn.map He.DefD.val)[i]? := by rw [e]
  rw [List.getElem?_map, List.getElem?_map, h] at e2
  exact He.DefD.funD (Option.some.inj e2) (List.all_eq_true.mp c2 d (List.mem_of_getElem? h))
variable {x q : Str} {ps : Arguments} {b : List Stmt} {sc : Scope} {kws : List (Str × V)} {f : Addr}
/-- a def without defaults -/
theorem fn0_of (F : ∃ fd, FunD K x q ps b sc [] kws f fd) : ∃ oc od kV doc pm an cdv ct osl, K.lookup f = some ⟨oc, od, .func (PySem.W.fnOf x q ps b sc .none kV doc pm an cdv ct), osl⟩ ∧ PySem.W.codeIn K cdv q = true ∧ PySem.W.keepIn K (.ref f) = true := by
  obtain ⟨fd, F⟩ := F
  obtain ⟨oc, od, dV, kV, doc, pm, an, cdv, ct, osl, rfl, lk, hc, hD, _⟩ := F.ex
  rcases hD with ⟨_, rfl⟩ | ⟨e, _⟩
  · exact ⟨oc, od, kV, doc, pm, an, cdv, ct, osl, lk, hc, F.kp⟩
  · exact absurd rfl e
/-- a def with one default -/
theorem fn1_of {v : V} (F : ∃ fd, FunD K x q ps b sc [v] kws f fd) : ∃ oc od kV doc pm an cdv ct osl, ∃ (dV : Value) (T : Addr) (o : Obj) (u : Value) (n : Nat), K.lookup f = some ⟨oc, od, .func (PySem.W.fnOf x q ps b sc dV kV doc pm an cdv ct), osl⟩ ∧ PySem.W.codeIn K cdv q = true ∧ PySem.W.keepIn K (.ref f) = true ∧
    dV = .ref T ∧ K.lookup T = some o ∧ o.data = .seq #[u] n ∧ RelV v u := by
  obtain ⟨fd, F⟩ := F
  obtain ⟨oc, od, dV, kV, doc, pm, an, cdv, ct, osl, rfl, lk, hc, hD, _⟩ := F.ex
  rcases hD with ⟨e, _⟩ | ⟨_, T, o, its, n, e, lT, oT, rT⟩
  · cases e
  · cases rT with
    | cons r t =>
      cases t
      exact ⟨oc, od, kV, doc, pm, an, cdv, ct, osl, dV, T, o, _, n, lk, hc, F.kp, e, lT, oT, r⟩
end
/-- where a class's names stand -/
def nsC (K : PySem.W.Frag) (C : Addr) : Addr := match PySem.W.clsIn K C with
  | some cd => cd.ns
  | none => 0
def clsB (K : PySem.W.Frag) (C : Addr) (bm : List Value → Bool) (newId : String) : Bool := match K.lookup C with
  | some ⟨.type "type", _, .cls cd, sl⟩ => (match cd.mro, sl.toList with
    | .ref C' :: bm', [_, _, _, _, some (.builtin n), _] => C' == C && (n == newId && (!cd.hasDel && (cd.hasDict && bm bm')))
    | _, _ => false)
  | _ => false
theorem clsB_ok {K : PySem.W.Frag} {C : Addr} {bm : List Value → Bool} {newId : String} (h : clsB K C bm newId = true) : ∃ nm q bs bm' sn sub ab col dd k0 k1 k2 k3 k5,
    K.lookup C = some (excClassObj nm q C (nsC K C) bs bm' true sn sub ab col dd k0 k1 k2 k3 k5 newId) ∧ bm bm' = true := by
  unfold clsB at h
  split at h
  · rename_i dd cd sl ho
    split at h
    · rename_i C' bm' k0 k1 k2 k3 n k5 hm hs
      obtain ⟨h1, h⟩ := He.ba h
      obtain ⟨h2, h⟩ := He.ba h
      obtain ⟨h3, h⟩ := He.ba h
      obtain ⟨h4, h5⟩ := He.ba h
      have e1 : C' = C := eq_of_beq h1
      have e2 : n = newId := eq_of_beq h2
      subst e1 e2
      have en : nsC K C' = cd.ns := by unfold nsC PySem.W.clsIn; rw [ho]
      obtain ⟨nm, bs, mro, ns, qn, hd, sn, sub, ab, col, del⟩ := cd
      dsimp only at hm h3 h4 en
      subst hm
      have e3 : del = false := by cases del <;> first | rfl | cases h3
      have e4 : hd = true := h4
      subst e3 e4
      have hsl : sl = #[k0, k1, k2, k3, some (.builtin n), k5] := by
        obtain ⟨l⟩ := sl
        simp only at hs
        rw [hs]
      subst hsl
      rw [en]
      exact ⟨nm, qn, bs, bm', sn, sub, ab, col, dd, k0, k1, k2, k3, k5, ho, h5⟩
    · cases h
  · cases h
def dicB (K : PySem.W.Frag) (a : Addr) : Bool := match K.lookup a with
  | some ⟨_, _, .dict es _, _⟩ => es.all fun e => match e.key with | .str _ _ => true | _ => false
  | _ => false
theorem dicB_ok {K : PySem.W.Frag} {a : Addr} (h : dicB K a = true) : ∃ (x : Value) (y : Option Addr) (es : Array DictEntry) (z : Nat) (l : Array (Option Value)), K.lookup a = some ⟨x, y, .dict es z, l⟩ ∧ (es.all fun e => match e.key with | .str _ _ => true | _ => false) = true := by
  unfold dicB at h
  split at h
  · exact ⟨_, _, _, _, _, by assumption, h⟩
  · cases h
def intB (K : PySem.W.Frag) (x : Str) (i : Int) : Bool := match PySem.W.nsIn K mainGlobals x with
  | some (some (.int j _)) => decide (j = i)
  | _ => false
theorem intB_ok {K : PySem.W.Frag} {x : Str} {i : Int} (h : intB K x i = true) : ∃ t, PySem.W.nsIn K mainGlobals x = some (some (.int i t)) := by
  unfold intB at h
  split at h
  · rename_i j t e
    have ej : j = i := of_decide_eq_true h
    subst ej
    exact ⟨t, e⟩
  · cases h
def fcB (K : PySem.W.Frag) (C : Addr) (x : Str) (g : String) : Bool := match PySem.W.findCls K (.ref C) (.type "type") x with
  | some (.val (.builtin i)) => decide (i = g)
  | _ => false
theorem fcB_ok {K : PySem.W.Frag} {C : Addr} {x : Str} {g : String} (h : fcB K C x g = true) : PySem.W.findCls K (.ref C) (.type "type") x = some (.val (.builtin g)) := by
  unfold fcB at h
  split at h
  · rename_i i e
    have ej : i = g := of_decide_eq_true h
    subst ej
    exact e
  · cases h
theorem all_at {l : List Bool} (h : l.all id = true) (i : Nat) {b : Bool} (e : l[i]? = some b) : b = true := List.all_eq_true.mp h b (List.mem_of_getElem? e)
theorem yc_of {K : PySem.W.Frag} {f : Addr} {oc t : Value} {od : Option Addr} {dt : PySem.Data} {sl : Array (Option Value)} (l : K.lookup f = some ⟨oc, od, dt, sl⟩) (y : PySem.W.typeIn K (.ref f) = some t) : oc = t := by
  have y' : (K.lookup f).map (·.cls) = some t := y
  rw [l] at y'
  exact Option.some.inj y'
end My
namespace My
open PySem PySem.Spec PyProof.Rows L2
def ck_0 (K : PySem.W.Frag) : List Bool := [decide (PySem.W.nsIn K mainGlobals "House" = some (some (.ref (He.ga K "House")))),
  decide (PySem.W.plainGet K (He.ga K "House") Str.empty = true),
  decide (PySem.W.hasDictIn K (He.ga K "House") = true),
  decide (PySem.W.plainOver K (He.ga K "House") = true),
  decide (PySem.W.findIn K (.ref (He.ga K "House")) "__setattr__" = some (some (.builtin "object.__setattr__"))),
  decide (PySem.W.makesIn K (He.ga K "House") = true),
  decide (PySem.W.keepIn K (.ref (He.ga K "House")) = true),
  decide (PySem.W.findIn K (.ref (He.ga K "House")) "__class__" = some (some (.builtin "object.__class__"))),
  decide (PySem.W.mroIn K (He.ga K "House") (.type "object") = some true),
  clsB K (He.ga K "House") (fun b => decide (b = [.type "object"])) "object.__new__",
  dicB K (nsC K (He.ga K "House")),
  decide (PySem.W.nsIn K (nsC K (He.ga K "House")) "__ne__" = some none)]
def ck_1 (K : PySem.W.Frag) : List Bool := [decide (PySem.W.findIn K (.ref (He.ga K "House")) "poly" = some none),
  decide (PySem.W.findIn K (.ref (He.ga K "House")) "rows" = some none),
  decide (PySem.W.findIn K (.ref (He.ga K "House")) "ways" = some none),
  decide (PySem.W.findIn K (.ref (He.ga K "House")) "known" = some none),
  decide (PySem.W.findIn K (.ref (He.ga K "House")) "moved" = some none),
  decide (PySem.W.nsIn K mainGlobals "Number" = some (some (.ref (He.ga K "Number")))),
  decide (PySem.W.plainGet K (He.ga K "Number") Str.empty = true),
  decide (PySem.W.hasDictIn K (He.ga K "Number") = true),
  decide (PySem.W.plainOver K (He.ga K "Number") = true),
  decide (PySem.W.findIn K (.ref (He.ga K "Number")) "__setattr__" = some (some (.builtin "object.__setattr__"))),
  decide (PySem.W.makesIn K (He.ga K "Number") = true),
  decide (PySem.W.keepIn K (.ref (He.ga K "Number")) = true)]
def ck_2 (K : PySem.W.Frag) : List Bool := [decide (PySem.W.findIn K (.ref (He.ga K "Number")) "__class__" = some (some (.builtin "object.__class__"))),
  decide (PySem.W.mroIn K (He.ga K "Number") (.type "object") = some true),
  clsB K (He.ga K "Number") (fun b => decide (b = [.type "object"])) "object.__new__",
  dicB K (nsC K (He.ga K "Number")),
  decide (PySem.W.nsIn K (nsC K (He.ga K "Number")) "__ne__" = some none),
  decide (PySem.W.findIn K (.ref (He.ga K "Number")) "home" = some none),
  decide (PySem.W.findIn K (.ref (He.ga K "Number")) "parts" = some none),
  decide (PySem.W.nsIn K mainGlobals "divisor" = some (some (.ref (He.ga K "divisor")))),
  decide (PySem.W.nsIn K mainGlobals "lowest" = some (some (.ref (He.ga K "lowest")))),
  decide (PySem.W.nsIn K mainGlobals "told_by" = some (some (.ref (He.ga K "told_by")))),
  decide (PySem.W.findIn K (.ref (He.ga K "NoPoly")) "__init__" = some (some (.ref (He.ma K (He.ga K "NoPoly") "__init__")))),
  decide (PySem.W.isFn K (.ref (He.ma K (He.ga K "NoPoly") "__init__")) = true)]
def ck_3 (K : PySem.W.Frag) : List Bool := [decide (PySem.W.typeIn K (.ref (He.ma K (He.ga K "NoPoly") "__init__")) = some (.type "function")),
  decide (PySem.W.nsIn K mainGlobals "must_poly" = some (some (.ref (He.ga K "must_poly")))),
  decide (PySem.W.nsIn K mainGlobals "must_fraction" = some (some (.ref (He.ga K "must_fraction")))),
  decide (PySem.W.nsIn K mainGlobals "root_whole" = some (some (.ref (He.ga K "root_whole")))),
  decide (PySem.W.nsIn K mainGlobals "bare_of" = some (some (.ref (He.ga K "bare_of")))),
  decide (PySem.W.nsIn K mainGlobals "nought" = some (some (.ref (He.ga K "nought")))),
  decide (PySem.W.nsIn K mainGlobals "ways_of" = some (some (.ref (He.ga K "ways_of")))),
  decide (PySem.W.nsIn K mainGlobals "whole_root" = some (some (.ref (He.ga K "whole_root")))),
  decide (PySem.W.nsIn K mainGlobals "left_by" = some (some (.ref (He.ga K "left_by")))),
  decide (PySem.W.nsIn K mainGlobals "rows_by_two" = some (some (.ref (He.ga K "rows_by_two")))),
  decide (PySem.W.nsIn K mainGlobals "halves" = some (some (.ref (He.ga K "halves")))),
  decide (PySem.W.nsIn K mainGlobals "by_squares" = some (some (.ref (He.ga K "by_squares"))))]
def ck_4 (K : PySem.W.Frag) : List Bool := [decide (PySem.W.nsIn K mainGlobals "root_within" = some (some (.ref (He.ga K "root_within")))),
  decide (PySem.W.nsIn K mainGlobals "rows_by_three" = some (some (.ref (He.ga K "rows_by_three")))),
  decide (PySem.W.nsIn K mainGlobals "rows_by_four" = some (some (.ref (He.ga K "rows_by_four")))),
  decide (PySem.W.nsIn K mainGlobals "rows_of" = some (some (.ref (He.ga K "rows_of")))),
  decide (PySem.W.findIn K (.ref (He.ga K "House")) "__init__" = some (some (.ref (He.ma K (He.ga K "House") "__init__")))),
  decide (PySem.W.isFn K (.ref (He.ma K (He.ga K "House") "__init__")) = true),
  decide (PySem.W.typeIn K (.ref (He.ma K (He.ga K "House") "__init__")) = some (.type "function")),
  decide (PySem.W.findIn K (.ref (He.ga K "Number")) "__init__" = some (some (.ref (He.ma K (He.ga K "Number") "__init__")))),
  decide (PySem.W.isFn K (.ref (He.ma K (He.ga K "Number") "__init__")) = true),
  decide (PySem.W.typeIn K (.ref (He.ma K (He.ga K "Number") "__init__")) = some (.type "function")),
  decide (PySem.W.nsIn K mainGlobals "house_of" = some (some (.ref (He.ga K "house_of")))),
  decide (PySem.W.findIn K (.ref (He.ga K "House")) "__len__" = some (some (.ref (He.ma K (He.ga K "House") "__len__"))))]
def ck_5 (K : PySem.W.Frag) : List Bool := [decide (PySem.W.isFn K (.ref (He.ma K (He.ga K "House") "__len__")) = true),
  decide (PySem.W.typeIn K (.ref (He.ma K (He.ga K "House") "__len__")) = some (.type "function")),
  decide (PySem.W.findIn K (.ref (He.ga K "House")) "__eq__" = some (some (.ref (He.ma K (He.ga K "House") "__eq__")))),
  decide (PySem.W.isFn K (.ref (He.ma K (He.ga K "House") "__eq__")) = true),
  decide (PySem.W.typeIn K (.ref (He.ma K (He.ga K "House") "__eq__")) = some (.type "function")),
  decide (PySem.W.nsIn K (nsC K (He.ga K "House")) "__eq__" = some (some (.ref (He.ma K (He.ga K "House") "__eq__")))),
  decide (PySem.W.findIn K (.ref (He.ga K "House")) "steps" = some (some (.ref (He.ma K (He.ga K "House") "steps")))),
  decide (PySem.W.isFn K (.ref (He.ma K (He.ga K "House") "steps")) = true),
  decide (PySem.W.typeIn K (.ref (He.ma K (He.ga K "House") "steps")) = some (.type "function")),
  decide (PySem.W.nsIn K mainGlobals "made" = some (some (.ref (He.ga K "made")))),
  decide (PySem.W.findIn K (.ref (He.ga K "Number")) "house" = some (some (.ref (He.ma K (He.ga K "Number") "house")))),
  decide (PySem.W.isFn K (.ref (He.ma K (He.ga K "Number") "house")) = true)]
def ck_6 (K : PySem.W.Frag) : List Bool := [decide (PySem.W.typeIn K (.ref (He.ma K (He.ga K "Number") "house")) = some (.type "function")),
  decide (PySem.W.findIn K (.ref (He.ga K "House")) "number" = some (some (.ref (He.ma K (He.ga K "House") "number")))),
  decide (PySem.W.isFn K (.ref (He.ma K (He.ga K "House") "number")) = true),
  decide (PySem.W.typeIn K (.ref (He.ma K (He.ga K "House") "number")) = some (.type "function")),
  decide (PySem.W.findIn K (.ref (He.ga K "House")) "whole" = some (some (.ref (He.ma K (He.ga K "House") "whole")))),
  decide (PySem.W.isFn K (.ref (He.ma K (He.ga K "House") "whole")) = true),
  decide (PySem.W.typeIn K (.ref (He.ma K (He.ga K "House") "whole")) = some (.type "function")),
  decide (PySem.W.findIn K (.ref (He.ga K "House")) "letter" = some (some (.ref (He.ma K (He.ga K "House") "letter")))),
  decide (PySem.W.isFn K (.ref (He.ma K (He.ga K "House") "letter")) = true),
  decide (PySem.W.typeIn K (.ref (He.ma K (He.ga K "House") "letter")) = some (.type "function")),
  decide (PySem.W.findIn K (.ref (He.ga K "Number")) "shares" = some (some (.ref (He.ma K (He.ga K "Number") "shares")))),
  decide (PySem.W.isFn K (.ref (He.ma K (He.ga K "Number") "shares")) = true)]
def ck_7 (K : PySem.W.Frag) : List Bool := [decide (PySem.W.typeIn K (.ref (He.ma K (He.ga K "Number") "shares")) = some (.type "function")),
  decide (PySem.W.findIn K (.ref (He.ga K "Number")) "__eq__" = some (some (.ref (He.ma K (He.ga K "Number") "__eq__")))),
  decide (PySem.W.isFn K (.ref (He.ma K (He.ga K "Number") "__eq__")) = true),
  decide (PySem.W.typeIn K (.ref (He.ma K (He.ga K "Number") "__eq__")) = some (.type "function")),
  decide (PySem.W.nsIn K (nsC K (He.ga K "Number")) "__eq__" = some (some (.ref (He.ma K (He.ga K "Number") "__eq__")))),
  decide (PySem.W.nsIn K mainGlobals "_law_at" = some (some (.ref (He.ga K "_law_at")))),
  decide (PySem.W.nsIn K mainGlobals "_law_mixed" = some (some (.ref (He.ga K "_law_mixed")))),
  decide (PySem.W.nsIn K mainGlobals "_law_purse" = some (some (.ref (He.ga K "_law_purse")))),
  decide (PySem.W.nsIn K mainGlobals "_law_draw" = some (some (.ref (He.ga K "_law_draw")))),
  decide (PySem.W.nsIn K mainGlobals "_law_alike_roots" = some (some (.ref (He.ga K "_law_alike_roots")))),
  decide (PySem.W.nsIn K mainGlobals "_law_three" = some (some (.ref (He.ga K "_law_three")))),
  decide (PySem.W.nsIn K mainGlobals "_law_four" = some (some (.ref (He.ga K "_law_four"))))]
def ck_8 (K : PySem.W.Frag) : List Bool := [decide (PySem.W.nsIn K mainGlobals "_law_poly" = some (some (.ref (He.ga K "_law_poly")))),
  decide (PySem.W.nsIn K mainGlobals "_law_number" = some (some (.ref (He.ga K "_law_number")))),
  decide (PySem.W.nsIn K mainGlobals "_law_fraction" = some (some (.ref (He.ga K "_law_fraction")))),
  decide (PySem.W.nsIn K mainGlobals "_law_shares" = some (some (.ref (He.ga K "_law_shares")))),
  decide (PySem.W.nsIn K mainGlobals "_law_made" = some (some (.ref (He.ga K "_law_made")))),
  decide (PySem.W.nsIn K mainGlobals "_law_low" = some (some (.ref (He.ga K "_law_low")))),
  decide (PySem.W.nsIn K mainGlobals "_law_whole" = some (some (.ref (He.ga K "_law_whole")))),
  decide (PySem.W.nsIn K mainGlobals "_law_class" = some (some (.ref (He.ga K "_law_class")))),
  decide (PySem.W.nsIn K mainGlobals "_law_many" = some (some (.ref (He.ga K "_law_many")))),
  decide (PySem.W.nsIn K mainGlobals "_law_shares_good" = some (some (.ref (He.ga K "_law_shares_good")))),
  decide (PySem.W.nsIn K mainGlobals "_law_drawn" = some (some (.ref (He.ga K "_law_drawn")))),
  decide (PySem.W.nsIn K mainGlobals "_law_asked" = some (some (.ref (He.ga K "_law_asked"))))]
def ck_9 (K : PySem.W.Frag) : List Bool := [decide (PySem.W.nsIn K mainGlobals "_law_answer" = some (some (.ref (He.ga K "_law_answer")))),
  decide (PySem.W.nsIn K mainGlobals "_law_due" = some (some (.ref (He.ga K "_law_due")))),
  decide (PySem.W.nsIn K mainGlobals "law" = some (some (.ref (He.ga K "law")))),
  decide (PySem.W.nsIn K mainGlobals "set" = some none),
  decide (PySem.W.nsIn K mainGlobals "abs" = some none),
  decide (PySem.W.nsIn K mainGlobals "len" = some none),
  decide (PySem.W.nsIn K mainGlobals "range" = some none),
  decide (PySem.W.nsIn K mainGlobals "max" = some none),
  decide (PySem.W.nsIn K mainGlobals "enumerate" = some none),
  decide (PySem.W.nsIn K mainGlobals "isinstance" = some none),
  decide (PySem.W.nsIn K mainGlobals "int" = some none),
  decide (PySem.W.nsIn K mainGlobals "bool" = some none)]
def ck_10 (K : PySem.W.Frag) : List Bool := [decide (PySem.W.nsIn K mainGlobals "tuple" = some none),
  decide (PySem.W.nsIn K mainGlobals "list" = some none),
  decide (PySem.W.nsIn K mainGlobals "zip" = some none),
  intB K "MOST" 100,
  decide (PySem.W.nsIn K mainGlobals "RootError" = some (some (.ref (He.ga K "RootError")))),
  decide (PySem.W.isClsIn K (He.ga K "RootError") = true),
  decide (PySem.W.typeIn K (.ref (He.ga K "RootError")) = some (.type "type")),
  decide (PySem.W.subIn K (.type "NoneType") (.ref (He.ga K "RootError")) = some false),
  decide (PySem.W.nsIn K mainGlobals "NoPoly" = some (some (.ref (He.ga K "NoPoly")))),
  decide (PySem.W.isClsIn K (He.ga K "NoPoly") = true),
  decide (PySem.W.typeIn K (.ref (He.ga K "NoPoly")) = some (.type "type")),
  decide (PySem.W.subIn K (.type "NoneType") (.ref (He.ga K "NoPoly")) = some false)]
def ck_11 (K : PySem.W.Frag) : List Bool := [decide (PySem.W.nsIn K mainGlobals "NoHouse" = some (some (.ref (He.ga K "NoHouse")))),
  decide (PySem.W.isClsIn K (He.ga K "NoHouse") = true),
  decide (PySem.W.typeIn K (.ref (He.ga K "NoHouse")) = some (.type "type")),
  decide (PySem.W.subIn K (.type "NoneType") (.ref (He.ga K "NoHouse")) = some false),
  decide (PySem.W.nsIn K mainGlobals "NoLetter" = some (some (.ref (He.ga K "NoLetter")))),
  decide (PySem.W.isClsIn K (He.ga K "NoLetter") = true),
  decide (PySem.W.typeIn K (.ref (He.ga K "NoLetter")) = some (.type "type")),
  decide (PySem.W.subIn K (.type "NoneType") (.ref (He.ga K "NoLetter")) = some false),
  decide (PySem.W.nsIn K mainGlobals "NoCount" = some (some (.ref (He.ga K "NoCount")))),
  decide (PySem.W.isClsIn K (He.ga K "NoCount") = true),
  decide (PySem.W.typeIn K (.ref (He.ga K "NoCount")) = some (.type "type")),
  decide (PySem.W.subIn K (.type "NoneType") (.ref (He.ga K "NoCount")) = some false)]
def ck_12 (K : PySem.W.Frag) : List Bool := [decide (PySem.W.nsIn K mainGlobals "NoMove" = some (some (.ref (He.ga K "NoMove")))),
  decide (PySem.W.isClsIn K (He.ga K "NoMove") = true),
  decide (PySem.W.typeIn K (.ref (He.ga K "NoMove")) = some (.type "type")),
  decide (PySem.W.subIn K (.type "NoneType") (.ref (He.ga K "NoMove")) = some false),
  decide (PySem.W.nsIn K mainGlobals "NoWord" = some (some (.ref (He.ga K "NoWord")))),
  decide (PySem.W.isClsIn K (He.ga K "NoWord") = true),
  decide (PySem.W.typeIn K (.ref (He.ga K "NoWord")) = some (.type "type")),
  decide (PySem.W.subIn K (.type "NoneType") (.ref (He.ga K "NoWord")) = some false),
  decide (PySem.W.nsIn K mainGlobals "Full" = some (some (.ref (He.ga K "Full")))),
  decide (PySem.W.isClsIn K (He.ga K "Full") = true),
  decide (PySem.W.typeIn K (.ref (He.ga K "Full")) = some (.type "type")),
  decide (PySem.W.subIn K (.type "NoneType") (.ref (He.ga K "Full")) = some false)]
def ck_13 (K : PySem.W.Frag) : List Bool := [decide (PySem.W.nsIn K mainGlobals "NoDeed" = some (some (.ref (He.ga K "NoDeed")))),
  decide (PySem.W.isClsIn K (He.ga K "NoDeed") = true),
  decide (PySem.W.typeIn K (.ref (He.ga K "NoDeed")) = some (.type "type")),
  decide (PySem.W.subIn K (.type "NoneType") (.ref (He.ga K "NoDeed")) = some false),
  decide (PySem.W.nsIn K mainGlobals "NoText" = some (some (.ref (He.ga K "NoText")))),
  decide (PySem.W.isClsIn K (He.ga K "NoText") = true),
  decide (PySem.W.typeIn K (.ref (He.ga K "NoText")) = some (.type "type")),
  decide (PySem.W.subIn K (.type "NoneType") (.ref (He.ga K "NoText")) = some false),
  decide (PySem.W.nsIn K mainGlobals "NoLine" = some (some (.ref (He.ga K "NoLine")))),
  decide (PySem.W.isClsIn K (He.ga K "NoLine") = true),
  decide (PySem.W.typeIn K (.ref (He.ga K "NoLine")) = some (.type "type")),
  decide (PySem.W.subIn K (.type "NoneType") (.ref (He.ga K "NoLine")) = some false)]
def ck_14 (K : PySem.W.Frag) : List Bool := [decide (PySem.W.nsIn K mainGlobals "NoOver" = some (some (.ref (He.ga K "NoOver")))),
  decide (PySem.W.isClsIn K (He.ga K "NoOver") = true),
  decide (PySem.W.typeIn K (.ref (He.ga K "NoOver")) = some (.type "type")),
  decide (PySem.W.subIn K (.type "NoneType") (.ref (He.ga K "NoOver")) = some false),
  decide (PySem.W.nsIn K mainGlobals "NoName" = some (some (.ref (He.ga K "NoName")))),
  decide (PySem.W.isClsIn K (He.ga K "NoName") = true),
  decide (PySem.W.typeIn K (.ref (He.ga K "NoName")) = some (.type "type")),
  decide (PySem.W.subIn K (.type "NoneType") (.ref (He.ga K "NoName")) = some false),
  decide (PySem.W.nsIn K mainGlobals "Twice" = some (some (.ref (He.ga K "Twice")))),
  decide (PySem.W.isClsIn K (He.ga K "Twice") = true),
  decide (PySem.W.typeIn K (.ref (He.ga K "Twice")) = some (.type "type")),
  decide (PySem.W.subIn K (.type "NoneType") (.ref (He.ga K "Twice")) = some false)]
def ck_15 (K : PySem.W.Frag) : List Bool := [decide (PySem.W.nsIn K mainGlobals "NoNumber" = some (some (.ref (He.ga K "NoNumber")))),
  decide (PySem.W.isClsIn K (He.ga K "NoNumber") = true),
  decide (PySem.W.typeIn K (.ref (He.ga K "NoNumber")) = some (.type "type")),
  decide (PySem.W.subIn K (.type "NoneType") (.ref (He.ga K "NoNumber")) = some false),
  decide (PySem.W.subIn K (.ref (He.ga K "RootError")) (.type "BaseException") = some true),
  decide (PySem.W.subIn K (.ref (He.ga K "NoPoly")) (.type "BaseException") = some true),
  decide (PySem.W.subIn K (.ref (He.ga K "NoLetter")) (.type "BaseException") = some true),
  decide (PySem.W.subIn K (.ref (He.ga K "NoOver")) (.type "BaseException") = some true),
  decide (PySem.W.subIn K (.ref (He.ga K "NoNumber")) (.type "BaseException") = some true),
  decide (PySem.W.subIn K (.ref (He.ga K "NoPoly")) (.ref (He.ga K "RootError")) = some true),
  decide ((Value.ref (He.ga K "NoPoly") == Value.ref (He.ga K "RootError")) = false),
  decide (PySem.W.subIn K (.ref (He.ga K "NoPoly")) (.ref (He.ga K "NoHouse")) = some false)]
def ck_16 (K : PySem.W.Frag) : List Bool := [decide ((Value.ref (He.ga K "NoPoly") == Value.ref (He.ga K "NoHouse")) = false),
  decide (PySem.W.subIn K (.ref (He.ga K "NoPoly")) (.ref (He.ga K "NoLetter")) = some false),
  decide ((Value.ref (He.ga K "NoPoly") == Value.ref (He.ga K "NoLetter")) = false),
  decide (PySem.W.subIn K (.ref (He.ga K "NoPoly")) (.ref (He.ga K "NoCount")) = some false),
  decide ((Value.ref (He.ga K "NoPoly") == Value.ref (He.ga K "NoCount")) = false),
  decide (PySem.W.subIn K (.ref (He.ga K "NoPoly")) (.ref (He.ga K "NoMove")) = some false),
  decide ((Value.ref (He.ga K "NoPoly") == Value.ref (He.ga K "NoMove")) = false),
  decide (PySem.W.subIn K (.ref (He.ga K "NoPoly")) (.ref (He.ga K "NoWord")) = some false),
  decide ((Value.ref (He.ga K "NoPoly") == Value.ref (He.ga K "NoWord")) = false),
  decide (PySem.W.subIn K (.ref (He.ga K "NoPoly")) (.ref (He.ga K "Full")) = some false),
  decide ((Value.ref (He.ga K "NoPoly") == Value.ref (He.ga K "Full")) = false),
  decide (PySem.W.subIn K (.ref (He.ga K "NoPoly")) (.ref (He.ga K "NoDeed")) = some false)]
def ck_17 (K : PySem.W.Frag) : List Bool := [decide ((Value.ref (He.ga K "NoPoly") == Value.ref (He.ga K "NoDeed")) = false),
  decide (PySem.W.subIn K (.ref (He.ga K "NoPoly")) (.ref (He.ga K "NoText")) = some false),
  decide ((Value.ref (He.ga K "NoPoly") == Value.ref (He.ga K "NoText")) = false),
  decide (PySem.W.subIn K (.ref (He.ga K "NoPoly")) (.ref (He.ga K "NoLine")) = some false),
  decide ((Value.ref (He.ga K "NoPoly") == Value.ref (He.ga K "NoLine")) = false),
  decide (PySem.W.subIn K (.ref (He.ga K "NoPoly")) (.ref (He.ga K "NoOver")) = some false),
  decide ((Value.ref (He.ga K "NoPoly") == Value.ref (He.ga K "NoOver")) = false),
  decide (PySem.W.subIn K (.ref (He.ga K "NoPoly")) (.ref (He.ga K "NoName")) = some false),
  decide ((Value.ref (He.ga K "NoPoly") == Value.ref (He.ga K "NoName")) = false),
  decide (PySem.W.subIn K (.ref (He.ga K "NoPoly")) (.ref (He.ga K "Twice")) = some false),
  decide ((Value.ref (He.ga K "NoPoly") == Value.ref (He.ga K "Twice")) = false),
  decide (PySem.W.subIn K (.ref (He.ga K "NoPoly")) (.ref (He.ga K "NoNumber")) = some false)]
def ck_18 (K : PySem.W.Frag) : List Bool := [decide ((Value.ref (He.ga K "NoPoly") == Value.ref (He.ga K "NoNumber")) = false),
  decide (PySem.W.keepIn K (.ref (He.ga K "NoPoly")) = true),
  decide (PySem.W.findIn K (.ref (He.ga K "NoPoly")) "__getattribute__" = some (some (.builtin "BaseException.__getattribute__"))),
  decide (PySem.W.findIn K (.ref (He.ga K "NoPoly")) "__getattr__" = some none),
  decide (PySem.W.hasDictIn K (He.ga K "NoPoly") = true),
  decide (PySem.W.findIn K (.ref (He.ga K "NoPoly")) "__class__" = some (some (.builtin "object.__class__"))),
  decide (PySem.W.mroIn K (He.ga K "NoPoly") (.type "object") = some true),
  decide (PySem.W.subIn K (.ref (He.ga K "NoNumber")) (.ref (He.ga K "NoNumber")) = some true),
  decide (PySem.W.subIn K (.ref (He.ga K "NoNumber")) (.ref (He.ga K "RootError")) = some false),
  decide ((Value.ref (He.ga K "NoNumber") == Value.ref (He.ga K "RootError")) = false),
  decide (PySem.W.subIn K (.ref (He.ga K "NoNumber")) (.ref (He.ga K "NoPoly")) = some false),
  decide ((Value.ref (He.ga K "NoNumber") == Value.ref (He.ga K "NoPoly")) = false)]
def ck_19 (K : PySem.W.Frag) : List Bool := [decide (PySem.W.subIn K (.ref (He.ga K "NoNumber")) (.ref (He.ga K "NoHouse")) = some false),
  decide ((Value.ref (He.ga K "NoNumber") == Value.ref (He.ga K "NoHouse")) = false),
  decide (PySem.W.subIn K (.ref (He.ga K "NoNumber")) (.ref (He.ga K "NoLetter")) = some false),
  decide ((Value.ref (He.ga K "NoNumber") == Value.ref (He.ga K "NoLetter")) = false),
  decide (PySem.W.subIn K (.ref (He.ga K "NoNumber")) (.ref (He.ga K "NoCount")) = some false),
  decide ((Value.ref (He.ga K "NoNumber") == Value.ref (He.ga K "NoCount")) = false),
  decide (PySem.W.subIn K (.ref (He.ga K "NoNumber")) (.ref (He.ga K "NoMove")) = some false),
  decide ((Value.ref (He.ga K "NoNumber") == Value.ref (He.ga K "NoMove")) = false),
  decide (PySem.W.subIn K (.ref (He.ga K "NoNumber")) (.ref (He.ga K "NoWord")) = some false),
  decide ((Value.ref (He.ga K "NoNumber") == Value.ref (He.ga K "NoWord")) = false),
  decide (PySem.W.subIn K (.ref (He.ga K "NoNumber")) (.ref (He.ga K "Full")) = some false),
  decide ((Value.ref (He.ga K "NoNumber") == Value.ref (He.ga K "Full")) = false)]
def ck_20 (K : PySem.W.Frag) : List Bool := [decide (PySem.W.subIn K (.ref (He.ga K "NoNumber")) (.ref (He.ga K "NoDeed")) = some false),
  decide ((Value.ref (He.ga K "NoNumber") == Value.ref (He.ga K "NoDeed")) = false),
  decide (PySem.W.subIn K (.ref (He.ga K "NoNumber")) (.ref (He.ga K "NoText")) = some false),
  decide ((Value.ref (He.ga K "NoNumber") == Value.ref (He.ga K "NoText")) = false),
  decide (PySem.W.subIn K (.ref (He.ga K "NoNumber")) (.ref (He.ga K "NoLine")) = some false),
  decide ((Value.ref (He.ga K "NoNumber") == Value.ref (He.ga K "NoLine")) = false),
  decide (PySem.W.subIn K (.ref (He.ga K "NoNumber")) (.ref (He.ga K "NoOver")) = some false),
  decide ((Value.ref (He.ga K "NoNumber") == Value.ref (He.ga K "NoOver")) = false),
  decide (PySem.W.subIn K (.ref (He.ga K "NoNumber")) (.ref (He.ga K "NoName")) = some false),
  decide ((Value.ref (He.ga K "NoNumber") == Value.ref (He.ga K "NoName")) = false),
  decide (PySem.W.subIn K (.ref (He.ga K "NoNumber")) (.ref (He.ga K "Twice")) = some false),
  decide ((Value.ref (He.ga K "NoNumber") == Value.ref (He.ga K "Twice")) = false)]
def ck_21 (K : PySem.W.Frag) : List Bool := [decide (PySem.W.excIn K (He.ga K "NoNumber") [.type "ValueError", .type "Exception", .type "BaseException", .type "object"] "ValueError.__new__" = true),
  decide (PySem.W.keepIn K (.ref (He.ga K "NoNumber")) = true),
  decide (PySem.W.findIn K (.ref (He.ga K "NoNumber")) "__getattribute__" = some (some (.builtin "BaseException.__getattribute__"))),
  decide (PySem.W.findIn K (.ref (He.ga K "NoNumber")) "__getattr__" = some none),
  decide (PySem.W.hasDictIn K (He.ga K "NoNumber") = true),
  decide (PySem.W.findIn K (.ref (He.ga K "NoNumber")) "__class__" = some (some (.builtin "object.__class__"))),
  decide (PySem.W.mroIn K (He.ga K "NoNumber") (.type "object") = some true),
  decide (PySem.W.subIn K (.ref (He.ga K "NoLetter")) (.ref (He.ga K "RootError")) = some true),
  decide ((Value.ref (He.ga K "NoLetter") == Value.ref (He.ga K "RootError")) = false),
  decide (PySem.W.subIn K (.ref (He.ga K "NoLetter")) (.ref (He.ga K "NoPoly")) = some false),
  decide ((Value.ref (He.ga K "NoLetter") == Value.ref (He.ga K "NoPoly")) = false),
  decide (PySem.W.subIn K (.ref (He.ga K "NoLetter")) (.ref (He.ga K "NoHouse")) = some false)]
def ck_22 (K : PySem.W.Frag) : List Bool := [decide ((Value.ref (He.ga K "NoLetter") == Value.ref (He.ga K "NoHouse")) = false),
  decide (PySem.W.subIn K (.ref (He.ga K "NoLetter")) (.ref (He.ga K "NoCount")) = some false),
  decide ((Value.ref (He.ga K "NoLetter") == Value.ref (He.ga K "NoCount")) = false),
  decide (PySem.W.subIn K (.ref (He.ga K "NoLetter")) (.ref (He.ga K "NoMove")) = some false),
  decide ((Value.ref (He.ga K "NoLetter") == Value.ref (He.ga K "NoMove")) = false),
  decide (PySem.W.subIn K (.ref (He.ga K "NoLetter")) (.ref (He.ga K "NoWord")) = some false),
  decide ((Value.ref (He.ga K "NoLetter") == Value.ref (He.ga K "NoWord")) = false),
  decide (PySem.W.subIn K (.ref (He.ga K "NoLetter")) (.ref (He.ga K "Full")) = some false),
  decide ((Value.ref (He.ga K "NoLetter") == Value.ref (He.ga K "Full")) = false),
  decide (PySem.W.subIn K (.ref (He.ga K "NoLetter")) (.ref (He.ga K "NoDeed")) = some false),
  decide ((Value.ref (He.ga K "NoLetter") == Value.ref (He.ga K "NoDeed")) = false),
  decide (PySem.W.subIn K (.ref (He.ga K "NoLetter")) (.ref (He.ga K "NoText")) = some false)]
def ck_23 (K : PySem.W.Frag) : List Bool := [decide ((Value.ref (He.ga K "NoLetter") == Value.ref (He.ga K "NoText")) = false),
  decide (PySem.W.subIn K (.ref (He.ga K "NoLetter")) (.ref (He.ga K "NoLine")) = some false),
  decide ((Value.ref (He.ga K "NoLetter") == Value.ref (He.ga K "NoLine")) = false),
  decide (PySem.W.subIn K (.ref (He.ga K "NoLetter")) (.ref (He.ga K "NoOver")) = some false),
  decide ((Value.ref (He.ga K "NoLetter") == Value.ref (He.ga K "NoOver")) = false),
  decide (PySem.W.subIn K (.ref (He.ga K "NoLetter")) (.ref (He.ga K "NoName")) = some false),
  decide ((Value.ref (He.ga K "NoLetter") == Value.ref (He.ga K "NoName")) = false),
  decide (PySem.W.subIn K (.ref (He.ga K "NoLetter")) (.ref (He.ga K "Twice")) = some false),
  decide ((Value.ref (He.ga K "NoLetter") == Value.ref (He.ga K "Twice")) = false),
  decide (PySem.W.subIn K (.ref (He.ga K "NoLetter")) (.ref (He.ga K "NoNumber")) = some false),
  decide ((Value.ref (He.ga K "NoLetter") == Value.ref (He.ga K "NoNumber")) = false),
  decide (PySem.W.excIn K (He.ga K "NoLetter") [.type "ValueError", .type "Exception", .type "BaseException", .type "object"] "ValueError.__new__" = true)]
def ck_24 (K : PySem.W.Frag) : List Bool := [decide (PySem.W.keepIn K (.ref (He.ga K "NoLetter")) = true),
  decide (PySem.W.findIn K (.ref (He.ga K "NoLetter")) "__getattribute__" = some (some (.builtin "BaseException.__getattribute__"))),
  decide (PySem.W.findIn K (.ref (He.ga K "NoLetter")) "__getattr__" = some none),
  decide (PySem.W.hasDictIn K (He.ga K "NoLetter") = true),
  decide (PySem.W.findIn K (.ref (He.ga K "NoLetter")) "__class__" = some (some (.builtin "object.__class__"))),
  decide (PySem.W.mroIn K (He.ga K "NoLetter") (.type "object") = some true),
  clsB K (He.ga K "NoPoly") PySem.HandSPX.refsVE "ValueError.__new__",
  decide (PySem.W.findIn K (.ref (He.ga K "NoPoly")) "__setattr__" = some (some (.builtin "object.__setattr__"))),
  decide (PySem.W.findIn K (.ref (He.ga K "NoPoly")) "at" = some none),
  decide (PySem.W.readsIn (mc := .type "type") K (He.ga K "RootError") = true),
  fcB K (He.ga K "RootError") "__init__" "ValueError.__init__",
  decide (PySem.W.specialIn K (.ref (He.ga K "RootError")) "__getattribute__" = some (some (.builtin "type.__getattribute__")))]
def ck_25 (K : PySem.W.Frag) : List Bool := [decide (PySem.W.specialIn K (.builtin "object.__class__") "__get__" = some (some (.builtin "getset_descriptor.__get__"))),
  decide (PySem.W.takesIn K (.builtin "object.__class__") = some true)]
def ck (K : PySem.W.Frag) : Bool := ([(ck_0 K).all id, (ck_1 K).all id, (ck_2 K).all id, (ck_3 K).all id, (ck_4 K).all id, (ck_5 K).all id, (ck_6 K).all id, (ck_7 K).all id, (ck_8 K).all id, (ck_9 K).all id, (ck_10 K).all id, (ck_11 K).all id, (ck_12 K).all id, (ck_13 K).all id, (ck_14 K).all id, (ck_15 K).all id, (ck_16 K).all id, (ck_17 K).all id, (ck_18 K).all id, (ck_19 K).all id] ++ [(ck_20 K).all id, (ck_21 K).all id, (ck_22 K).all id, (ck_23 K).all id, (ck_24 K).all id, (ck_25 K).all id]).all id
def fnL : List He.DefD := [⟨("divisor", none), "divisor", "divisor", defArgs (top 19), defBody (top 19), defScope (top 19), [], []⟩,
  ⟨("lowest", none), "lowest", "lowest", defArgs (top 20), defBody (top 20), defScope (top 20), [], []⟩,
  ⟨("told_by", none), "told_by", "told_by", defArgs (top 31), defBody (top 31), defScope (top 31), [], []⟩,
  ⟨("NoPoly", some "__init__"), "__init__", "NoPoly.__init__", defArgs (inClass (top 3) 0), defBody (inClass (top 3) 0), defScope (inClass (top 3) 0), [.non], []⟩,
  ⟨("must_poly", none), "must_poly", "must_poly", defArgs (top 32), defBody (top 32), defScope (top 32), [], []⟩,
  ⟨("must_fraction", none), "must_fraction", "must_fraction", defArgs (top 33), defBody (top 33), defScope (top 33), [], []⟩,
  ⟨("root_whole", none), "root_whole", "root_whole", defArgs (top 29), defBody (top 29), defScope (top 29), [], []⟩,
  ⟨("bare_of", none), "bare_of", "bare_of", defArgs (top 30), defBody (top 30), defScope (top 30), [], []⟩,
  ⟨("nought", none), "nought", "nought", defArgs (top 42), defBody (top 42), defScope (top 42), [], []⟩,
  ⟨("ways_of", none), "ways_of", "ways_of", defArgs (top 43), defBody (top 43), defScope (top 43), [], []⟩,
  ⟨("whole_root", none), "whole_root", "whole_root", defArgs (top 49), defBody (top 49), defScope (top 49), [], []⟩,
  ⟨("left_by", none), "left_by", "left_by", defArgs (top 50), defBody (top 50), defScope (top 50), [], []⟩,
  ⟨("rows_by_two", none), "rows_by_two", "rows_by_two", defArgs (top 51), defBody (top 51), defScope (top 51), [], []⟩,
  ⟨("halves", none), "halves", "halves", defArgs (top 53), defBody (top 53), defScope (top 53), [], []⟩,
  ⟨("by_squares", none), "by_squares", "by_squares", defArgs (top 54), defBody (top 54), defScope (top 54), [], []⟩,
  ⟨("root_within", none), "root_within", "root_within", defArgs (top 55), defBody (top 55), defScope (top 55), [], []⟩,
  ⟨("rows_by_three", none), "rows_by_three", "rows_by_three", defArgs (top 52), defBody (top 52), defScope (top 52), [], []⟩,
  ⟨("rows_by_four", none), "rows_by_four", "rows_by_four", defArgs (top 56), defBody (top 56), defScope (top 56), [], []⟩,
  ⟨("rows_of", none), "rows_of", "rows_of", defArgs (top 57), defBody (top 57), defScope (top 57), [], []⟩,
  ⟨("House", some "__init__"), "__init__", "House.__init__", defArgs (inClass (top 45) 0), defBody (inClass (top 45) 0), defScope (inClass (top 45) 0), [], []⟩,
  ⟨("Number", some "__init__"), "__init__", "Number.__init__", defArgs (inClass (top 46) 0), defBody (inClass (top 46) 0), defScope (inClass (top 46) 0), [], []⟩,
  ⟨("house_of", none), "house_of", "house_of", defArgs (top 58), defBody (top 58), defScope (top 58), [], []⟩,
  ⟨("House", some "__len__"), "__len__", "House.__len__", defArgs (inClass (top 45) 1), defBody (inClass (top 45) 1), defScope (inClass (top 45) 1), [], []⟩,
  ⟨("House", some "__eq__"), "__eq__", "House.__eq__", defArgs (inClass (top 45) 2), defBody (inClass (top 45) 2), defScope (inClass (top 45) 2), [], []⟩,
  ⟨("House", some "steps"), "steps", "House.steps", defArgs (inClass (top 45) 4), defBody (inClass (top 45) 4), defScope (inClass (top 45) 4), [], []⟩,
  ⟨("made", none), "made", "made", defArgs (top 47), defBody (top 47), defScope (top 47), [], []⟩,
  ⟨("Number", some "house"), "house", "Number.house", defArgs (inClass (top 46) 5), defBody (inClass (top 46) 5), defScope (inClass (top 46) 5), [], []⟩,
  ⟨("House", some "number"), "number", "House.number", defArgs (inClass (top 45) 6), defBody (inClass (top 45) 6), defScope (inClass (top 45) 6), [], []⟩,
  ⟨("House", some "whole"), "whole", "House.whole", defArgs (inClass (top 45) 7), defBody (inClass (top 45) 7), defScope (inClass (top 45) 7), [.int 1], []⟩,
  ⟨("House", some "letter"), "letter", "House.letter", defArgs (inClass (top 45) 8), defBody (inClass (top 45) 8), defScope (inClass (top 45) 8), [], []⟩,
  ⟨("Number", some "shares"), "shares", "Number.shares", defArgs (inClass (top 46) 4), defBody (inClass (top 46) 4), defScope (inClass (top 46) 4), [], []⟩,
  ⟨("Number", some "__eq__"), "__eq__", "Number.__eq__", defArgs (inClass (top 46) 2), defBody (inClass (top 46) 2), defScope (inClass (top 46) 2), [], []⟩,
  ⟨("_law_at", none), "_law_at", "_law_at", defArgs (top 67), defBody (top 67), defScope (top 67), [], []⟩,
  ⟨("_law_mixed", none), "_law_mixed", "_law_mixed", defArgs (top 68), defBody (top 68), defScope (top 68), [], []⟩,
  ⟨("_law_purse", none), "_law_purse", "_law_purse", defArgs (top 69), defBody (top 69), defScope (top 69), [], []⟩,
  ⟨("_law_draw", none), "_law_draw", "_law_draw", defArgs (top 70), defBody (top 70), defScope (top 70), [], []⟩,
  ⟨("_law_alike_roots", none), "_law_alike_roots", "_law_alike_roots", defArgs (top 79), defBody (top 79), defScope (top 79), [], []⟩,
  ⟨("_law_three", none), "_law_three", "_law_three", defArgs (top 80), defBody (top 80), defScope (top 80), [], []⟩,
  ⟨("_law_four", none), "_law_four", "_law_four", defArgs (top 81), defBody (top 81), defScope (top 81), [], []⟩,
  ⟨("_law_poly", none), "_law_poly", "_law_poly", defArgs (top 82), defBody (top 82), defScope (top 82), [], []⟩,
  ⟨("_law_number", none), "_law_number", "_law_number", defArgs (top 83), defBody (top 83), defScope (top 83), [], []⟩,
  ⟨("_law_fraction", none), "_law_fraction", "_law_fraction", defArgs (top 74), defBody (top 74), defScope (top 74), [], []⟩,
  ⟨("_law_shares", none), "_law_shares", "_law_shares", defArgs (top 75), defBody (top 75), defScope (top 75), [], []⟩,
  ⟨("_law_made", none), "_law_made", "_law_made", defArgs (top 72), defBody (top 72), defScope (top 72), [], []⟩,
  ⟨("_law_low", none), "_law_low", "_law_low", defArgs (top 76), defBody (top 76), defScope (top 76), [], []⟩,
  ⟨("_law_whole", none), "_law_whole", "_law_whole", defArgs (top 71), defBody (top 71), defScope (top 71), [], []⟩,
  ⟨("_law_class", none), "_law_class", "_law_class", defArgs (top 77), defBody (top 77), defScope (top 77), [], []⟩,
  ⟨("_law_many", none), "_law_many", "_law_many", defArgs (top 73), defBody (top 73), defScope (top 73), [], []⟩,
  ⟨("_law_shares_good", none), "_law_shares_good", "_law_shares_good", defArgs (top 78), defBody (top 78), defScope (top 78), [], []⟩,
  ⟨("_law_drawn", none), "_law_drawn", "_law_drawn", defArgs (top 84), defBody (top 84), defScope (top 84), [], []⟩,
  ⟨("_law_asked", none), "_law_asked", "_law_asked", defArgs (top 85), defBody (top 85), defScope (top 85), [], []⟩,
  ⟨("_law_answer", none), "_law_answer", "_law_answer", defArgs (top 86), defBody (top 86), defScope (top 86), [], []⟩,
  ⟨("_law_due", none), "_law_due", "_law_due", defArgs (top 87), defBody (top 87), defScope (top 87), [], []⟩,
  ⟨("law", none), "law", "law", defArgs (top 88), defBody (top 88), defScope (top 88), [], []⟩]
def names : List PySem.Str := (["_wall", "__name__", "RootError", "NoPoly", "NoMove", "NoName", "Twice", "NoOver", "NoNumber", "NoHouse", "NoLetter", "NoCount", "NoWord", "Full", "NoDeed", "NoText", "NoLine", "MOST", "divisor", "lowest", "plus_of", "times_of", "over_of", "plus_rows", "scaled", "cleared", "reduced", "solved", "root_whole", "bare_of"] : List PySem.Str) ++ (["told_by", "must_poly", "must_fraction", "fraction_text", "product_text", "share_text", "sum_text", "parts_text", "MOST_POWER", "nought", "ways_of", "times_rows", "House", "Number", "made", "worth_at", "whole_root", "left_by", "rows_by_two", "rows_by_three", "halves", "by_squares", "root_within", "rows_by_four", "rows_of", "house_of", "root_here", "about", "roots_by_two", "roots_by_three"] : List PySem.Str) ++ (["other_root", "roots_by_four", "roots_in", "_law_at", "_law_mixed", "_law_purse", "_law_draw", "_law_whole", "_law_made", "_law_many", "_law_fraction", "_law_shares", "_law_low", "_law_class", "_law_shares_good", "_law_alike_roots", "_law_three", "_law_four", "_law_poly", "_law_number", "_law_drawn", "_law_asked", "_law_answer", "_law_due"] : List PySem.Str)
def adrs : List Addr := ([3, 6, 4, 21, 31, 52, 72, 92, 113, 126, 139, 152, 164, 176, 188, 200, 212, 224, 236, 245, 252, 259, 266, 273, 278, 283, 290, 295, 300, 307] : List Addr) ++ ([314, 321, 328, 335, 342, 349, 356, 363, 371, 378, 383, 388, 465, 593, 604, 609, 616, 623, 630, 635, 642, 649, 656, 661, 668, 675, 680, 687, 694, 701] : List Addr) ++ ([708, 713, 720, 727, 734, 741, 748, 755, 762, 769, 776, 783, 788, 793, 800, 807, 812, 817, 822, 829, 836, 843, 850, 855, 860, 0, 20, 30, 51, 71] : List Addr) ++ ([91, 112, 125, 138, 151, 163, 175, 187, 199, 211, 223, 235, 244, 251, 258, 265, 272, 277, 282, 289, 294, 299, 306, 313, 320, 327, 334, 341, 348, 355] : List Addr) ++ ([362, 370, 364, 377, 382, 387, 464, 592, 603, 608, 615, 622, 629, 634, 641, 648, 655, 660, 667, 674, 679, 686, 693, 700, 707, 712, 719, 726, 733, 740] : List Addr) ++ ([747, 754, 761, 768, 775, 782, 787, 792, 799, 806, 811, 816, 821, 828, 835, 842, 849, 854, 859, 15, 16, 17, 18, 19, 29, 32, 49, 50, 69, 70] : List Addr) ++ ([89, 90, 93, 110, 111, 114, 124, 127, 137, 140, 150, 162, 174, 186, 198, 210, 222, 234, 239, 240, 241, 242, 243, 246, 247, 248, 249, 250, 253, 254] : List Addr) ++ ([255, 256, 257, 260, 261, 262, 263, 264, 267, 268, 269, 270, 271, 274, 275, 276, 279, 280, 281, 284, 285, 286, 287, 288, 291, 292, 293, 296, 297, 298] : List Addr) ++ ([301, 302, 303, 304, 305, 308, 309, 310, 311, 312, 315, 316, 317, 318, 319, 322, 323, 324, 325, 326, 329, 330, 331, 332, 333, 336, 337, 338, 339, 340] : List Addr) ++ ([343, 344, 345, 346, 347, 350, 351, 352, 353, 354, 357, 358, 359, 360, 361, 365, 366, 367, 368, 369, 372, 373, 374, 375, 376, 379, 380, 381, 384, 385] : List Addr) ++ ([386, 402, 409, 416, 423, 428, 435, 440, 448, 455, 462, 463, 466, 467, 483, 488, 495, 502, 509, 516, 523, 530, 537, 544, 551, 559, 564, 569, 576, 583] : List Addr) ++ ([590, 591, 594, 595, 598, 599, 600, 601, 602, 605, 606, 607, 610, 611, 612, 613, 614, 617, 618, 619, 620, 621, 624, 625, 626, 627, 628, 631, 632, 633] : List Addr) ++ ([636, 637, 638, 639, 640, 643, 644, 645, 646, 647, 650, 651, 652, 653, 654, 657, 658, 659, 662, 663, 664, 665, 666, 669, 670, 671, 672, 673, 676, 677] : List Addr) ++ ([678, 681, 682, 683, 684, 685, 688, 689, 690, 691, 692, 695, 696, 697, 698, 699, 702, 703, 704, 705, 706, 709, 710, 711, 714, 715, 716, 717, 718, 721] : List Addr) ++ ([722, 723, 724, 725, 728, 729, 730, 731, 732, 735, 736, 737, 738, 739, 742, 743, 744, 745, 746, 749, 750, 751, 752, 753, 756, 757, 758, 759, 760, 763] : List Addr) ++ ([764, 765, 766, 767, 770, 771, 772, 773, 774, 777, 778, 779, 780, 781, 784, 785, 786, 789, 790, 791, 794, 795, 796, 797, 798, 801, 802, 803, 804, 805] : List Addr) ++ ([808, 809, 810, 813, 814, 815, 818, 819, 820, 823, 824, 825, 826, 827, 830, 831, 832, 833, 834, 837, 838, 839, 840, 841, 844, 845, 846, 847, 848, 851] : List Addr) ++ ([852, 853, 856, 857, 858, 48, 42, 68, 62, 88, 82, 109, 103, 401, 408, 415, 422, 427, 434, 439, 447, 441, 454, 461, 482, 487, 494, 501, 508, 515] : List Addr) ++ ([522, 529, 536, 543, 550, 558, 552, 563, 568, 575, 582, 589, 43, 44, 45, 46, 47, 63, 64, 65, 66, 67, 83, 84, 85, 86, 87, 104, 105, 106] : List Addr) ++ ([107, 108, 396, 397, 398, 399, 400, 403, 404, 405, 406, 407, 410, 411, 412, 413, 414, 417, 418, 419, 420, 421, 424, 425, 426, 429, 430, 431, 432, 433] : List Addr) ++ ([436, 437, 438, 442, 443, 444, 445, 446, 449, 450, 451, 452, 453, 456, 457, 458, 459, 460, 477, 478, 479, 480, 481, 484, 485, 486, 489, 490, 491, 492] : List Addr) ++ ([493, 496, 497, 498, 499, 500, 503, 504, 505, 506, 507, 510, 511, 512, 513, 514, 517, 518, 519, 520, 521, 524, 525, 526, 527, 528, 531, 532, 533, 534] : List Addr) ++ ([535, 538, 539, 540, 541, 542, 545, 546, 547, 548, 549, 553, 554, 555, 556, 557, 560, 561, 562, 565, 566, 567, 570, 571, 572, 573, 574, 577, 578, 579] : List Addr) ++ ([580, 581, 584, 585, 586, 587, 588, 2] : List Addr)
abbrev hk : PySem.W.Hook := hookM adrs ck fnL
def ob (s : PySem.W.SharedT) : AlM := obsMG adrs ck fnL (HandSHeadRun.getT s)
theorem ob_eq (s : PySem.W.SharedT) : ob s = hk.obs s.abs := obsMG_eq (HandSHeadRun.getT_eq s)
set_option maxHeartbeats 0 in
theorem run (w : World) : HandSHeadRun.RunEq (PySem.W.OpenLaw.row PySem.Challenge.rw_rootmoves_k07_numbers_told) (PySem.W.view (PySem.W.OpenLaw.row PySem.Challenge.rw_rootmoves_k07_numbers_told).prog [88]) hk ob 20000 names w := by
  intro os
  kernel_rfl
end My
set_option Elab.async false
set_option linter.all false
set_option maxRecDepth 100000
set_option maxHeartbeats 4000000
/-! ### own rules over the hand layer -/
namespace My
open PySem PySem.Spec PyProof.Rows L2
section
variable {X : Cx}
def CFd (_ j : Int) : Prop := j ≠ 0 ∧ j.natAbs.log2 < 9000
theorem op_fdivA : OpR X (binaryOp .FloorDiv) (rI CFd fun i j => .int (i.fdiv j)) := opI fun _ _ _ _ _ _ _ hc q => floordiv_int hc.1 q (.inl (PyProof.noPylong_of_log2 hc.2))
def CPw (i j : Int) : Prop := 0 ≤ j ∧ (Builtin.Int.intBits i : Int) * j ≤ 2 ^ 27
theorem op_powW : OpR X (binaryOp .Pow) (rI CPw fun i j => .int (i ^ j.toNat)) := opI fun _ _ _ _ _ _ _ hc q => pow_int hc.1 hc.2 q
end
section
variable {X : Cx}
theorem ip_fdiv : PIp X .FloorDiv (rI CDivW fun i j => .int (i / j)) := iop_fdivW
theorem ip_mul : PIp X .Mult (rI CMul fun i j => .int (i * j)) := iop_mul
end
theorem ite_tt {A B : Prop} {c : Bool} (hc : c = true) (h : A) : if c = true then A else B := by rw [if_pos hc]; exact h
theorem ite_ff {A B : Prop} {c : Bool} (hc : c = false) (h : B) : if c = true then A else B := by rw [hc, if_neg Bool.false_ne_true]; exact h
/-! ### calls by keywords alone -/
structure KCal (P : Program) (w : World) (K : PySem.W.Frag) (mg : Str → Option Value) (base : Heap) (k : Nat) (x : Str) (sp : Sp) (n : Nat) (ks : List Str) (gV : List V → List V → List V) : Prop where
  ex : ∃ (f : Addr) (fd : FuncData) (ps : List Str) (g : List Value → List Value → List Value), FnOk P w K mg base CX0 k f fd ps sp ∧ mg x = some (.ref f) ∧ PySem.W.keepIn K (.ref f) = true ∧
    (∀ (s : Shared) (us ws : List Value), K.In s.heap → us.length = n → ws.length = ks.length → BindsTo s fd ⟨us, ks.zip ws⟩ (ps.zip (g us ws))) ∧
    (∀ {vs : List V} {us : List Value} {zs : List V} {ws : List Value}, Vals vs us → Vals zs ws → Vals (gV vs zs) (g us ws))
def tCk (sp : Sp) (n m : Nat) (gV : List V → List V → List V) (E : XK) (t tk : TA) : TE := fun σ H Q => t σ H fun vs H1 => tk σ H1 fun zs H2 => vs.length = n ∧ zs.length = m ∧ sp (gV vs zs) H2 Q E
section
variable {X : Cx} {k j n : Nat} {x : Str} {ks : List Str} {sp : Sp} {gV : List V → List V → List V} {p pos : Pos} {e : Expr} {es : List Expr} {kws : List Keyword} {t tk : TA}
theorem run_ck {pins : List (Addr × Obj)} {σ : L2.St} {H : Hp} {s : Shared} {Q : VK} {us ws : List Value} {vs zs : List V} {f : Addr} {fd : FuncData} {ps : List Str} {g : List Value → List Value → List Value}
    (F : FnOk X.prog X.w X.K X.mg X.base CX0 k f fd ps sp) (hr : Room k X.A)
    (to : ∀ (s : Shared) (us ws : List Value), X.K.In s.heap → us.length = n → ws.length = ks.length → BindsTo s fd ⟨us, ks.zip ws⟩ (ps.zip (g us ws)))
    (rel : ∀ {vs : List V} {us : List Value} {zs : List V} {ws : List Value}, Vals vs us → Vals zs ws → Vals (gV vs zs) (g us ws))
    (I : Inv X pins σ H s) (r : Vals vs us) (rz : Vals zs ws) (l1 : vs.length = n) (l2 : zs.length = ks.length) (h : sp (gV vs zs) H Q E0) : wpAny (model X.prog X.w) X.A (call (.ref f) us (ks.zip ws)) (EP X pins σ Q) X.xe s := by
  have r2 := rel r rz
  refine wpAny_call (codeAny_mono (F.run X.A X.stack s H ⟨us, ks.zip ws⟩ (g us ws) (gV vs zs) Q E0 hr I.env0 (to s us ws I.kIn (by rw [← r.length]; exact l1) (by rw [← rz.length]; exact l2)) r2 h) fun r s' hq => ?_)
  cases r with
  | error e => exact hq.elim
  | ok fl =>
    cases fl with
    | ret u => exact I.after hq
    | next => exact False.elim hq
    | brk => exact False.elim hq
    | cont => exact False.elim hq
theorem pe_ck0 (c : KCal X.prog X.w X.K X.mg X.base k x sp 0 ks gV) (hr : Room j X.A) (hk : k ≤ j) (hg : Gl X x) (hkw : PK X kws tk)
    (hall : (backToKw pos (keywordEach kws X.env)).all (·.1.isSome) = true := by rfl) (hks : (backToKw pos (keywordEach kws X.env)).filterMap (·.1) = ks := by rfl) (hdb : (x == ("__debug__" : Str)) = false := by decide)
    (hpl : ((backTo pos (starEach [] X.env)).any (·.1) || (backToKw pos (keywordEach kws X.env)).any (·.1.isNone)) = false := by rfl) :
    PE X (.Call (.Name x p) [] kws pos) (tCk sp 0 ks.length gV E0 tNil tk) := by
  obtain ⟨f, fd, ps, g, F, hm, kp, to, rel⟩ := c.ex
  refine ⟨fun pins s σ H Q I h => ?_⟩
  refine wpAny_Call_Name_kw (ld_glob I hg hm ?_ hdb)
  refine PySem.W.callWith_KW0 (h₀ := X.base) I.ok.mod.kin kp hall ?_ hpl
  refine thn (hkw.run pos pins s σ H _ I h) fun ws s2 ⟨zs, H2, I2, rz, l1, l2, q2⟩ => ⟨I2.kIn, ?_⟩
  rw [hks]
  exact run_ck (us := []) (vs := []) F (hr.mono hk) to rel I2 .nil rz rfl l2 q2
theorem pe_ck (c : KCal X.prog X.w X.K X.mg X.base k x sp n ks gV) (hr : Room j X.A) (hk : k ≤ j) (hg : Gl X x) (ha : PA X (e :: es) t) (hkw : PK X kws tk)
    (hall : (backToKw pos (keywordEach kws X.env)).all (·.1.isSome) = true := by rfl) (hks : (backToKw pos (keywordEach kws X.env)).filterMap (·.1) = ks := by rfl) (hdb : (x == ("__debug__" : Str)) = false := by decide)
    (he : starEach (e :: es) X.env = (false, eval e X.env) :: starEach es X.env := by rfl) (hpl : ((backTo pos (starEach (e :: es) X.env)).any (·.1) || (backToKw pos (keywordEach kws X.env)).any (·.1.isNone)) = false := by rfl) :
    PE X (.Call (.Name x p) (e :: es) kws pos) (tCk sp n ks.length gV E0 t tk) := by
  obtain ⟨f, fd, ps, g, F, hm, kp, to, rel⟩ := c.ex
  refine ⟨fun pins s σ H Q I h => ?_⟩
  refine wpAny_Call_Name_kw (ld_glob I hg hm ?_ hdb)
  refine PySem.W.callWith_KW (h₀ := X.base) I.ok.mod.kin kp hall (thn (ha.run pos pins s σ H _ I h) fun us s1 ⟨vs, H1, I1, r, q⟩ => ?_) hpl he
  refine thn (hkw.run pos pins s1 σ H1 _ I1 q) fun ws s2 ⟨zs, H2, I2, rz, l1, l2, q2⟩ => ⟨I2.kIn, ?_⟩
  rw [hks]
  exact run_ck F (hr.mono hk) to rel I2 r rz l1 l2 q2
end
end My

/-! ### exceptions that are caught and kept -/
namespace My
open PySem PySem.Spec PyProof.Rows L2
/-- a caught exception that is kept: its class, its own dict -/
def ExV (cls : Value) (d : Option Addr) (a : Addr) : HO := .ext fun h => ∃ (o : Obj) (vs : Array Value), h.get? a = some o ∧ o.cls = cls ∧ o.dict = d ∧ o.data = .fields vs
section
variable {X : Cx} {pins : List (Addr × Obj)} {σ : L2.St} {H : Hp} {s : Shared}
theorem track {a : Addr} {cls : Value} {d : Option Addr} {oe : Obj} (I : Inv X pins σ H s) (he : s.heap.get? a = some oe) (hz : Zc cls d oe) (hd : ∃ vs, oe.data = .fields vs) (na : H a = none) (nL : a ≠ X.env.locals)
    (new : X.s_0.heap.get? a = none) (np : ∀ p ∈ X.pn ++ pins, p.1 ≠ a) : Inv X pins σ (upd H a (ExV cls d a)) s := by
  obtain ⟨vs, hv⟩ := hd
  have ne : ∀ {b : Addr} {o : HO}, H b = some o → b ≠ a := fun {b o} q z => by rw [z, na] at q; cases q
  refine ⟨I.ok, I.os, I.bare, ⟨I.base.keep, I.base.slot, fun b o q n hx => ?_, I.base.there, fun b xs q => ?_, fun b o u q => ?_, fun b ps q => ?_⟩, I.loc, I.cell, ?_, fun x c e => ?_, fun p hp => ?_, fun b o q => ?_, I.len⟩
  · have nb : b ≠ a := fun z => by rw [z, new] at q; cases q
    rw [upd_ne nb]
    exact I.base.free b o q n hx
  · have := I.base.tups b xs q
    rw [upd_ne (ne this)]; exact this
  · have := I.base.frzs b o u q
    rw [upd_ne (ne this)]; exact this
  · obtain ⟨m, this⟩ := I.base.tbls b ps q
    exact ⟨m, by rw [upd_ne (ne this)]; exact this⟩
  · rw [upd_ne nL.symm]; exact I.free
  · have nc : c ≠ a := fun z => by
      obtain ⟨v, o, ho, hdt⟩ := I.cell x c e
      rw [z, he] at ho
      cases ho
      rw [hv] at hdt
      cases hdt
    rw [upd_ne nc]; exact I.freeC x c e
  · obtain ⟨p1, p2, p3⟩ := I.pin p hp
    exact ⟨p1, by rw [upd_ne (np p hp)]; exact p2, p3⟩
  · by_cases hb : b = a
    · subst hb
      rw [upd_same] at q
      cases q
      exact ⟨⟨oe, vs, he, hz.1, hz.2, hv⟩, ⟨oe, he⟩, fun h1 h2 ⟨o, vs', e1, e2⟩ k => ⟨o, vs', k _ e1, e2⟩⟩
    · rw [upd_ne hb] at q
      exact (I.hok b o q).stay (fun _ _ _ z => z) (fun c z => by rw [upd_ne (ne z)]; exact z) fun c xs z => by rw [upd_ne (ne z)]; exact z
end
/-- the ends of a suite that keeps its exception: its name goes, the exception stays tracked -/
def DKeep (i : Nat) (a : Addr) (cls : Value) (d : Option Addr) (D : Ends) : Ends :=
  { nx := fun σ' H' => H' a = none → D.nx (σ'.set i none) (upd H' a (ExV cls d a)), rt := fun _ _ => False, bk := fun _ _ => False, ct := fun _ _ => False }
/-- what the clauses «except c as n: suite» wish of an exception, one after the other; n in slot i -/
def wKeep (K : PySem.W.Frag) (i : Nat) (Wout : WX) (D : Ends) : List (Value × (Addr → Value → Option Addr → TS)) → WX
  | [] => Wout
  | (c, ts) :: r => fun cls d σ H => ∃ b, PySem.W.exmOne K cls c = some b ∧ (b = true → ∀ a, H a = none → ts a cls d (DKeep i a cls d D) (σ.set i (some (.ref a))) H) ∧ (b = false → wKeep K i Wout D r cls d σ H)
inductive HdsKeep (X : Cx) (n : Str) : List ExceptHandler → List (Value × (Addr → Value → Option Addr → TS)) → Prop
  | nil : HdsKeep X n [] []
  | cons {x : Str} {c : Value} {ts : Addr → Value → Option Addr → TS} {b₀ : Stmt} {suite : List Stmt} {np pos' : Pos} {hds : List ExceptHandler} {l : List (Value × (Addr → Value → Option Addr → TS))} (hc : Names X x c)
      (hsu : ∀ (a : Addr) (oe : Obj) (cls : Value) (d : Option Addr) (pn : List (Addr × Obj)), PSs (X.suite a ((a, oe) :: pn)) (b₀ :: suite) (ts a cls d)) (r : HdsKeep X n hds l) :
      HdsKeep X n (.ExceptHandler (some (.Name x np)) (some n) (b₀ :: suite) pos' :: hds) ((c, ts) :: l)
section
variable {X : Cx} {n : Str} {i : Nat} {body : List Stmt} {h₀ : ExceptHandler} {hds : List ExceptHandler} {l : List (Value × (Addr → Value → Option Addr → TS))} {pos : Pos} {tb : WX → TS} {Wout : WX}
theorem ps_try_keep (hs : X.stack = X.env :: X.outer) (hf : X.env.frame = some X.env.locals) (hex : X.ex = []) (hN : X.N.Nodup) (hi : X.N[i]? = some n) (hln : X.env.kindOf n = some .local) (tk : Takes X Wout)
    (hb : ∀ (W : WX) (pn : List (Addr × Obj)) (xe : Value → Shared → Prop), Takes (X.tr pn xe) W → PassesOwn (model X.prog X.w) X.A X.env xe → PSs (X.tr pn xe) body (tb W))
    (hh : HdsKeep X n (h₀ :: hds) l) : PS X (.Try body (h₀ :: hds) [] [] pos) (fun D σ H => tb (wKeep X.K i Wout D l) D σ H) := by
  refine ⟨fun pins s σ H D I h => ?_⟩
  have ok := I.ok
  have hfr : X.A.frames = some (X.env :: X.outer) := by rw [ok.frames, hs]
  have hloc : Loc X.env.scope n := .inl hln
  refine wpAny_Try_except ?_
  refine wpAny_mono ((hb (wKeep X.K i Wout D l) (X.pn ++ pins) (fun e s₁ => wpAny (model X.prog X.w) X.A (noteFrame e X.env) (fun _ s₂ => wpAny (model X.prog X.w) X.A (setFlight e none) (fun _ s₃ =>
    wpAny (model X.prog X.w) X.A (handleBy e X.env (h₀ :: hds)) (SP X pins D) X.xe s₃) X.xe s₂) X.xe s₁) (fun u s' xx => ?_) PassesOwn.looking).run [] s σ H D (I.toTry _) h) (fun f s1 hsp => ?_) (fun _ _ z => z)
  · obtain ⟨a, B, sI, pins', σ', H', cls, d, rfl, J', nb, up, sky, na, os, ag, w⟩ := xx
    have J : Inv X pins σ' H' sI := J'.ofTry ok
    have sky' : Sky B (X.env :: X.outer) a (Zc cls d) X.env.locals s'.heap := by rw [← hs]; exact sky
    show wpAny (model X.prog X.w) X.A (noteFrame (.ref a) X.env) _ _ _
    refine Sky.land Zc.steady hfr hf sky' fun h3 fl3 up3 => ?_
    have J3 : Inv X pins σ' H' { s' with heap := h3 } := J.landed nb fl3.1 (up.trans up3) os ag
    obtain ⟨oe3, vs3, he3, hz3, hd3⟩ := fl3.there
    have Ba : B.get? a = none := fl3.2.1
    have nfr : a ∉ frs (X.env :: X.outer) := fun hm => by
      obtain ⟨_, o', e', hnf⟩ := (fl3.2.2.1).mem hm
      rw [he3] at e'; cases e'
      exact hnf _ hd3
    have nL : a ≠ X.env.locals := fun z => nfr (List.mem_filterMap.mpr ⟨X.env, List.mem_cons_self, by rw [hf, z]⟩)
    have nF : a ∉ X.fs := fun hm => by
      obtain ⟨e, he, q⟩ := List.mem_filterMap.mp hm
      exact nfr (List.mem_filterMap.mpr ⟨e, List.mem_cons_of_mem _ he, q⟩)
    have notI : sI.heap.get? a = none := by
      cases e : sI.heap.get? a with
      | none => rfl
      | some o =>
        have := nb a o e (by rw [hs]; exact nfr)
        rw [Ba] at this; cases this
    have new0 : X.s_0.heap.get? a = none := by
      cases e : X.s_0.heap.get? a with
      | none => rfl
      | some o =>
        obtain ⟨o', q⟩ := J.base.there a o e (by rw [hex]; simp)
        rw [notI] at q; cases q
    have np : ∀ p ∈ X.pn ++ pins, p.1 ≠ a := fun p hp z => by
      have q := (J.pin p hp).1
      rw [z, notI] at q; cases q
    have S3 := J3.suite he3 hd3 na nL nF
    have go : ∀ {hds' : List ExceptHandler} {l' : List (Value × (Addr → Value → Option Addr → TS))}, HdsKeep X n hds' l' → wKeep X.K i Wout D l' cls d σ' H' →
        wpAny (model X.prog X.w) X.A (handleBy (.ref a) X.env hds') (SP X pins D) X.xe { s' with heap := h3 } := by
      intro hds' l' hk
      induction hk with
      | nil =>
        intro w
        refine wpAny_handleBy_nil ?_
        obtain ⟨k1, k2, k3, oe, vs, T, oT, ts', he, hz, hd, h1, hr⟩ := id fl3
        unfold PySem.passOn
        refine wpAny_bind (wpAny_field he hd h1 ?_)
        rw [if_neg (show ¬ ((Value.ref T == Value.none) = true) from by simp)]
        have fin : wpAny (model X.prog X.w) X.A (setFlight (.ref a) X.env.frame) (fun _ s4 => wpAny (model X.prog X.w) X.A (throw (.ref a) : Sem Flow) (SP X pins D) X.xe s4) X.xe { s' with heap := h3 } := by
          rw [hf]
          refine HandSPX.setFlight_upZ fl3 fun h4 hh4 up4 => wpAny_throw (tk _ _ ?_)
          exact ⟨a, B, sI, pins, σ', H', cls, d, rfl, J, nb, (up.trans up3).trans up4, .inr (.inr (by rw [hs]; exact hh4)), na, os, ag, w⟩
        first
          | exact wpAny_bind (wpAny_pure (wpAny_bind fin))
          | exact wpAny_bind fin
      | @cons x c ts b₀ suite np' pos' hds2 l2 hc hsu r ih =>
        intro w
        obtain ⟨b, hb1, hyes, hno⟩ := w
        refine wpAny_handleBy_cons (codeAny_handlers_test ?_) (by intro q; cases q)
        have LT : PySem.W.Looks (model X.prog X.w) h3 (typeOf (.ref a)) cls := fun A Q E s k q => wpAny_typeOf_ref (k _ _ he3) (by rw [hz3.1]; exact q)
        have LM := PySem.W.exm_one (M := model X.prog X.w) (J3.kIn) LT hb1
        have test : ∀ {Q : Value → Shared → Prop} {E : Value → Shared → Prop}, Q c { s' with heap := h3 } → wpAny (model X.prog X.w) (X.A.mark (some (.ref a))) (eval (.Name x np') X.env) Q E { s' with heap := h3 } := fun {Q E} q => by
          obtain ⟨hg, hdbg, hm | ⟨hm, hv, hnn⟩⟩ := hc
          · exact ld_glob (X := X.suite a ((a, oe3) :: (X.pn ++ pins))) S3 hg hm q hdbg
          · exact ld_blt (X := X.suite a ((a, oe3) :: (X.pn ++ pins))) S3 hg hm hv q hnn hdbg
        refine test (LM.here ?_)
        cases b with
        | true =>
          refine codeAny_handlers_suite_as ?_
          refine HandSPX.lands_againZ fl3 fun h4 fl4 up4 => ?_
          have J4 : Inv X pins σ' H' { s' with heap := h4 } := J.landed nb fl4.1 ((up.trans up3).trans up4) os ag
          obtain ⟨oe4, vs4, he4, hz4, hd4⟩ := fl4.there
          have S4 := J4.suite he4 hd4 na nL nF
          refine store_ok (X := X.suite a ((a, oe4) :: (X.pn ++ pins))) (v := .ref a) S4 hN hi hloc rfl (fun s5 S5 => ?_) (.inr hln)
          refine wpAny_mono ((hsu a oe4 cls d (X.pn ++ pins)).run [] s5 _ H' _ S5 (hyes rfl a na)) (fun f s6 hsp => ?_) (fun _ _ z => False.elim z)
          cases f with
          | next =>
            obtain ⟨σ6, H6, S6, q6⟩ := hsp
            obtain ⟨pa, pb, _⟩ := S6.pin (a, oe4) (List.mem_append_left _ List.mem_cons_self)
            exact gone_ok (track (S6.unsuite ok) pa hz4 ⟨_, hd4⟩ pb nL new0 np) hN hi hln fun s7 J7 => ⟨_, _, J7, q6 pb⟩
          | brk =>
            obtain ⟨σ6, H6, S6, q6⟩ := hsp
            exact False.elim q6
          | cont =>
            obtain ⟨σ6, H6, S6, q6⟩ := hsp
            exact False.elim q6
          | ret u =>
            obtain ⟨v6, σ6, H6, S6, r6, q6⟩ := hsp
            exact False.elim q6
        | false =>
          show wpAny _ X.A (handleBy (.ref a) X.env hds2) _ _ _
          exact ih (hno rfl)
    exact go hh w
  · cases f with
    | next =>
      obtain ⟨σ', H', J', q⟩ := hsp
      exact wpAny_execs_nil ⟨σ', H', J'.ofTry ok, q⟩
    | brk =>
      obtain ⟨σ', H', J', q⟩ := hsp
      exact ⟨σ', H', J'.ofTry ok, q⟩
    | cont =>
      obtain ⟨σ', H', J', q⟩ := hsp
      exact ⟨σ', H', J'.ofTry ok, q⟩
    | ret u =>
      obtain ⟨v, σ', H', J', r, q⟩ := hsp
      exact ⟨v, σ', H', J'.ofTry ok, r, q⟩
end
end My

/-! ### isinstance of a kept exception, its field -/
namespace My
open PySem PySem.Spec PySem.Calls PyProof.Rows
open PySem.W in
theorem kept_class {prog : Program} {w : World} {A : Around} {E : Value → Shared → Prop} {s : Shared} {K : Frag} {x D : Addr} {ox : Obj} {od : Option Obj} {Q : Option Value → Shared → Prop} (hga : findIn K (.ref D) "__getattribute__" = some (some (.builtin "BaseException.__getattribute__"))) (hgt : findIn K (.ref D) "__getattr__" = some none)
    (hsub : subIn K (.ref D) (.type "BaseException") = some true) (hdct : hasDictIn K D = true) (ha : findIn K (.ref D) "__class__" = some (some (.builtin "object.__class__"))) (hn : specialIn K (.builtin "object.__class__") "__get__" = some (some (.builtin "getset_descriptor.__get__")))
    (htk : takesIn K (.builtin "object.__class__") = some true) (hm : mroIn K D (.type "object") = some true) (X : K.In s.heap) (I : InstAt s.heap x ox D od) (h : Q (some (.ref D)) { s with toks := s.toks + 1 }) : wpAny (model prog w) A (getAttr? (.ref x) "__class__") Q E s := by
  have hf : findObj K D od "__class__" = some (.bind (.builtin "getset_descriptor.__get__") (.builtin "object.__class__")) := by
    obtain ⟨cd, hc, _⟩ := any_some hdct
    unfold findObj
    rw [hc, Option.bind_some, ha, Option.bind_some]
    simp [hn, htk]
  obtain ⟨hp, g, d, t, os⟩ := s
  have L0 := I.type (M := model prog w)
  have L1 := looks_findIn (M := model prog w) X hga
  have L2 := looks_findIn (M := model prog w) X hgt
  have L3 := looks_find (M := model prog w) X I hf
  have sub : Looks (model prog w) hp (isInstance (.ref x) (.type "BaseException")) true := L0.andThen (looks_subIn X hsub)
  have hx0 : (false && onTheHeap (Value.builtin "BaseException.__getattribute__")) = false := rfl
  have hx2 : (Value.builtin "BaseException.__getattribute__" == Value.builtin "object.__getattribute__") = false := by decide +kernel
  have hx1 : (onTheHeap (Value.ref D) && Value.builtin "BaseException.__getattribute__" == Value.builtin "object.__getattribute__") = false := by rw [hx2]; rfl
  unfold getAttr? getAttrBy? getAttrBy
  refine wpAny_bind (wpAny_mkText (wpAny_bind (wpAny_attempt (wpAny_holding (wpAny_bind (L0.at (wpAny_bind (L1.at ?_))))))))
  show wpAny _ _ (if (onTheHeap (Value.ref D) && Value.builtin "BaseException.__getattribute__" == Value.builtin "object.__getattribute__") = true then _ else _) _ _ _
  rw [hx1, if_neg Bool.false_ne_true]
  unfold getAttrByItsOwn hookBefore
  refine wpAny_bind ?_
  rw [if_pos (show onTheHeap (Value.ref D) = true from rfl)]
  refine L2.at ?_
  refine wpAny_bind (wpAny_attempt (wpAny_holding ?_))
  unfold callGetattribute
  rw [hx0, if_neg Bool.false_ne_true]
  unfold boundAndCalled
  rw [PySem.F.excAttr_ValueError.ga.bind (.ref x)]
  refine wpAny_bind (wpAny_pure ?_)
  show wpAny _ _ (call (.builtin "BaseException.__getattribute__") [.ref x, .str "__class__" t]) _ _ _
  refine wpAny_call (codeAny_call_builtin PySem.F.excAttr_ValueError.ga.plain PySem.F.entry_bexc_ga ?_)
  refine @check_slot (model prog w) _ _ ⟨hp, g, d, t + 1, os⟩ "BaseException.__getattribute__" "BaseException" "__getattribute__" (.ref x) [.str "__class__" t] [] _ (by decide +kernel) (by decide +kernel) sub (PySem.F.args_bexc_ga (.ref x) (.str "__class__" t)) ?_
  unfold Builtin.«object.__getattribute__»
  refine wpAny_bind (wpAny_of_eq (a := ((Value.ref x : Value), [Value.str "__class__" t])) (by first | rfl | (simp only [slotArgs]; rfl)) ?_)
  refine wpAny_bind (wpAny_pure (wpAny_bind (L0.at (wpAny_bind (L3.at ?_)))))
  show wpAny _ _ (holding [Value.builtin "object.__class__"] (call (.builtin "getset_descriptor.__get__") [.builtin "object.__class__", .ref x, .ref D]) >>= ret) _ _ _
  refine wpAny_bind (wpAny_holding (wpAny_call (class_get (s := ⟨hp, g, d, t + 1, os⟩) (ox := ox) (od := od) X I hm ?_)))
  refine wpAny_pure ?_
  show wpAny _ _ (handedOut (.ref D)) _ _ _
  rw [handedOut_of (v := .ref D) rfl]
  first
    | exact wpAny_pure (wpAny_pure h)
    | exact wpAny_pure h
    | exact wpAny_pure (wpAny_bind (wpAny_pure (wpAny_pure h)))
open PySem.W in
theorem kept_kit {K : Frag} {x D : Addr} {ox : Obj} {od : Option Obj} (hga : findIn K (.ref D) "__getattribute__" = some (some (.builtin "BaseException.__getattribute__"))) (hgt : findIn K (.ref D) "__getattr__" = some none) (hsub : subIn K (.ref D) (.type "BaseException") = some true) (hdct : hasDictIn K D = true)
    (ha : findIn K (.ref D) "__class__" = some (some (.builtin "object.__class__"))) (hn : specialIn K (.builtin "object.__class__") "__get__" = some (some (.builtin "getset_descriptor.__get__"))) (htk : takesIn K (.builtin "object.__class__") = some true) (hm : mroIn K D (.type "object") = some true) :
    KitX K (.ref x) (.ref D) (fun h => InstAt h x ox D od) where
  ty := fun _ _ _ I => I.type
  it := fun _ _ X _ => by
    obtain ⟨cdD, hcD, _⟩ := any_some hdct
    unfold clsIn at hcD
    split at hcD
    · rename_i c' d' cd' sl' ho
      intro A' Q' E' s' k q
      unfold isType loadHead
      exact wpAny_bind (wpAny_loadPart (k _ _ (X _ _ ho)) (wpAny_pure q))
    · cases hcD
  ne := fun h tp dd its n sl X htp => by
    obtain ⟨cdD, hcD, _⟩ := any_some hdct
    refine Bool.eq_false_iff.mpr fun q => ?_
    have e : D = tp := Value.ref.inj (beq_iff_eq.mp q)
    subst e
    unfold clsIn at hcD
    split at hcD
    · rename_i c' d' cd' sl' ho
      have z := (X _ _ ho).symm.trans htp
      cases z
    · cases hcD
  ca := fun X I k => kept_class hga hgt hsub hdct ha hn htk hm X I k
open L2
/-- a kept exception of the class at D; its dict, if it has one, is tracked -/
def Kept (H : Hp) (a D : Addr) (d : Option Addr) : Prop := H a = some (ExV (.ref D) d a) ∧ (d = none ∨ ∃ dd fs, d = some dd ∧ H dd = some (.xd fs))
section
variable {X : Cx} {pins : List (Addr × Obj)} {σ : L2.St} {H : Hp} {s : Shared}
theorem Kept.inst {a D : Addr} {d : Option Addr} (h : Kept H a D d) (I : Inv X pins σ H s) : ∃ ox od, PySem.W.InstAt s.heap a ox D od ∧ ox.dict = d := by
  obtain ⟨hk, hd⟩ := h
  obtain ⟨⟨o, vs, ho, hc, hdict, hdat⟩, _⟩ := (show ObjOk X.prog X.w H s.heap a (ExV (.ref D) d a) from I.hok a _ hk)
  obtain ⟨oc, ood, oda, osl⟩ := o
  dsimp only at hc hdict hdat
  subst hc hdict hdat
  rcases hd with rfl | ⟨dd, fs, rfl, hdd⟩
  · exact ⟨_, none, ⟨ho, rfl, rfl, trivial⟩, rfl⟩
  · obtain ⟨mA, hns, _⟩ := (show ObjOk X.prog X.w H s.heap dd (.xd fs) from I.hok dd _ hdd)
    obtain ⟨od, ho2, _⟩ := lookIn_ns hns
    exact ⟨_, some od, ⟨ho, rfl, rfl, ho2⟩, rfl⟩
end
/-- isinstance(e, c), e kept -/
def rIsK (K : PySem.W.Frag) : List V → Hp → VK → Prop := fun xs H Q => ∃ (a D : Addr) (d : Option Addr) (c : V) (u : Value) (b : Bool), xs = [.ref a, c] ∧ Kept H a D d ∧ ExcC K D ∧ ClsV c u ∧ PySem.W.kitOne K (.ref D) u = some b ∧ Q (.bl b) H
theorem call_isK {X : Cx} : CallR X (.builtin "isinstance") (rIsK X.K) := by
  intro pins s σ H xs us Q I r h
  obtain ⟨a, D, d, c, u, b, rfl, hk, C, hc, e, q⟩ := h
  obtain ⟨u1, u2, rfl, r1, r2⟩ := vals2 r
  have e2 := hc.eq r2
  subst e2
  obtain rfl : u1 = Value.ref a := r1
  obtain ⟨ox, od, J, _⟩ := hk.inst I
  exact PySem.W.kia_one (kept_kit C.hg C.hk C.hs C.hd C.ha C.hn C.ht C.hm) I.kIn J e (fun z => nomatch z) fun tk => ⟨.bl b, H, I.tok tk, rfl, q⟩
/-- isinstance(x, c), x a value of the layer or a kept exception -/
theorem call_isA {X : Cx} : CallR X (.builtin "isinstance") (fun xs H Q => rIsi X.K xs H Q ∨ rIsK X.K xs H Q) := CallR.or call_isi call_isK
/-- e.f, e kept -/
def tKFld (K : PySem.W.Frag) (te : TE) (f : Str) : TE := fun σ H Q => te σ H fun x H1 => ∃ (a D dd : Addr) (fs : List (Str × V)) (v : V), x = .ref a ∧ H1 a = some (ExV (.ref D) (some dd) a) ∧ H1 dd = some (.xd fs) ∧ ExcC K D ∧ PySem.W.findIn K (.ref D) f = some none ∧ fs.lookup f = some v ∧ Q v H1
theorem pe_kf {X : Cx} {e : Expr} {te : TE} {f : Str} {pos : Pos} (he : PE X e te) (hb : attributeBase e f X.env (eval e X.env) = eval e X.env := by rfl) : PE X (.Attribute e f pos) (tKFld X.K te f) := by
  refine ⟨fun pins s σ H Q I h => ?_⟩
  refine attr_of hb (thn (he.run pins s σ H _ I h) fun u s1 hh => ?_)
  obtain ⟨x, H1, I1, rx, a, D, dd, fs, v, rfl, ha, hdd, C, hno, hl, q⟩ := hh
  obtain rfl : u = Value.ref a := rx
  obtain ⟨ox, od, J, hdict⟩ := Kept.inst (D := D) (d := some dd) ⟨ha, .inr ⟨dd, fs, rfl, hdd⟩⟩ I1
  have hx : ObjOk X.prog X.w H1 s1.heap dd (.xd fs) := I1.hok dd _ hdd
  obtain ⟨mA, hns, hr⟩ := hx
  obtain ⟨od2, ho2, hlk⟩ := lookIn_ns hns
  obtain ⟨w', hu, ru⟩ := RelO.some_of (v := v) (o := mA f) (by rw [← hl]; exact hr f)
  have J2 : PySem.W.InstAt s1.heap a ox D (some od2) := ⟨J.at_, J.cls, J.no, by rw [hdict]; exact ho2⟩
  exact HandSPX.exc_get I1.kIn J2 C.hg C.hk C.hs (PySem.W.findObj_own C.hd hno rfl (by rw [hlk, hu])) (handed_of ru) ⟨v, H1, I1.tok _, ru, q⟩
end My

/-! ### calls of defs that may raise -/
namespace My
open PySem PySem.Spec PyProof.Rows L2
structure CalX (P : Program) (w : World) (K : PySem.W.Frag) (mg : Str → Option Value) (base : Heap) (k : Nat) (x : Str) (sp : Sp) : Prop where
  ex : ∃ (f : Addr) (fd : FuncData) (ps : List Str), FnOk P w K mg base (L2.CX P w) k f fd ps sp ∧ mg x = some (.ref f) ∧ PySem.W.keepIn K (.ref f) = true ∧ Binds K fd ps []
structure KCalX (P : Program) (w : World) (K : PySem.W.Frag) (mg : Str → Option Value) (base : Heap) (k : Nat) (x : Str) (sp : Sp) (n : Nat) (ks : List Str) (gV : List V → List V → List V) : Prop where
  ex : ∃ (f : Addr) (fd : FuncData) (ps : List Str) (g : List Value → List Value → List Value), FnOk P w K mg base (L2.CX P w) k f fd ps sp ∧ mg x = some (.ref f) ∧ PySem.W.keepIn K (.ref f) = true ∧
    (∀ (s : Shared) (us ws : List Value), K.In s.heap → us.length = n → ws.length = ks.length → BindsTo s fd ⟨us, ks.zip ws⟩ (ps.zip (g us ws))) ∧
    (∀ {vs : List V} {us : List Value} {zs : List V} {ws : List Value}, Vals vs us → Vals zs ws → Vals (gV vs zs) (g us ws))
section
variable {X : Cx} {k j n : Nat} {x : Str} {ks : List Str} {sp : Sp} {E : L2.St → XK} {gV : List V → List V → List V} {p pos : Pos} {e : Expr} {es : List Expr} {kws : List Keyword} {t tk : TA}
/-- it raises nothing here -/
theorem pe_cX (c : CalX X.prog X.w X.K X.mg X.base k x sp) (hr : Room j X.A) (hk : k ≤ j) (hg : Gl X x) (ha : PA X (e :: es) t)
    (hdb : (x == ("__debug__" : Str)) = false := by decide) (he : starEach (e :: es) X.env = (false, eval e X.env) :: starEach es X.env := by rfl) (hpl : (backTo pos (starEach es X.env)).any (·.1) = false := by rfl) :
    PE X (.Call (.Name x p) (e :: es) [] pos) (tCall sp [] E0 t) := by
  obtain ⟨f, fd, ps, F, hm, kp, b⟩ := c.ex
  exact pe_call F (hr.mono hk) hg hm kp b .nil passL ha hdb he hpl
/-- within a try's body -/
theorem pe_cS (c : CalX X.prog X.w X.K X.mg X.base k x sp) (hr : Room j X.A) (hk : k ≤ j) (hg : Gl X x) (hx : ∀ σ, PassesAt (L2.CX X.prog X.w) X σ (E σ)) (ha : PA X (e :: es) t)
    (hdb : (x == ("__debug__" : Str)) = false := by decide) (he : starEach (e :: es) X.env = (false, eval e X.env) :: starEach es X.env := by rfl) (hpl : (backTo pos (starEach es X.env)).any (·.1) = false := by rfl) :
    PE X (.Call (.Name x p) (e :: es) [] pos) (tCallS sp E t) := by
  obtain ⟨f, fd, ps, F, hm, kp, b⟩ := c.ex
  exact pe_callS F (hr.mono hk) hg hm kp b hx ha hdb he hpl
def tCkS (sp : Sp) (n m : Nat) (gV : List V → List V → List V) (E : L2.St → XK) (t tk : TA) : TE := fun σ H Q => t σ H fun vs H1 => tk σ H1 fun zs H2 => vs.length = n ∧ zs.length = m ∧ sp (gV vs zs) H2 Q (E σ)
theorem run_ckS {pins : List (Addr × Obj)} {σ : L2.St} {H : Hp} {s : Shared} {Q : VK} {us ws : List Value} {vs zs : List V} {f : Addr} {fd : FuncData} {ps : List Str} {g : List Value → List Value → List Value} {E1 : XK}
    (F : FnOk X.prog X.w X.K X.mg X.base (L2.CX X.prog X.w) k f fd ps sp) (hr : Room k X.A)
    (to : ∀ (s : Shared) (us ws : List Value), X.K.In s.heap → us.length = n → ws.length = ks.length → BindsTo s fd ⟨us, ks.zip ws⟩ (ps.zip (g us ws)))
    (rel : ∀ {vs : List V} {us : List Value} {zs : List V} {ws : List Value}, Vals vs us → Vals zs ws → Vals (gV vs zs) (g us ws)) (hx : PassesAt (L2.CX X.prog X.w) X σ E1)
    (I : Inv X pins σ H s) (r : Vals vs us) (rz : Vals zs ws) (l1 : vs.length = n) (l2 : zs.length = ks.length) (h : sp (gV vs zs) H Q E1) : wpAny (model X.prog X.w) X.A (call (.ref f) us (ks.zip ws)) (EP X pins σ Q) X.xe s := by
  have r2 := rel r rz
  refine wpAny_call (codeAny_mono (F.run X.A X.stack s H ⟨us, ks.zip ws⟩ (g us ws) (gV vs zs) Q E1 hr I.env0 (to s us ws I.kIn (by rw [← r.length]; exact l1) (by rw [← rz.length]; exact l2)) r2 h) fun r s' hq => ?_)
  cases r with
  | error e => exact hx pins H s e s' I hq
  | ok fl =>
    cases fl with
    | ret u => exact I.after hq
    | next => exact False.elim hq
    | brk => exact False.elim hq
    | cont => exact False.elim hq
theorem pe_ck0S (c : KCalX X.prog X.w X.K X.mg X.base k x sp 0 ks gV) (hr : Room j X.A) (hk : k ≤ j) (hg : Gl X x) (hx : ∀ σ, PassesAt (L2.CX X.prog X.w) X σ (E σ)) (hkw : PK X kws tk)
    (hall : (backToKw pos (keywordEach kws X.env)).all (·.1.isSome) = true := by rfl) (hks : (backToKw pos (keywordEach kws X.env)).filterMap (·.1) = ks := by rfl) (hdb : (x == ("__debug__" : Str)) = false := by decide)
    (hpl : ((backTo pos (starEach [] X.env)).any (·.1) || (backToKw pos (keywordEach kws X.env)).any (·.1.isNone)) = false := by rfl) :
    PE X (.Call (.Name x p) [] kws pos) (tCkS sp 0 ks.length gV E tNil tk) := by
  obtain ⟨f, fd, ps, g, F, hm, kp, to, rel⟩ := c.ex
  refine ⟨fun pins s σ H Q I h => ?_⟩
  refine wpAny_Call_Name_kw (ld_glob I hg hm ?_ hdb)
  refine PySem.W.callWith_KW0 (h₀ := X.base) I.ok.mod.kin kp hall ?_ hpl
  refine thn (hkw.run pos pins s σ H _ I h) fun ws s2 ⟨zs, H2, I2, rz, l1, l2, q2⟩ => ⟨I2.kIn, ?_⟩
  rw [hks]
  exact run_ckS (us := []) (vs := []) F (hr.mono hk) to rel (hx σ) I2 .nil rz rfl l2 q2
theorem pe_ck0X (c : KCalX X.prog X.w X.K X.mg X.base k x sp 0 ks gV) (hr : Room j X.A) (hk : k ≤ j) (hg : Gl X x) (hkw : PK X kws tk)
    (hall : (backToKw pos (keywordEach kws X.env)).all (·.1.isSome) = true := by rfl) (hks : (backToKw pos (keywordEach kws X.env)).filterMap (·.1) = ks := by rfl) (hdb : (x == ("__debug__" : Str)) = false := by decide)
    (hpl : ((backTo pos (starEach [] X.env)).any (·.1) || (backToKw pos (keywordEach kws X.env)).any (·.1.isNone)) = false := by rfl) :
    PE X (.Call (.Name x p) [] kws pos) (tCkS sp 0 ks.length gV (fun _ => E0) tNil tk) := by
  exact pe_ck0S c hr hk hg (fun σ pins H s e s' I h => passL pins σ H s e s' I h) hkw hall hks hdb hpl
end
/-! ### classes of errors: what the top has written of them -/
/-- a class that stands in an except clause or behind isinstance -/
structure ClsF (K : PySem.W.Frag) (C : Addr) : Prop where
  i : PySem.W.isClsIn K C = true
  t : PySem.W.typeIn K (.ref C) = some (.type "type")
theorem kit_of_sub {K : PySem.W.Frag} {t : Value} {C : Addr} {b : Bool} (c : ClsF K C) (s : PySem.W.subIn K t (.ref C) = some b) (n : (t == Value.ref C) = false) : PySem.W.kitOne K t (.ref C) = some b := by
  have e2 : ((PySem.W.clsIn K C).isSome && PySem.W.typeIn K (.ref C) == some (.type "type")) = true := by
    rw [show (PySem.W.clsIn K C).isSome = true from c.i, c.t] <;> rfl
  show (if (t == Value.ref C) = true then some true else if ((PySem.W.clsIn K C).isSome && PySem.W.typeIn K (.ref C) == some (.type "type")) = true then PySem.W.subIn K t (.ref C) else none) = some b
  rw [if_neg (by rw [n]; exact Bool.false_ne_true), if_pos e2]
  exact s
theorem kit_self {K : PySem.W.Frag} {C : Addr} : PySem.W.kitOne K (.ref C) (.ref C) = some true := by
  show (if (Value.ref C == Value.ref C) = true then some true else _) = some true
  rw [if_pos (by simp)]
theorem kit_none {K : PySem.W.Frag} {C : Addr} (c : ClsF K C) (s : PySem.W.subIn K (.type "NoneType") (.ref C) = some false) : PySem.W.kitOne K (.type "NoneType") (.ref C) = some false := kit_of_sub c s rfl
theorem exm_of_sub {K : PySem.W.Frag} {t : Value} {C : Addr} {b : Bool} (c : ClsF K C) (be : PySem.W.subIn K (.ref C) (.type "BaseException") = some true) (s : PySem.W.subIn K t (.ref C) = some b) : PySem.W.exmOne K t (.ref C) = some b := by
  have e2 : ((PySem.W.clsIn K C).isSome && PySem.W.typeIn K (.ref C) == some (.type "type")) = true := by
    rw [show (PySem.W.clsIn K C).isSome = true from c.i, c.t] <;> rfl
  have e1 : (PySem.W.subIn K (.ref C) (.type "BaseException") == some true) = true := by rw [be] <;> rfl
  show (if (PySem.W.subIn K (.ref C) (.type "BaseException") == some true) = true then (if ((PySem.W.clsIn K C).isSome && PySem.W.typeIn K (.ref C) == some (.type "type")) = true then PySem.W.subIn K t (.ref C) else none) else none) = some b
  rw [if_pos e1, if_pos e2]
  exact s
end My

/-! ### own exception classes with an __init__: made by a keyword -/
namespace My
open PySem PySem.W PySem.Calls PyProof.Rows PySem.HandSPX
section
variable {M : Model} {A : Around} {E : Value → Shared → Prop} {h : Heap} {g : Array GenState} {d : Drawn} {t : Nat} {os : OsState}
variable {nm q : Str} {C N : Addr} {bs bm bmB : List Value} {hdct : Bool} {sn : List Str} {sub : List Value} {ab : Bool} {col : Option Bool} {dd : Option Addr} {k0 k1 k2 k3 k5 : Option Value} {B newId initId : String} {kn : Str} {kv : Value}
theorem check_new_ownK (F : ExcBaseFacts B newId initId bmB) (hT : ∀ X : String, bm.contains (.type X) = bmB.contains (.type X)) {rest : List Value} {Q : Unit → Shared → Prop}
    (hC : h.get? C = some (excClassObj nm q C N bs bm hdct sn sub ab col dd k0 k1 k2 k3 k5 newId)) (hq : Q () ⟨h, g, d, t, os⟩) : wpAny M A (checkBuiltinCall newId ⟨.ref C :: rest, [(kn, kv)]⟩) Q E ⟨h, g, d, t, os⟩ := by
  have hcont : (Value.ref C :: bm).contains (.type B) = true := by rw [List.contains_cons, hT, F.hasB, Bool.or_true]
  have hstar := F.noStar
  simp only [checkBuiltinCall, F.newKind, F.newSplit, F.newRow]
  repeat (first | refine wpAny_loadPart_at hC ?_ | (refine wpAny_isSubtype_exc hC ?_; rw [hcont]) | refine wpAny_staticBase_exc hC ?_ | refine wpAny_madeBy_exc hC ?_ | simp only [bne_self_eq_false, Bool.false_eq_true, if_false] | wp_step)
  exact hq
end
section
variable {prog : Program} {w : World} {A : Around} {E : Value → Shared → Prop} {R : Result → Shared → Prop} {h : Heap} {g : Array GenState} {d : Drawn} {t : Nat} {os : OsState}
variable {nm q : Str} {C N : Addr} {bs bm bmB : List Value} {hdct : Bool} {sn : List Str} {sub : List Value} {ab : Bool} {col : Option Bool} {dd : Option Addr} {k0 k1 k2 k3 k5 : Option Value} {B newId initId : String} {kn : Str} {kv : Value}
theorem new_ownK (F : ExcBaseFacts B newId initId bmB) (hT : ∀ X : String, bm.contains (.type X) = bmB.contains (.type X)) {rest : List Value}
    (hC : h.get? C = some (excClassObj nm q C N bs bm hdct sn sub ab col dd k0 k1 k2 k3 k5 newId))
    (hq : R (.ok (.ret (.ref (h.objs.size + 1)))) ⟨(h.push { cls := .type "tuple", data := .seq rest.toArray }).push
      { cls := .ref C, data := .fields #[.ref h.objs.size, .none, .none, .none, .bool false, .none] }, g, d, t, os⟩) (hrest : rest.length ≤ sizeLine) :
    codeAny (model prog w) A (.builtin newId ⟨.ref C :: rest, [(kn, kv)]⟩) R ⟨h, g, d, t, os⟩ := by
  have hends := F.ends
  have hcB : (Value.ref C :: bm).contains (.type B) = true := by rw [List.contains_cons, hT, F.hasB, Bool.or_true]
  have hcA : (Value.ref C :: bm).contains (.type "AttributeError") = false := by rw [List.contains_cons, hT, F.noAttr]; rfl
  have hcN : (Value.ref C :: bm).contains (.type "NameError") = false := by rw [List.contains_cons, hT, F.noName]; rfl
  refine codeAny_builtinAt F.entry ?_
  unfold Builtin.«BaseException.__new__»
  refine PySem.wpAt_bind ?_
  show PySem.wpAt _ _ _ (stack >>= _) _ _ _
  refine PySem.wpAt_bind (PySem.wpAt_stack fun p below => PySem.wpAt_of_wpAny ?_)
  wp_walk
  refine PySem.wpAt_of_wpAny ?_
  rw [F.owner]
  repeat (first | with_reducible refine wpAny_madeHere_exc F.canon hC ?_ | with_reducible refine wpAny_loadPart_at hC ?_ | (with_reducible refine wpAny_isSubtype_exc hC ?_; first | rw [hcB] | rw [hcA] | rw [hcN]) | wp_step)
  show R _ _
  rw [Heap.size_push]
  exact hq
theorem type_call_ownK (F : ExcBaseFacts B newId initId bmB) (hT : ∀ X : String, bm.contains (.type X) = bmB.contains (.type X)) {rest : List Value} {fI : Addr} {Q : Fin → Shared → Prop}
    (hC : h.get? C = some (excClassObj nm q C N bs bm hdct sn sub ab col dd k0 k1 k2 k3 k5 newId))
    (hi : W.Looks (model prog w) h (typeLookup (.ref C) "__init__") (some (.ref fI))) (hb : ∀ self, W.Looks (model prog w) h (bindSpecial (.ref fI) self) (.ref fI, [self])) (hrest : rest.length ≤ sizeLine)
    (hq : codeAny (model prog w) A (.call (.ref fI) ⟨.ref (h.objs.size + 1) :: rest, [(kn, kv)]⟩)
      (fun r s' => match r with | .ok (.ret v) => v = .none ∧ Q (.done (.ret (.ref (h.objs.size + 1)))) s' | .ok _ => False | .error e => E e s')
      ⟨(h.push (W.kdv_tup rest)).push (excO C h.objs.size), g, d, t, os⟩) :
    wpAny (model prog w) A (Builtin.«type.__call__» ⟨.ref C :: rest, [(kn, kv)]⟩) Q E ⟨h, g, d, t, os⟩ := by
  repeat (first | with_reducible refine wpAny_loadPart_at hC ?_ | with_reducible refine wpAny_madeBy_exc hC ?_ | wp_step)
  refine codeAny_call_builtin_code (Code.quiet_builtin _ F.quiet) (check_new_ownK F hT hC ?_)
  refine new_ownK F hT hC ?_ hrest
  show wpAny _ _ _ _ _ _
  have k : ∀ b o, h.get? b = some o → ((h.push (W.kdv_tup rest)).push (excO C h.objs.size)).get? b = some o := fun b o e => Heap.get?_push_of_some _ (Heap.get?_push_of_some _ e)
  have hC₁ := k _ _ hC
  have hget : ((h.push (W.kdv_tup rest)).push (excO C h.objs.size)).get? (h.objs.size + 1) = some (excO C h.objs.size) := by heap_get
  have hcC : (Value.ref C :: bm).contains (.ref C) = true := by simp
  have i1 := hi.keeps k
  have b1 := (hb (.ref (h.objs.size + 1))).keeps k
  unfold isInstance
  repeat (first | with_reducible refine wpAny_loadPart_at hget ?_ | (with_reducible refine wpAny_isSubtype_exc hC₁ ?_; rw [hcC]) | wp_step)
  show wpAny _ _ (typeLookup (.ref C) _) _ _ _
  refine i1.at ?_
  refine wpAny_holding (wpAny_bind (b1.at ?_))
  refine wpAny_bind (wpAny_call (codeAny_mono hq fun r s' z => ?_))
  rcases r with e | (v | _ | _ | _) <;> first | exact z | exact z.elim | skip
  obtain ⟨rfl, z⟩ := z
  first
    | exact wpAny_pure (wpAny_pure z)
    | (wp_walk; exact z)
theorem check_type_call_subK {M : Model} {rest : List Value} {E : Value → Shared → Prop} {Q : Unit → Shared → Prop} (hC : h.get? C = some (excClassObj nm q C N bs bm hdct sn sub ab col dd k0 k1 k2 k3 k5 newId))
    (hq : Q () ⟨h, g, d, t, os⟩) : wpAny M A (checkBuiltinCall "type.__call__" ⟨.ref C :: rest, [(kn, kv)]⟩) Q E ⟨h, g, d, t, os⟩ := by
  have f3 := tc_sub
  have hT : (⟨h, g, d, t, os⟩ : Shared).TypeIs (.ref C) "type" := ⟨_, hC, rfl⟩
  simp only [checkBuiltinCall, tc_kind, tc_split]
  repeat (any_goals (first | assumption | with_reducible refine wpAny_loadPart_at hC ?_ | with_reducible refine wpAny_onRaise ?_ | with_reducible refine wpAny_map ?_ | wp_step))
theorem call_ownK (F : ExcBaseFacts B newId initId bmB) (hT : ∀ X : String, bm.contains (.type X) = bmB.contains (.type X)) {rest : List Value} {fI : Addr}
    (hC : h.get? C = some (excClassObj nm q C N bs bm hdct sn sub ab col dd k0 k1 k2 k3 k5 newId))
    (hi : W.Looks (model prog w) h (typeLookup (.ref C) "__init__") (some (.ref fI))) (hb : ∀ self, W.Looks (model prog w) h (bindSpecial (.ref fI) self) (.ref fI, [self])) (hrest : rest.length ≤ sizeLine)
    (hq : codeAny (model prog w) (A.under (.builtin "type.__call__" ⟨.ref C :: rest, [(kn, kv)]⟩)) (.call (.ref fI) ⟨.ref (h.objs.size + 1) :: rest, [(kn, kv)]⟩) (W.InitBack (h.objs.size + 1) R)
      ⟨(h.push (W.kdv_tup rest)).push (excO C h.objs.size), g, d, t, os⟩) :
    codeAny (model prog w) A (.call (.ref C) ⟨rest, [(kn, kv)]⟩) R ⟨h, g, d, t, os⟩ := by
  have f1 := tc_lookup
  have f2 := tc_bind (.ref C)
  have hTy : (⟨h, g, d, t, os⟩ : Shared).TypeIs (.ref C) "type" := ⟨_, hC, rfl⟩
  refine codeAny_of_tree ?_
  show wpAny _ _ (callAny (.ref C) _) _ _ _
  repeat (any_goals (first | assumption | with_reducible refine wpAny_loadPart_at hC ?_ | wp_step))
  refine ⟨rfl, ?_⟩
  refine codeAny_call_builtin_at (Code.quiet_builtin _ (by decide +kernel)) entry_typeCall (check_type_call_subK hC (type_call_ownK F hT hC hi hb hrest ?_))
  refine codeAny_mono hq fun r s' z => ?_
  rcases r with e | (v | _ | _ | _) <;> exact z
end
end My

namespace My
open PySem PySem.Spec PyProof.Rows L2
/-- K(self, ..) of an own class whose __init__ is a builtin's -/
structure Ini (K : PySem.W.Frag) (R : Addr) : Prop where
  r : PySem.W.readsIn (mc := .type "type") K R = true
  f : PySem.W.findCls K (.ref R) (.type "type") "__init__" = some (.val (.builtin "ValueError.__init__"))
  g : PySem.W.specialIn K (.ref R) "__getattribute__" = some (some (.builtin "type.__getattribute__"))
section
variable {X : Cx} {e : Expr} {es : List Expr} {ta : TA} {x : Str} {p p' p1 p2 pos : Pos}
theorem pe_reinit {R : Addr} {pl : Sem Bool} (hg : Gl X x) (hm : X.mg x = some (.ref R)) (hi : Ini X.K R) (ha : PA X (e :: es) ta)
    (hc : eval (.Call (.Attribute (.Name x p1) "__init__" p2) (e :: es) [] pos) X.env = (do
      let ov ← eval (.Name x p1) X.env
      standAt p2.atName
      let (f, first) ← holding [ov] (getMethod ov "__init__" pl)
      callWith pos f first (backTo pos (starEach (e :: es) X.env)) (backToKw pos (keywordEach [] X.env))) := by rfl)
    (hdb : (x == ("__debug__" : Str)) = false := by decide)
    (he : starEach (e :: es) X.env = (false, eval e X.env) :: starEach es X.env := by rfl) (hpl : (backTo pos (starEach es X.env)).any (·.1) = false := by rfl) :
    PE X (.Call (.Attribute (.Name x p1) "__init__" p2) (e :: es) [] pos) (tVeI X.K ta) := by
  refine ⟨fun pins s σ H Q I h => ?_⟩
  refine PySem.W.methodCall_KW (ld_glob I hg hm ?_ hdb) hc
  refine PySem.W.method_cls I.kIn hi.g ?_
  refine PySem.W.cls_value I.kIn hi.r hi.f (by decide +kernel) ?_
  show wpAny _ _ (callWith pos (Value.builtin "ValueError.__init__") [] (backTo pos (starEach (e :: es) X.env)) []) _ _ _
  refine PyProof.Rows.callWith_method1 (thn (ha.run pos pins _ σ H _ (I.tok _) h) fun us s1 ⟨vs, H1, I1, r1, a, C, ws, ev, hl, T, ea, q⟩ => ?_) he hpl
  subst ev
  cases r1 with
  | @cons _ u0 _ ur ra rw' =>
    obtain rfl : u0 = Value.ref a := ra
    have hlen : ur.length ≤ sizeLine := by
      rw [← Paired.length rw', sizeLine_eq]
      omega
    exact oinit_ok T I1 ea hlen fun s' J => ⟨.non, H1, J, rfl, q⟩
/-- what is left of C(..), C's own __init__ kept sp: all from sp's answer on -/
def MkEnd (C : Addr) (H1 : Hp) (a : Addr) (Q : XK) : VK := fun v H2 => v = .non ∧ ∃ (d : Addr) (fs : List (Str × V)), H2 a = some (exo a C (some d)) ∧ H2 d = some (exd d fs) ∧ H1 d = none ∧ Q (.ref C) (some d) (upd (del H2 a) d (.xd fs))
theorem pmk_oex0 {CX : CXT} {x : Str} {C fI : Addr} {k : Nat} {fd : FuncData} {ps : List Str} {sp : Sp} {ds : List Value} {dvs : List V} (T : OexC X.K C) (iC : PySem.W.findIn X.K (.ref C) "__init__" = some (some (.ref fI))) (tI : PySem.W.typeIn X.K (.ref fI) = some (.type "function"))
    (F1 : FnOk X.prog X.w X.K X.mg X.base CX k fI fd ps sp) (hr : Room (k + 1) X.A) (hb : Binds X.K fd ps ds) (hd : Vals dvs ds) (hx : Passes CX X (fun _ _ _ => False)) (hg : Gl X x) (hm : X.mg x = some (.ref C))
    (hdb : (x == ("__debug__" : Str)) = false := by decide) :
    PMk X (.Call (.Name x p) [] [] pos) (fun _ H1 Q => ∀ a, H1 a = none → sp (.ref a :: dvs) (upd H1 a (exo a C none)) (MkEnd C H1 a Q) (fun _ _ _ => False)) := by
  intro pins s σ H1 Q I1 q1
  obtain ⟨nm, q, N, bs, bm, sn, sub, ab, col, dd, k0, k1, k2, k3, k5, hC, hbm⟩ := T.cls
  refine wpAny_Call_Name_kw (ld_glob I1 hg hm ?_ hdb)
  refine PySem.W.callWith_K0 I1.kIn T.kC ?_
  show wpAny _ _ (call (.ref C) []) _ _ _
  obtain ⟨hp, g, dr, tk, os⟩ := s
  have hsz : hp.objs.size ≤ hp.objs.size + 1 := Nat.le_succ _
  have hn : H1 (hp.objs.size + 1) = none := I1.hok.fresh hsz
  have hq := q1 (hp.objs.size + 1) hn
  have kk : ∀ b o, hp.get? b = some o → ((hp.push (PySem.W.kdv_tup [])).push (PySem.HandSPX.excO C hp.objs.size)).get? b = some o := fun b o e => Heap.get?_push_of_some _ (Heap.get?_push_of_some _ e)
  have hget : ((hp.push (PySem.W.kdv_tup [])).push (PySem.HandSPX.excO C hp.objs.size)).get? (hp.objs.size + 1) = some (PySem.HandSPX.excO C hp.objs.size) := by heap_get
  have I2 : Inv X pins σ (upd H1 (hp.objs.size + 1) (exo (hp.objs.size + 1) C none)) ⟨(hp.push (PySem.W.kdv_tup [])).push (PySem.HandSPX.excO C hp.objs.size), g, dr, tk, os⟩ :=
    I1.laid (t' := tk) (a := hp.objs.size + 1) (o := exo (hp.objs.size + 1) C none) (h' := (hp.push (PySem.W.kdv_tup [])).push (PySem.HandSPX.excO C hp.objs.size)) kk hsz (exo_ok hget)
  have r2 : Vals (V.ref (hp.objs.size + 1) :: dvs) (Value.ref (hp.objs.size + 1) :: ds) := .cons rfl hd
  have hl : (Value.ref (hp.objs.size + 1) :: [] ++ ds).length = ps.length := by
    have e := r2.length
    rw [F1.len _ _ _ _ hq] at e
    exact e.symm
  refine wpAny_call (PySem.HandSPX.call_own F.excBase_ValueError (fun Y => PySem.HandSPX.refsVE_contains Y bm hbm) (I1.kIn _ _ hC) (PySem.W.looks_findIn I1.kIn iC) (fun self => PySem.W.bind_fn I1.kIn self tI) (Nat.zero_le _)
    (codeAny_mono (F1.run _ X.stack _ _ ⟨[Value.ref (hp.objs.size + 1)], []⟩ (Value.ref (hp.objs.size + 1) :: ds) _ _ (fun _ _ _ => False) (hr.make C [] []) (I2.env0.make C [] []) (hb _ [Value.ref (hp.objs.size + 1)] I2.kIn hl) r2 hq) fun r s' hq' => ?_))
  cases r with
  | error er => exact hx pins σ _ _ er s' I2 hq'
  | ok fl =>
    cases fl with
    | ret u =>
      obtain ⟨v, H2, os2, bare2, un2, hok2, rv, ev, d, fs, ea, ed, hd1, q2⟩ := hq'
      subst ev
      obtain ⟨h2, g2, d2, t2, os'⟩ := s'
      exact ⟨rv, mk_end (raises_own T.exC T.tyC) I1 hsz kk un2 hok2 os2 bare2 ea ed hd1 q2⟩
    | next => exact False.elim hq'
    | brk => exact False.elim hq'
    | cont => exact False.elim hq'
theorem pmk_oexK {CX : CXT} {x kn : Str} {C fI : Addr} {k : Nat} {fd : FuncData} {ps : List Str} {sp : Sp} {kws : List Keyword} {tk : TA} {R : V → Hp → XK → Prop} (T : OexC X.K C) (iC : PySem.W.findIn X.K (.ref C) "__init__" = some (some (.ref fI))) (tI : PySem.W.typeIn X.K (.ref fI) = some (.type "function"))
    (F1 : FnOk X.prog X.w X.K X.mg X.base CX k fI fd ps sp) (hr : Room (k + 1) X.A) (hb : ∀ (s : Shared) (u v : Value), X.K.In s.heap → BindsTo s fd ⟨[u], [(kn, v)]⟩ (ps.zip [u, v])) (hx : Passes CX X (fun _ _ _ => False)) (hR : ∀ z H1 Q, R z H1 Q → ∀ a, H1 a = none → sp [.ref a, z] (upd H1 a (exo a C none)) (MkEnd C H1 a Q) (fun _ _ _ => False)) (hg : Gl X x) (hm : X.mg x = some (.ref C))
    (hkw : PK X kws tk) (hall : (backToKw pos (keywordEach kws X.env)).all (·.1.isSome) = true := by rfl) (hks : (backToKw pos (keywordEach kws X.env)).filterMap (·.1) = [kn] := by rfl) (hdb : (x == ("__debug__" : Str)) = false := by decide)
    (hpl : ((backTo pos (starEach [] X.env)).any (·.1) || (backToKw pos (keywordEach kws X.env)).any (·.1.isNone)) = false := by rfl) :
    PMk X (.Call (.Name x p) [] kws pos) (fun σ H Q => tk σ H fun zs H1 => ∃ z, zs = [z] ∧ R z H1 Q) := by
  intro pins s0 σ H0 Q I0 q0
  obtain ⟨nm, q, N, bs, bm, sn, sub, ab, col, dd, k0, k1, k2, k3, k5, hC, hbm⟩ := T.cls
  refine wpAny_Call_Name_kw (ld_glob I0 hg hm ?_ hdb)
  refine PySem.W.callWith_KW0 (h₀ := X.base) I0.ok.mod.kin T.kC hall ?_ hpl
  refine thn (hkw.run pos pins s0 σ H0 _ I0 q0) fun ws s ⟨zs, H1, I1, rz, z, ez, q1⟩ => ⟨I1.kIn, ?_⟩
  subst ez
  have q1 := hR z H1 Q q1
  cases rz with
  | @cons _ u _ ur ru rn =>
  cases rn
  rw [hks]
  show wpAny _ _ (call (.ref C) [] [(kn, u)]) _ _ _
  obtain ⟨hp, g, dr, tk, os⟩ := s
  have hsz : hp.objs.size ≤ hp.objs.size + 1 := Nat.le_succ _
  have hn : H1 (hp.objs.size + 1) = none := I1.hok.fresh hsz
  have hq := q1 (hp.objs.size + 1) hn
  have kk : ∀ b o, hp.get? b = some o → ((hp.push (PySem.W.kdv_tup [])).push (PySem.HandSPX.excO C hp.objs.size)).get? b = some o := fun b o e => Heap.get?_push_of_some _ (Heap.get?_push_of_some _ e)
  have hget : ((hp.push (PySem.W.kdv_tup [])).push (PySem.HandSPX.excO C hp.objs.size)).get? (hp.objs.size + 1) = some (PySem.HandSPX.excO C hp.objs.size) := by heap_get
  have I2 : Inv X pins σ (upd H1 (hp.objs.size + 1) (exo (hp.objs.size + 1) C none)) ⟨(hp.push (PySem.W.kdv_tup [])).push (PySem.HandSPX.excO C hp.objs.size), g, dr, tk, os⟩ :=
    I1.laid (t' := tk) (a := hp.objs.size + 1) (o := exo (hp.objs.size + 1) C none) (h' := (hp.push (PySem.W.kdv_tup [])).push (PySem.HandSPX.excO C hp.objs.size)) kk hsz (exo_ok hget)
  have r2 : Vals [V.ref (hp.objs.size + 1), z] [Value.ref (hp.objs.size + 1), u] := .cons rfl (.cons ru .nil)
  refine wpAny_call (call_ownK F.excBase_ValueError (fun Y => PySem.HandSPX.refsVE_contains Y bm hbm) (I1.kIn _ _ hC) (PySem.W.looks_findIn I1.kIn iC) (fun self => PySem.W.bind_fn I1.kIn self tI) (Nat.zero_le _)
    (codeAny_mono (F1.run _ X.stack _ _ ⟨[Value.ref (hp.objs.size + 1)], [(kn, u)]⟩ [Value.ref (hp.objs.size + 1), u] _ _ (fun _ _ _ => False) (hr.make C [] [(kn, u)]) (I2.env0.make C [] [(kn, u)]) (hb _ _ _ I2.kIn) r2 hq) fun r s' hq' => ?_))
  cases r with
  | error er => exact hx pins σ _ _ er s' I2 hq'
  | ok fl =>
    cases fl with
    | ret u =>
      obtain ⟨v, H2, os2, bare2, un2, hok2, rv, ev, d, fs, ea, ed, hd1, q2⟩ := hq'
      subst ev
      obtain ⟨h2, g2, d2, t2, os'⟩ := s'
      exact ⟨rv, mk_end (raises_own T.exC T.tyC) I1 hsz kk un2 hok2 os2 bare2 ea ed hd1 q2⟩
    | next => exact False.elim hq'
    | brk => exact False.elim hq'
    | cont => exact False.elim hq'
end
end My

namespace My
open PySem PySem.Spec PyProof.Rows L2
/-- C.__init__(self, v): the base's __init__, self.kn = v -/
def sp_Ini (K : PySem.W.Frag) (kn : Str) : Sp := fun vs H Q _ => ∃ (a C : Addr) (v : V), vs = [.ref a, v] ∧ OexC K C ∧ PySem.W.findIn K (.ref C) kn = some none ∧ H a = some (exo a C none) ∧
  ∀ dx, H dx = none → dx ≠ a → Q .non (upd (upd H dx (exd dx [(kn, v)])) a (exo a C (some dx)))
structure IniCal (P : Program) (w : World) (K : PySem.W.Frag) (mg : Str → Option Value) (base : Heap) (k : Nat) (x : Str) (C : Addr) (kn : Str) (dv : V) : Prop where
  oex : OexC K C
  hm : mg x = some (.ref C)
  no : PySem.W.findIn K (.ref C) kn = some none
  ex : ∃ (fI : Addr) (fd : FuncData) (ps : List Str) (ds : List Value), FnOk P w K mg base CX0 k fI fd ps (sp_Ini K kn) ∧ PySem.W.findIn K (.ref C) "__init__" = some (some (.ref fI)) ∧ PySem.W.typeIn K (.ref fI) = some (.type "function") ∧ Binds K fd ps ds ∧ Vals [dv] ds ∧
    ∀ (s : Shared) (u v : Value), K.In s.heap → BindsTo s fd ⟨[u], [(kn, v)]⟩ (ps.zip [u, v])
section
variable {X : Cx} {x kn : Str} {C : Addr} {k j : Nat} {dv : V} {kws : List Keyword} {tk : TA} {p pos : Pos}
theorem ini_end {K : PySem.W.Frag} {H1 : Hp} {a : Addr} {z : V} {Q : XK} {E : XK} (o : OexC K C) (no : PySem.W.findIn K (.ref C) kn = some none) (ha : H1 a = none) (q : ∀ d H', Same H1 H' → H1 d = none → H' d = some (.xd [(kn, z)]) → Q (.ref C) (some d) H') :
    sp_Ini K kn [.ref a, z] (upd H1 a (exo a C none)) (MkEnd C H1 a Q) E := by
  refine ⟨a, C, z, rfl, o, no, upd_same, fun dx n ne => ⟨rfl, dx, [(kn, z)], upd_same, ?_, ?_, ?_⟩⟩
  · rw [upd_ne ne, upd_same]
  · rw [upd_ne ne] at n; exact n
  · rw [upd_ne ne] at n
    refine q dx _ (fun b u hb => ?_) n upd_same
    rw [upd_ne (ne_of_none hb n), del_ne (ne_of_none hb ha), upd_ne (ne_of_none hb ha), upd_ne (ne_of_none hb n), upd_ne (ne_of_none hb ha)]
    exact hb
/-- C() -/
theorem pmk_np0 (c : IniCal X.prog X.w X.K X.mg X.base k x C kn dv) (hr : Room j X.A) (hk : k + 1 ≤ j) (hg : Gl X x) (hdb : (x == ("__debug__" : Str)) = false := by decide) :
    PMk X (.Call (.Name x p) [] [] pos) (fun _ H Q => ∀ d H', Same H H' → H d = none → H' d = some (.xd [(kn, dv)]) → Q (.ref C) (some d) H') := by
  obtain ⟨fI, fd, ps, ds, F, i, t, b, v, _⟩ := c.ex
  intro pins s σ H Q I q
  exact pmk_oex0 c.oex i t F (hr.mono hk) b v pass0 hg c.hm hdb pins s σ H Q I fun a ha => ini_end c.oex c.no ha q
/-- C(kn=e) -/
theorem pmk_npK (c : IniCal X.prog X.w X.K X.mg X.base k x C kn dv) (hr : Room j X.A) (hk : k + 1 ≤ j) (hg : Gl X x) (hkw : PK X kws tk)
    (hall : (backToKw pos (keywordEach kws X.env)).all (·.1.isSome) = true := by rfl) (hks : (backToKw pos (keywordEach kws X.env)).filterMap (·.1) = [kn] := by rfl) (hdb : (x == ("__debug__" : Str)) = false := by decide)
    (hpl : ((backTo pos (starEach [] X.env)).any (·.1) || (backToKw pos (keywordEach kws X.env)).any (·.1.isNone)) = false := by rfl) :
    PMk X (.Call (.Name x p) [] kws pos) (fun σ H Q => tk σ H fun zs H1 => ∃ z, zs = [z] ∧ ∀ d H', Same H1 H' → H1 d = none → H' d = some (.xd [(kn, z)]) → Q (.ref C) (some d) H') := by
  obtain ⟨fI, fd, ps, ds, F, i, t, b, v, bk⟩ := c.ex
  exact pmk_oexK c.oex i t F (hr.mono hk) bk pass0 (fun z H1 Q q a ha => ini_end c.oex c.no ha q) hg c.hm hkw hall hks hdb hpl
end
end My

/-! ### fractions, in plain Lean -/
namespace My
/-- the lowest form of a fraction: what its top and its bottom become -/
def sg (b : Int) : Int := if b < 0 then -1 else 1
def shr (t b : Int) : Int := sg b * (Int.gcd t b : Nat)
def lowT (t b : Int) : Int := t.fdiv (shr t b)
def lowB (t b : Int) : Int := b.fdiv (shr t b)
theorem gcd_pos {t b : Int} (hb : b ≠ 0) : 0 < Int.gcd t b := Int.gcd_pos_of_ne_zero_right t hb
theorem sg_sq (b : Int) : sg b * sg b = 1 := by unfold sg; split <;> rfl
theorem shr_ne {t b : Int} (hb : b ≠ 0) : shr t b ≠ 0 := by
  have h := gcd_pos (t := t) hb
  unfold shr sg
  split <;> omega
theorem shr_dvd_t (t b : Int) : shr t b ∣ t := by
  unfold shr sg
  split
  · rw [Int.neg_mul, Int.one_mul, Int.neg_dvd]; exact Int.gcd_dvd_left t b
  · rw [Int.one_mul]; exact Int.gcd_dvd_left t b
theorem shr_dvd_b (t b : Int) : shr t b ∣ b := by
  unfold shr sg
  split
  · rw [Int.neg_mul, Int.one_mul, Int.neg_dvd]; exact Int.gcd_dvd_right t b
  · rw [Int.one_mul]; exact Int.gcd_dvd_right t b
theorem low_t {t b : Int} (hb : b ≠ 0) : lowT t b * shr t b = t := by
  unfold lowT
  rw [Int.fdiv_eq_ediv_of_dvd (shr_dvd_t t b)]
  exact Int.ediv_mul_cancel (shr_dvd_t t b)
theorem low_b {t b : Int} (hb : b ≠ 0) : lowB t b * shr t b = b := by
  unfold lowB
  rw [Int.fdiv_eq_ediv_of_dvd (shr_dvd_b t b)]
  exact Int.ediv_mul_cancel (shr_dvd_b t b)
theorem shr_abs {t b : Int} : (shr t b).natAbs = Int.gcd t b := by
  unfold shr sg
  split <;> simp
theorem lowB_pos {t b : Int} (hb : b ≠ 0) : 0 < lowB t b := by
  have h := low_b (t := t) hb
  have g := gcd_pos (t := t) hb
  unfold shr sg at h
  split at h
  · rename_i hneg
    rcases Int.lt_trichotomy 0 (lowB t b) with h1 | h1 | h1
    · exact h1
    · rw [← h1] at h; simp at h; omega
    · exfalso
      have : 0 < lowB t b * (-1 * (Int.gcd t b : Int)) := by
        rw [Int.neg_mul, Int.one_mul]
        exact Int.mul_pos_of_neg_of_neg h1 (by omega)
      omega
  · rename_i hpos
    rcases Int.lt_trichotomy 0 (lowB t b) with h1 | h1 | h1
    · exact h1
    · rw [← h1] at h; simp at h; omega
    · exfalso
      have : lowB t b * (1 * (Int.gcd t b : Int)) < 0 := by
        rw [Int.one_mul]
        exact Int.mul_neg_of_neg_of_pos h1 (by omega)
      omega
theorem lowT_abs {t b : Int} (hb : b ≠ 0) : (lowT t b).natAbs ≤ t.natAbs := by
  have h := congrArg Int.natAbs (low_t (t := t) hb)
  rw [Int.natAbs_mul, shr_abs] at h
  have g := gcd_pos (t := t) hb
  rw [← h]
  exact Nat.le_mul_of_pos_right _ g
theorem lowB_abs {t b : Int} (hb : b ≠ 0) : (lowB t b).natAbs ≤ b.natAbs := by
  have h := congrArg Int.natAbs (low_b (t := t) hb)
  rw [Int.natAbs_mul, shr_abs] at h
  have g := gcd_pos (t := t) hb
  rw [← h]
  exact Nat.le_mul_of_pos_right _ g
theorem low_coprime {t b : Int} (hb : b ≠ 0) : Int.gcd (lowT t b) (lowB t b) = 1 := by
  have g := gcd_pos (t := t) hb
  have h : Int.gcd (lowT t b * shr t b) (lowB t b * shr t b) = Int.gcd t b := by rw [low_t hb, low_b hb]
  rw [Int.gcd_mul_right, shr_abs] at h
  exact Nat.eq_of_mul_eq_mul_right g (by omega)
theorem dvd_of_mul {a b d : Int} (g : Int.gcd a b = 1) (h : b ∣ a * d) : b ∣ d := by
  have h1 : b.natAbs ∣ a.natAbs * d.natAbs := by rw [← Int.natAbs_mul]; exact Int.natAbs_dvd_natAbs.mpr h
  have c : Nat.Coprime b.natAbs a.natAbs := by
    have g' : Nat.gcd a.natAbs b.natAbs = 1 := g
    show Nat.gcd b.natAbs a.natAbs = 1
    rw [Nat.gcd_comm]; exact g'
  exact Int.natAbs_dvd_natAbs.mp (c.dvd_of_dvd_mul_left h1)
/-- a lowest form is told by its worth -/
theorem lowest_eq {a b c d : Int} (hb : 0 < b) (hd : 0 < d) (g1 : Int.gcd a b = 1) (g2 : Int.gcd c d = 1) (h : a * d = c * b) : a = c ∧ b = d := by
  have e1 : b ∣ d := by
    have : b ∣ a * d := by rw [h]; exact Int.dvd_mul_left c b
    exact dvd_of_mul g1 this
  have e2 : d ∣ b := by
    have : d ∣ c * b := by rw [← h]; exact Int.dvd_mul_left a d
    exact dvd_of_mul g2 this
  have e : b = d := Int.dvd_antisymm (by omega) (by omega) e1 e2
  subst e
  exact ⟨Int.eq_of_mul_eq_mul_right (by omega) h, rfl⟩
theorem low_unique {t b c d : Int} (hb : b ≠ 0) (hd : 0 < d) (g : Int.gcd c d = 1) (h : t * d = c * b) : lowT t b = c ∧ lowB t b = d := by
  refine lowest_eq (lowB_pos hb) hd (low_coprime hb) g ?_
  have n := shr_ne (t := t) hb
  have h1 := low_t (t := t) hb
  have h2 := low_b (t := t) hb
  apply Int.eq_of_mul_eq_mul_right n
  calc lowT t b * d * shr t b = (lowT t b * shr t b) * d := by rw [Int.mul_right_comm]
    _ = t * d := by rw [h1]
    _ = c * b := h
    _ = c * (lowB t b * shr t b) := by rw [h2]
    _ = c * lowB t b * shr t b := by rw [Int.mul_assoc]
theorem low_congr {t b c d : Int} (hb : b ≠ 0) (hd : d ≠ 0) (h : t * d = c * b) : lowT t b = lowT c d ∧ lowB t b = lowB c d := by
  refine low_unique hb (lowB_pos hd) (low_coprime hd) ?_
  have n := shr_ne (t := c) hd
  apply Int.eq_of_mul_eq_mul_right n
  have h1 := low_t (t := c) hd
  have h2 := low_b (t := c) hd
  calc t * lowB c d * shr c d = t * (lowB c d * shr c d) := Int.mul_assoc _ _ _
    _ = t * d := by rw [h2]
    _ = c * b := h
    _ = (lowT c d * shr c d) * b := by rw [h1]
    _ = lowT c d * b * shr c d := by rw [Int.mul_right_comm]
theorem low_id {t b : Int} (hb : 0 < b) (g : Int.gcd t b = 1) : lowT t b = t ∧ lowB t b = b := low_unique (by omega) hb g (by rw [])
end My

/-! ### bare parts and whole roots, in plain Lean -/
namespace My
/-- no square of 2 and more divides d -/
def SF (d : Nat) : Prop := ∀ p, 2 ≤ p → ¬ p * p ∣ d
def NoDiv (f r : Nat) : Prop := ∀ p, 2 ≤ p → p < f → ¬ p ∣ r
theorem sf_one : SF 1 := fun p hp h => by
  have := Nat.le_of_dvd (by decide) h
  have : 4 ≤ p * p := Nat.mul_le_mul hp hp
  omega
theorem sq_dvd_parts {p a b : Nat} (c : Nat.Coprime a b) (h : p * p ∣ a * b) : ∃ g k, p = g * k ∧ g * g ∣ a ∧ k * k ∣ b := by
  have h1 : p ∣ a * b := Nat.dvd_trans (Nat.dvd_mul_right p p) h
  have e : p = Nat.gcd p a * Nat.gcd p b := by
    rw [← Nat.Coprime.gcd_mul p c]
    exact (Nat.gcd_eq_left h1).symm
  refine ⟨Nat.gcd p a, Nat.gcd p b, e, ?_, ?_⟩
  · have c1 : Nat.Coprime (Nat.gcd p a * Nat.gcd p a) b := by
      have : Nat.Coprime (Nat.gcd p a) b := Nat.Coprime.coprime_dvd_left (Nat.gcd_dvd_right p a) c
      exact Nat.Coprime.mul_left this this
    have d1 : Nat.gcd p a * Nat.gcd p a ∣ a * b := Nat.dvd_trans (Nat.mul_dvd_mul (Nat.gcd_dvd_left p a) (Nat.gcd_dvd_left p a)) h
    exact c1.dvd_of_dvd_mul_right d1
  · have c1 : Nat.Coprime (Nat.gcd p b * Nat.gcd p b) a := by
      have : Nat.Coprime (Nat.gcd p b) a := Nat.Coprime.coprime_dvd_left (Nat.gcd_dvd_right p b) c.symm
      exact Nat.Coprime.mul_left this this
    have d1 : Nat.gcd p b * Nat.gcd p b ∣ a * b := Nat.dvd_trans (Nat.mul_dvd_mul (Nat.gcd_dvd_left p b) (Nat.gcd_dvd_left p b)) h
    exact c1.dvd_of_dvd_mul_left d1
theorem sf_mul {a b : Nat} (c : Nat.Coprime a b) (ha : SF a) (hb : SF b) : SF (a * b) := fun p hp h => by
  obtain ⟨g, k, e, hg, hk⟩ := sq_dvd_parts c h
  have g2 : g < 2 := Nat.lt_of_not_le fun z => ha g z hg
  have k2 : k < 2 := Nat.lt_of_not_le fun z => hb k z hk
  have : g * k ≤ 1 * 1 := Nat.mul_le_mul (by omega) (by omega)
  omega
/-- the state of the search: all below f is taken out of n -/
structure BI (n f found rest : Nat) : Prop where
  eq : ∃ k, n = found * rest * (k * k)
  sf : SF found
  co : Nat.Coprime found rest
  nd : NoDiv f rest
  r0 : 0 < rest
theorem bi_start {n : Nat} (h : 0 < n) : BI n 2 1 n := ⟨⟨1, by simp⟩, sf_one, Nat.coprime_one_left n, fun p h1 h2 => by omega, h⟩
theorem bi_sq {n f found rest : Nat} (hf : 2 ≤ f) (h : BI n f found rest) (d : f * f ∣ rest) : BI n f found (rest / (f * f)) := by
  obtain ⟨q, rfl⟩ := d
  have f0 : 0 < f * f := Nat.mul_pos (by omega) (by omega)
  rw [Nat.mul_div_cancel_left q f0]
  obtain ⟨k, hk⟩ := h.eq
  refine ⟨⟨k * f, ?_⟩, h.sf, Nat.Coprime.coprime_dvd_right (Nat.dvd_mul_left q (f * f)) h.co, fun p h1 h2 z => h.nd p h1 h2 (Nat.dvd_trans z (Nat.dvd_mul_left q (f * f))), ?_⟩
  · rw [hk]
    simp only [Nat.mul_assoc, Nat.mul_left_comm, Nat.mul_comm]
  · have := h.r0
    exact Nat.pos_of_mul_pos_left this
theorem nodiv_up {f r : Nat} (h : NoDiv f r) (d : ¬ f ∣ r) : NoDiv (f + 1) r := fun p h1 h2 => by
  by_cases e : p = f
  · rw [e]; exact d
  · exact h p h1 (by omega)
/-- what divides nothing below it has no square within -/
theorem sf_of_nodiv {f r : Nat} (_hf : 2 ≤ f) (h : NoDiv f r) (d : f ∣ r) : SF f := fun p hp z => by
  have p1 : p ∣ f := Nat.dvd_trans (Nat.dvd_mul_right p p) z
  have f0 : 0 < f := by omega
  have le : p * p ≤ f := Nat.le_of_dvd f0 z
  have lt : p < f := by
    have : p * 2 ≤ p * p := Nat.mul_le_mul_left p hp
    omega
  exact h p hp lt (Nat.dvd_trans p1 d)
theorem co_of_nodiv {f r q : Nat} (h : NoDiv f r) (hr : f ∣ r) (d : ¬ f ∣ q) (f0 : 0 < f) : Nat.Coprime f q := by
  have g1 : Nat.gcd f q ∣ f := Nat.gcd_dvd_left f q
  have g2 : Nat.gcd f q ∣ q := Nat.gcd_dvd_right f q
  have gp : 0 < Nat.gcd f q := Nat.gcd_pos_of_pos_left q f0
  show Nat.gcd f q = 1
  rcases Nat.lt_or_ge (Nat.gcd f q) 2 with l | l
  · omega
  · exfalso
    have le := Nat.le_of_dvd f0 g1
    rcases Nat.lt_or_ge (Nat.gcd f q) f with l2 | l2
    · exact h _ l l2 (Nat.dvd_trans g1 hr)
    · have : Nat.gcd f q = f := by omega
      exact d (this ▸ g2)
theorem bi_one {n f found rest : Nat} (hf : 2 ≤ f) (h : BI n f found rest) (d2 : ¬ f * f ∣ rest) (d : f ∣ rest) : BI n (f + 1) (found * f) (rest / f) := by
  obtain ⟨q, rfl⟩ := d
  have f0 : 0 < f := by omega
  rw [Nat.mul_div_cancel_left q f0]
  have nq : ¬ f ∣ q := fun z => d2 (Nat.mul_dvd_mul (Nat.dvd_refl f) z)
  obtain ⟨k, hk⟩ := h.eq
  have ndq : NoDiv f q := fun p h1 h2 z => h.nd p h1 h2 (Nat.dvd_trans z (Nat.dvd_mul_left q f))
  have cf : Nat.Coprime found f := Nat.Coprime.coprime_dvd_right (Nat.dvd_mul_right f q) h.co
  have cq : Nat.Coprime found q := Nat.Coprime.coprime_dvd_right (Nat.dvd_mul_left q f) h.co
  refine ⟨⟨k, ?_⟩, sf_mul cf h.sf (sf_of_nodiv hf h.nd (Nat.dvd_mul_right f q)), Nat.Coprime.mul_left cq (co_of_nodiv h.nd (Nat.dvd_mul_right f q) nq f0), nodiv_up ndq nq, ?_⟩
  · rw [hk]
    simp only [Nat.mul_assoc]
  · have := h.r0
    exact Nat.pos_of_mul_pos_left this
theorem bi_none {n f found rest : Nat} (h : BI n f found rest) (d : ¬ f ∣ rest) : BI n (f + 1) found rest := ⟨h.eq, h.sf, h.co, nodiv_up h.nd d, h.r0⟩
/-- the law's way: f is taken out one by one -/
structure BL (n f found many size : Nat) : Prop where
  eq : ∃ k, n = found * (if many % 2 = 1 then f else 1) * size * (k * k)
  sf : SF found
  co : Nat.Coprime found size
  nd : NoDiv f size
  r0 : 0 < size
  up : 0 < many → Nat.Coprime found f ∧ ∃ r, NoDiv f r ∧ f ∣ r
theorem bl_start {n f found rest : Nat} (h : BI n f found rest) : BL n f found 0 rest := by
  obtain ⟨k, hk⟩ := h.eq
  exact ⟨⟨k, by simpa using hk⟩, h.sf, h.co, h.nd, h.r0, fun z => absurd z (by decide)⟩
theorem bl_step {n f found many size : Nat} (hf : 2 ≤ f) (h : BL n f found many size) (d : f ∣ size) : BL n f found (many + 1) (size / f) := by
  obtain ⟨q, rfl⟩ := d
  have f0 : 0 < f := by omega
  rw [Nat.mul_div_cancel_left q f0]
  obtain ⟨k, hk⟩ := h.eq
  refine ⟨?_, h.sf, Nat.Coprime.coprime_dvd_right (Nat.dvd_mul_left q f) h.co, fun p h1 h2 z => h.nd p h1 h2 (Nat.dvd_trans z (Nat.dvd_mul_left q f)), Nat.pos_of_mul_pos_left h.r0, fun _ => ⟨Nat.Coprime.coprime_dvd_right (Nat.dvd_mul_right f q) h.co, f * q, h.nd, Nat.dvd_mul_right f q⟩⟩
  by_cases e : many % 2 = 1
  · refine ⟨k * f, ?_⟩
    rw [if_neg (by omega)]
    rw [if_pos e] at hk
    rw [hk]
    simp only [Nat.mul_assoc, Nat.mul_left_comm, Nat.mul_comm, Nat.mul_one, Nat.one_mul]
  · refine ⟨k, ?_⟩
    rw [if_pos (by omega)]
    rw [if_neg e] at hk
    rw [hk]
    simp only [Nat.mul_assoc, Nat.mul_one, Nat.one_mul]
theorem bl_end {n f found many size : Nat} (hf : 2 ≤ f) (h : BL n f found many size) (d : ¬ f ∣ size) : BI n (f + 1) (if many % 2 = 1 then found * f else found) size := by
  obtain ⟨k, hk⟩ := h.eq
  by_cases e : many % 2 = 1
  · rw [if_pos e]
    rw [if_pos e] at hk
    obtain ⟨cf, r, hr, hd⟩ := h.up (by omega)
    exact ⟨⟨k, hk⟩, sf_mul cf h.sf (sf_of_nodiv hf hr hd), Nat.Coprime.mul_left h.co (co_of_nodiv hr hd d (by omega)), nodiv_up h.nd d, h.r0⟩
  · rw [if_neg e]
    rw [if_neg e, Nat.mul_one] at hk
    exact ⟨⟨k, hk⟩, h.sf, h.co, nodiv_up h.nd d, h.r0⟩
theorem sf_rest {f r : Nat} (hf : 2 ≤ f) (nd : NoDiv f r) (r0 : 0 < r) (big : r < f * f * f) (ns : ¬ ∃ m, r = m * m) : SF r := fun p hp ⟨q, hq⟩ => by
  have p1 : p ∣ r := ⟨p * q, by rw [hq, Nat.mul_assoc]⟩
  have pf : f ≤ p := Nat.le_of_not_lt fun z => nd p hp z p1
  have q0 : 0 < q := by
    rcases Nat.eq_zero_or_pos q with z | z
    · rw [z] at hq; omega
    · exact z
  have qf : q < f := by
    refine Nat.lt_of_not_le fun z => ?_
    have a1 : f * f ≤ p * p := Nat.mul_le_mul pf pf
    have a2 : f * f * f ≤ p * p * q := Nat.mul_le_mul a1 z
    omega
  have q1 : q = 1 := by
    rcases Nat.lt_or_ge q 2 with l | l
    · omega
    · exact absurd ⟨p * p, by rw [hq, Nat.mul_comm]⟩ (nd q l qf)
  exact ns ⟨p, by rw [hq, q1, Nat.mul_one]⟩
/-- b is the bare part of n -/
def Bare (b n : Int) : Prop := b ≠ 0 ∧ SF b.natAbs ∧ ∃ k : Int, n = b * (k * k)
theorem bare_abs {n f found rest : Nat} (hf : 2 ≤ f) (h : BI n f found rest) (big : rest < f * f * f) : (∀ m, rest = m * m → SF found ∧ ∃ k, n = found * (k * k)) ∧ ((¬ ∃ m, rest = m * m) → SF (found * rest) ∧ ∃ k, n = found * rest * (k * k)) := by
  obtain ⟨k, hk⟩ := h.eq
  refine ⟨fun m hm => ⟨h.sf, m * k, ?_⟩, fun ns => ⟨sf_mul h.co h.sf (sf_rest hf h.nd h.r0 big ns), k, hk⟩⟩
  rw [hk, hm]
  simp only [Nat.mul_assoc, Nat.mul_left_comm, Nat.mul_comm]
theorem sq_abs (k : Int) : (k * k).natAbs = k.natAbs * k.natAbs := Int.natAbs_mul k k
theorem bare_unique {b c n : Int} (hn : n ≠ 0) (hb : Bare b n) (hc : Bare c n) : b = c := by
  obtain ⟨b0, sb, k, ek⟩ := hb
  obtain ⟨c0, sc, m, em⟩ := hc
  have hk : k ≠ 0 := fun z => hn (by rw [ek, z]; simp)
  have hm : m ≠ 0 := fun z => hn (by rw [em, z]; simp)
  have e : b.natAbs * (k.natAbs * k.natAbs) = c.natAbs * (m.natAbs * m.natAbs) := by
    rw [← sq_abs, ← sq_abs, ← Int.natAbs_mul, ← Int.natAbs_mul, ← ek, ← em]
  have abs_eq : b.natAbs = c.natAbs := by
    have g0 : 0 < Nat.gcd k.natAbs m.natAbs := Nat.gcd_pos_of_pos_left _ (Int.natAbs_pos.mpr hk)
    obtain ⟨k', m', co, e1, e2⟩ : ∃ k' m', Nat.Coprime k' m' ∧ k.natAbs = k' * Nat.gcd k.natAbs m.natAbs ∧ m.natAbs = m' * Nat.gcd k.natAbs m.natAbs :=
      ⟨k.natAbs / Nat.gcd k.natAbs m.natAbs, m.natAbs / Nat.gcd k.natAbs m.natAbs, Nat.coprime_div_gcd_div_gcd g0, (Nat.div_mul_cancel (Nat.gcd_dvd_left _ _)).symm, (Nat.div_mul_cancel (Nat.gcd_dvd_right _ _)).symm⟩
    generalize Nat.gcd k.natAbs m.natAbs = g at *
    rw [e1, e2] at e
    have e3 : b.natAbs * (k' * k') = c.natAbs * (m' * m') := by
      apply Nat.eq_of_mul_eq_mul_right (Nat.mul_pos g0 g0)
      calc b.natAbs * (k' * k') * (g * g) = b.natAbs * (k' * g * (k' * g)) := by simp only [Nat.mul_assoc, Nat.mul_left_comm, Nat.mul_comm]
        _ = c.natAbs * (m' * g * (m' * g)) := e
        _ = c.natAbs * (m' * m') * (g * g) := by simp only [Nat.mul_assoc, Nat.mul_left_comm, Nat.mul_comm]
    have cc : Nat.Coprime (k' * k') (m' * m') := Nat.Coprime.mul_left (Nat.Coprime.mul_right co co) (Nat.Coprime.mul_right co co)
    have d1 : k' * k' ∣ c.natAbs := cc.dvd_of_dvd_mul_right ⟨b.natAbs, by rw [← e3, Nat.mul_comm]⟩
    have d2 : m' * m' ∣ b.natAbs := cc.symm.dvd_of_dvd_mul_right ⟨c.natAbs, by rw [e3, Nat.mul_comm]⟩
    have k1 : k' < 2 := Nat.lt_of_not_le fun z => sc k' z d1
    have m1 : m' < 2 := Nat.lt_of_not_le fun z => sb m' z d2
    have k0 : k' ≠ 0 := fun z => by rw [z, Nat.zero_mul] at e1; omega
    have m0 : m' ≠ 0 := fun z => by rw [z, Nat.zero_mul] at e2; omega
    have : k' = 1 := by omega
    have : m' = 1 := by omega
    subst k' m'
    simpa using e3
  -- the signs
  have pk : 0 < k * k := by
    rcases Int.lt_or_gt_of_ne hk with z | z
    · exact Int.mul_pos_of_neg_of_neg z z
    · exact Int.mul_pos z z
  have pm : 0 < m * m := by
    rcases Int.lt_or_gt_of_ne hm with z | z
    · exact Int.mul_pos_of_neg_of_neg z z
    · exact Int.mul_pos z z
  rcases Int.lt_or_gt_of_ne b0 with zb | zb
  · rcases Int.lt_or_gt_of_ne c0 with zc | zc
    · omega
    · have h1 : n < 0 := by rw [ek]; exact Int.mul_neg_of_neg_of_pos zb pk
      have h2 : 0 < n := by rw [em]; exact Int.mul_pos zc pm
      omega
  · rcases Int.lt_or_gt_of_ne c0 with zc | zc
    · have h1 : 0 < n := by rw [ek]; exact Int.mul_pos zb pk
      have h2 : n < 0 := by rw [em]; exact Int.mul_neg_of_neg_of_pos zc pm
      omega
    · omega
theorem bare_self {b n : Int} (h : Bare b n) : Bare b b := ⟨h.1, h.2.1, 1, by simp⟩
theorem bare_nine {b n : Int} (h : Bare b n) : Bare b (b * 9) := ⟨h.1, h.2.1, 3, by simp⟩
theorem sq_add (x t : Nat) : (2 * x + t) * (2 * x + t) = 4 * (x * x) + 4 * (x * t) + t * t := by
  have a : 2 * x * (2 * x) = 4 * (x * x) := Nat.mul_mul_mul_comm 2 x 2 x
  have b : 2 * x * t = 2 * (x * t) := Nat.mul_assoc 2 x t
  have c : t * (2 * x) = 2 * (x * t) := by rw [Nat.mul_left_comm, Nat.mul_comm t x]
  rw [Nat.mul_add, Nat.add_mul, Nat.add_mul]
  omega
/-! Newton's way to a whole root, from above -/
theorem newton {n x : Nat} (hx : 0 < x) : n < ((x + n / x) / 2 + 1) * ((x + n / x) / 2 + 1) := by
  have h1 : n < x * (n / x + 1) := by
    have := Nat.lt_mul_div_succ n hx
    simpa [Nat.mul_comm] using this
  generalize n / x = q at *
  have h2 : x + q + 1 ≤ 2 * ((x + q) / 2 + 1) := by omega
  generalize (x + q) / 2 + 1 = y at *
  have h3 : (x + q + 1) * (x + q + 1) ≤ (2 * y) * (2 * y) := Nat.mul_le_mul h2 h2
  have h4 : 4 * (x * (q + 1)) ≤ (x + q + 1) * (x + q + 1) := by
    rcases Nat.le_total x (q + 1) with l | l
    · obtain ⟨t, ht⟩ := Nat.exists_eq_add_of_le l
      have : x + q + 1 = 2 * x + t := by omega
      rw [this, ht]
      have := sq_add x t
      have e2 : x * (x + t) = x * x + x * t := Nat.mul_add x x t
      omega
    · obtain ⟨t, ht⟩ := Nat.exists_eq_add_of_le l
      have e1 : x + q + 1 = 2 * (q + 1) + t := by omega
      rw [e1, ht]
      generalize q + 1 = z
      have := sq_add z t
      have e2 : (z + t) * z = z * z + z * t := by rw [Nat.add_mul, Nat.mul_comm t z]
      omega
  have h5 : (2 * y) * (2 * y) = 4 * (y * y) := by
    have := Nat.mul_mul_mul_comm 2 y 2 y
    omega
  omega
theorem newton_less {n x : Nat} (hx : 0 < x) (h : n < x * x) : (x + n / x) / 2 < x := by
  have : n / x < x := Nat.div_lt_of_lt_mul h
  omega
theorem root_is {n x m : Nat} (h1 : x * x ≤ n) (h2 : n < (x + 1) * (x + 1)) (e : n = m * m) : x = m := by
  subst e
  rcases Nat.lt_trichotomy x m with l | l | l
  · exfalso
    have : (x + 1) * (x + 1) ≤ m * m := Nat.mul_le_mul l l
    omega
  · exact l
  · exfalso
    have : (m + 1) * (m + 1) ≤ x * x := Nat.mul_le_mul l l
    have : m * m < (m + 1) * (m + 1) := Nat.mul_lt_mul_of_lt_of_le (by omega) (by omega) (by omega)
    omega
end My

/-! ### len(set(xs)), whole numbers -/
namespace My
open PySem PySem.Spec PyProof.Rows L2
def tLenSetD (K : PySem.W.Frag) (ta : TE) : TE := fun σ H Q => ta σ H fun x H1 => ∃ (l : Addr) (ns : List Int), x = .ref l ∧ SqL K H1 l (ns.map V.int) ∧ ns.length ≤ 4000 ∧ Q (.int ((PyProof.Rows.firstMet (fun i => ns.getD i 0) ns.length).length : Nat)) H1
theorem pe_lenSetD {X : Cx} {a : Expr} {ta : TE} {p p2 q pos : Pos} (hg : Gl X "len") (hm : X.mg "len" = none) (hg2 : Gl X "set") (hm2 : X.mg "set" = none) (ha : PE X a ta) (hc : X.calm = true := by rfl)
    (na : starEach [a] X.env = (false, eval a X.env) :: starEach [] X.env := by rfl) : PE X (.Call (.Name "len" p) [.Call (.Name "set" p2) [a] [] q] [] pos) (tLenSetD X.K ta) := by
  refine ⟨fun pins s σ H Q I h => ?_⟩
  refine Call_ (ld_blt I hg hm boot_len ?_)
  refine PyProof.Rows.callWith_builtin1 (PyProof.Rows.args_cons ?_ rfl) rfl rfl
  refine Call_ (ld_blt I hg2 hm2 boot_set ?_)
  refine PyProof.Rows.callWith_type1 (PyProof.Rows.args_cons (thn (ha.run pins s σ H _ I h) fun v s1 ⟨x, H1, I1, r1, q1⟩ => PyProof.Rows.args_nil ?_) na) na rfl
  obtain ⟨l, ns, rfl, hq, hl, q1⟩ := q1
  cases r1
  obtain ⟨its, r, pl, hz⟩ := I1.list hq
  have hlen : its.toArray.size = ns.length := by rw [List.size_toArray, ← r.length, List.length_map]
  have hfm := PyProof.Rows.firstMet_length_le (fun i => ns.getD i 0) ns.length
  refine call_set_list (I1.ok.hd hc) pl.isList (by simpa using RZ.intsAre_vals r) (by rw [hlen]; unfold scanBound; omega) fun h' tk hS hk => ?_
  refine PyProof.Rows.args_nil ?_
  rw [hlen] at hS
  obtain ⟨o, es, ep, t, ho, hex, hd, _, _, _, hf, hn⟩ := hS
  have I2 : Inv X pins σ H1 { s1 with heap := h', toks := tk } := I1.kept fun b o e => hk b o (Heap.lt_size e) e
  exact call_len_set ho hex hd hf (by rw [hn]; omega) ⟨.int _, H1, I2.tok _, ⟨_, by rw [hn]⟩, q1⟩
theorem fm0 : (PyProof.Rows.firstMet (fun i => ([] : List Int).getD i 0) 0).length = 0 := rfl
theorem fm1 (p : Int) : (PyProof.Rows.firstMet (fun i => [p].getD i 0) 1).length = 1 := rfl
theorem fm2 (p q : Int) : (PyProof.Rows.firstMet (fun i => [p, q].getD i 0) 2).length = if p = q then 1 else 2 := by
  rw [PyProof.Rows.firstMet_succ, PyProof.Rows.firstMet_succ, PyProof.Rows.firstMet_zero]
  show (if [p].any (· == q) = true then [p] else [p] ++ [q]).length = _
  by_cases e : p = q
  · subst e
    simp
  · have : ([p].any (· == q)) = false := by simpa using e
    rw [this, if_neg e]; rfl
end My

namespace My
open PySem PySem.Spec PyProof.Rows L2
open C8 (Cal pe_c pe_gc)
/-- a written fraction, its two whole numbers -/
def frV (q : Int × Int) : List V := [.int q.1, .int q.2]
def FrAt (K : PySem.W.Frag) (H : Hp) (v : V) (q : Int × Int) : Prop := ∃ p, v = .ref p ∧ H p = some (.tup (frV q))
def low (q : Int × Int) : Int × Int := (lowT q.1 q.2, lowB q.1 q.2)
def addQ (q r : Int × Int) : Int × Int := low (q.1 * r.2 + r.1 * q.2, q.2 * r.2)
def mulQ (q r : Int × Int) : Int × Int := low (q.1 * r.1, q.2 * r.2)
/-- sizes: below 2 ^ n -/
def Sz (n : Nat) (x : Int) : Prop := x.natAbs < 2 ^ n
theorem Sz.mono {n m : Nat} {x : Int} (h : Sz n x) (l : n ≤ m) : Sz m x := Nat.lt_of_lt_of_le h (Nat.pow_le_pow_right (by decide) l)
theorem Sz.mul {n m : Nat} {x y : Int} (h : Sz n x) (l : Sz m y) : Sz (n + m) (x * y) := wide_lt h l
theorem Sz.add {n : Nat} {x y : Int} (h : Sz n x) (l : Sz n y) : Sz (n + 1) (x + y) := by
  unfold Sz at *
  have : (x + y).natAbs ≤ x.natAbs + y.natAbs := Int.natAbs_add_le x y
  rw [Nat.pow_succ]
  omega
theorem Sz.le {n : Nat} {x y : Int} (h : Sz n x) (l : y.natAbs ≤ x.natAbs) : Sz n y := Nat.lt_of_le_of_lt l h
theorem Sz.cmul {n m : Nat} {x y : Int} (h : Sz n x) (l : Sz m y) (hn : 0 < n) (hm : 0 < m) (b : n + m ≤ 1000000) : CMulW x y := wide_mul h l hn hm b
theorem Sz.log {n : Nat} {x : Int} (h : Sz n x) (hn : 0 < n) (b : n ≤ 9000) : x.natAbs.log2 < 9000 := Nat.lt_of_lt_of_le (PySem.Flt.log2_lt_of hn h) b
theorem cmul_small {x y : Int} (h : x.natAbs < 2 ^ 60) (l : y.natAbs < 2 ^ 60) : CMulW x y := wide_mul h l (by decide) (by decide) (by decide)
/-- a lowest form: bottom above 0, sizes -/
structure OkQ (n : Nat) (q : Int × Int) : Prop where
  pos : 0 < q.2
  t : Sz n q.1
  b : Sz n q.2
theorem OkQ.mono {n m : Nat} {q : Int × Int} (h : OkQ n q) (l : n ≤ m) : OkQ m q := ⟨h.pos, h.t.mono l, h.b.mono l⟩
theorem low_ok {n : Nat} {q : Int × Int} (hb : q.2 ≠ 0) (ht : Sz n q.1) (hB : Sz n q.2) : OkQ n (low q) := ⟨lowB_pos hb, ht.le (lowT_abs hb), hB.le (lowB_abs hb)⟩
theorem add_ok {n m : Nat} {q r : Int × Int} (h : OkQ n q) (l : OkQ m r) : OkQ (n + m + 1) (addQ q r) := by
  refine low_ok ?_ ?_ ?_
  · exact Int.ne_of_gt (Int.mul_pos h.pos l.pos)
  · refine Sz.add (h.t.mul l.b) ?_
    have := l.t.mul h.b
    rwa [Nat.add_comm] at this
  · exact (h.b.mul l.b).mono (by omega)
theorem mul_ok {n m : Nat} {q r : Int × Int} (h : OkQ n q) (l : OkQ m r) : OkQ (n + m) (mulQ q r) := low_ok (Int.ne_of_gt (Int.mul_pos h.pos l.pos)) (h.t.mul l.t) (h.b.mul l.b)

theorem sz2 {a b : V} : [a, b].length ≤ sizeLine := by show 2 ≤ sizeLine; decide
theorem sz4 {a b c d : V} : [a, b, c, d].length ≤ sizeLine := by show 4 ≤ sizeLine; decide
theorem sz5 {a b c d e : V} : [a, b, c, d, e].length ≤ sizeLine := by show 5 ≤ sizeLine; decide
theorem sz3 {a b c : V} : [a, b, c].length ≤ sizeLine := by show 3 ≤ sizeLine; decide
/-- small whole numbers -/
def Bd (n : Nat) (x : Int) : Prop := x.natAbs ≤ n
theorem Bd.mul {n m : Nat} {x y : Int} (h : Bd n x) (l : Bd m y) : Bd (n * m) (x * y) := by
  unfold Bd at *
  rw [Int.natAbs_mul]
  exact Nat.mul_le_mul h l
theorem Bd.add {n m : Nat} {x y : Int} (h : Bd n x) (l : Bd m y) : Bd (n + m) (x + y) := by
  unfold Bd at *
  omega
theorem Bd.sub {n m : Nat} {x y : Int} (h : Bd n x) (l : Bd m y) : Bd (n + m) (x - y) := by
  unfold Bd at *
  omega
theorem Bd.cm {n m : Nat} {x y : Int} (h : Bd n x) (l : Bd m y) (hn : n < 2 ^ 60 := by decide) (hm : m < 2 ^ 60 := by decide) : CMulW x y := cmul_small (Nat.lt_of_le_of_lt h hn) (Nat.lt_of_le_of_lt l hm)
theorem bd_lit {n : Nat} {x : Int} (h : x.natAbs ≤ n := by decide) : Bd n x := h
/-- what tells by being 0 that two roots are alike -/
def toldOf : List Int → Int
  | [_, _] => 1
  | [c, b, _] => b * b - 4 * c
  | [c, b, a, _] => 18 * a * b * c - 4 * a * a * a * c + a * a * b * b - 4 * b * b * b - 27 * c * c
  | [c, _, a, _, _] => c * (a * a - 4 * c)
  | _ => 0
/-- a polynomial that is good -/
structure GoodP (ns : List Int) : Prop where
  l2 : 2 ≤ ns.length
  l5 : ns.length ≤ 5
  sm : ∀ x ∈ ns, Bd 100 x
  last : atI ns (-1) = some 1
  mid1 : ns.length = 5 → ns[1]? = some 0
  mid3 : ns.length = 5 → ns[3]? = some 0
  told : toldOf ns ≠ 0
theorem gcd_fmod (x y : Int) : Int.gcd y (x.fmod y) = Int.gcd x y := by
  have : x.fmod y = x - y * x.fdiv y := Int.fmod_def x y
  rw [this, Int.gcd_comm x y]
  have e : x - y * x.fdiv y = x + y * (- x.fdiv y) := by rw [Int.mul_neg]; rfl
  rw [e, Int.gcd_add_mul_left_right]
theorem fmod_lt {x y : Int} (hy : y ≠ 0) : (x.fmod y).natAbs < y.natAbs := by
  rcases Int.lt_or_gt_of_ne hy with h | h
  · have h1 : x.fmod y = -((-x).fmod (-y)) := by rw [Int.neg_fmod_neg]; simp
    have a := Int.fmod_nonneg_of_pos (-x) (show 0 < -y by omega)
    have b := Int.fmod_lt_of_pos (-x) (show 0 < -y by omega)
    omega
  · have a := Int.fmod_nonneg_of_pos x h
    have b := Int.fmod_lt_of_pos x h
    omega
theorem same_new {H : Hp} {p : Addr} {o : HO} (hp : H p = none) : Same H (upd H p o) := fun b u q => by rw [upd_ne (ne_of_none q hp)]; exact q
theorem item_of {ns : List Int} {i : Nat} {y : V} (hi : (ns.map V.int)[i]? = some y) : ∃ z, ns[i]? = some z ∧ y = V.int z := by
  rw [List.getElem?_map] at hi
  cases e : ns[i]? with
  | none => rw [e] at hi; cases hi
  | some z => rw [e] at hi; exact ⟨z, rfl, (Option.some.inj hi).symm⟩
theorem atI_map {ns : List Int} {i : Int} {z : Int} (h : atI ns i = some z) : atI (ns.map V.int) i = some (V.int z) := by
  unfold atI at *
  rw [List.length_map]
  cases e : ixN ns.length i with
  | none => rw [e] at h; cases h
  | some j =>
    rw [e] at h
    show (ns.map V.int)[j]? = _
    have h' : ns[j]? = some z := h
    rw [List.getElem?_map, h']
    rfl
theorem Same.seqT {K : PySem.W.Frag} {H H' : Hp} {a : Addr} {xs : List V} (e : Same H H') (h : SqT K H a xs) : SqT K H' a xs := by
  rcases h with (h | ⟨o, h⟩) | h
  · exact .inl (.inl (e _ _ h))
  · exact .inl (.inr ⟨o, e _ _ h⟩)
  · exact .inr h
theorem FrAt.mono {K : PySem.W.Frag} {H H' : Hp} {v : V} {q : Int × Int} (h : FrAt K H v q) (e : Same H H') : FrAt K H' v q := by
  obtain ⟨p, rfl, hp⟩ := h
  exact ⟨p, rfl, e _ _ hp⟩
theorem FrAt.new {K : PySem.W.Frag} {H : Hp} {p : Addr} {q : Int × Int} (h : H p = some (.tup (frV q))) : FrAt K H (.ref p) q := ⟨p, rfl, h⟩
theorem take_more {α : Type} : ∀ {l : List α} {i : Nat} {x : α}, l[i]? = some x → l.take (i + 1) = l.take i ++ [x]
  | [], i, x, h => by simp at h
  | a :: l, 0, x, h => by
    have e : a = x := Option.some.inj h
    subst e
    rfl
  | a :: l, i + 1, x, h => by
    have ih := take_more (l := l) (i := i) (x := x) h
    show a :: l.take (i + 1) = a :: l.take i ++ [x]
    rw [ih]
    rfl
theorem ok_01 : OkQ 1 (0, 1) := ⟨by decide, (by decide : (0 : Int).natAbs < 2 ^ 1), (by decide : (1 : Int).natAbs < 2 ^ 1)⟩
theorem ok_n1 {n : Int} {b : Nat} (h : Bd 100 n) (hb : 10 ≤ b) : OkQ b (n, 1) := OkQ.mono (n := 10) ⟨(by decide : (0 : Int) < 1), (by unfold Sz; unfold Bd at h; show n.natAbs < 2 ^ 10; omega), (by show (1 : Int).natAbs < 2 ^ 10; decide)⟩ hb
theorem abs_int (x : Int) : (if x < 0 then -x else x) = (x.natAbs : Int) := by split <;> omega
end My

/-! ### a comprehension whose element may raise -/
namespace My
open PySem PySem.Spec PyProof.Rows L2
/-- the block's context: what is raised in it is noted by the def's frame, the block is let go, and it goes on -/
abbrev Bk (X : Cx) (s : Shared) (H : Hp) (scope : Scope) (ce : Env) (fp : List Addr) : Cx := { X.blk s H scope ce fp with xe := notedBy (model X.prog X.w) X.A ce (CompFails (model X.prog X.w) X.A X.xe ce) }
section
variable {X : Cx} {pins : List (Addr × Obj)} {σ : L2.St} {H : Hp} {s : Shared} {scope : Scope} {ce : Env} {fp : List Addr}
theorem bk_of {pq : List (Addr × Obj)} {σ' : L2.St} {H' : Hp} {s' : Shared} (J : Inv (X.blk s H scope ce fp) pq σ' H' s') : Inv (Bk X s H scope ce fp) pq σ' H' s' :=
  { ok := { mod := J.ok.mod, kind := J.ok.kind, glob := J.ok.glob, blt := J.ok.blt, above := J.ok.above, inj := J.ok.inj, has := J.ok.has, cab := J.ok.cab, hd := J.ok.hd, frames := J.ok.frames, stk := J.ok.stk, exf := J.ok.exf, bs := J.ok.bs, bsz := J.ok.bsz, noex := J.ok.noex, exfs := J.ok.exfs, funs := J.ok.funs, frf := J.ok.frf }
    os := J.os, bare := J.bare, base := J.base, loc := J.loc, cell := J.cell, free := J.free, freeC := J.freeC, pin := J.pin, hok := J.hok, len := J.len }
theorem tracedZ_but {h h' B : Heap} {a C : Addr} {Z : Obj → Prop} {fl : Value} {m : Str → Option Value} (x : HandSPX.TracedZ h B a Z fl) (hn : h.Ns C m) (sb : Heap.SameBut C h h') : HandSPX.TracedZ h' B a Z fl := by
  obtain ⟨oe, vs, T, oT, ts, q1, q2, q3, q4, q5, q6, q7, q8, q9⟩ := x
  obtain ⟨oC, es, ep, qC, dC, _⟩ := hn
  have na : a ≠ C := by
    intro z
    rw [z, qC] at q1
    cases q1
    rw [dC] at q3
    cases q3
  have nT : T ≠ C := by
    intro z
    rw [z, qC] at q7
    cases q7
    rw [dC] at q8
    cases q8
  exact ⟨oe, vs, T, oT, ts, (sb.2 a na).trans q1, q2, q3, q4, q5, q6, (sb.2 T nT).trans q7, q8, q9⟩
theorem heldZ_but {B h h' : Heap} {l : List Env} {a C L : Addr} {Z : Obj → Prop} {m m' : Str → Option Value} (x : HandSPX.HeldZ B l a Z L h) (hn : h.Ns C m) (hn' : h'.Ns C m') (sb : Heap.SameBut C h h') : HandSPX.HeldZ (PySem.W.hideAll B [C]) l a Z L h' := by
  obtain ⟨x1, x2, x3, x4⟩ := x
  have ho : ∀ b, B.get? b = none → (PySem.W.hideAll B [C]).get? b = none := fun b e => by
    cases q : (PySem.W.hideAll B [C]).get? b with
    | none => rfl
    | some o => rw [PySem.W.of_hideAll _ q] at e; cases e
  refine ⟨fun b o e => ?_, ho a x2, funFrames_none (x3.sameBut sb hn') fun L hL => ho L (x3.mem hL).1, ?_⟩
  · have hb : b ≠ C := fun z => by rw [z, PySem.W.hideAll_none _ (by simp)] at e; cases e
    exact (sb.2 b hb).trans (x1 b o (PySem.W.of_hideAll _ e))
  · obtain ⟨oe, vs, T, oT, ts, q1, q2, q3, q4, q5, q⟩ := tracedZ_but x4 hn sb
    exact ⟨oe, vs, T, oT, ts, q1, q2, q3, q4, ho T q5, q⟩
theorem bk_passes {E1 : XK} (tk : Takes X (fun cls d _ H => E1 cls d H)) (hst : X.stack = X.env :: X.outer) (hf : X.env.frame = some X.env.locals) (I0 : Inv X pins σ H s) (f0 : ∀ b ∈ fp, FpOk X pins H b) (hC : s.heap.objs.size ≤ ce.locals) (hcf : ce.frame = X.env.frame) :
    ∀ σ', PassesAt (L2.CX X.prog X.w) (Bk X s H scope ce fp) σ' E1 := by
  intro σ' pins' H1 s1 e s2 I1 c
  obtain ⟨a, B, H2, cls, d, rfl, fl, hok, ub, na, os, ag, hE⟩ := c
  obtain ⟨m, nC, _⟩ := I1.loc
  have nC : s1.heap.Ns ce.locals m := nC
  have fC : H1 ce.locals = none := I1.free
  have nfC : ce.locals ∉ frs X.stack := fun hm => by
    rcases List.mem_cons.mp (I0.stkSub _ hm) with z | z
    · exact absurd I0.lt (by rw [← z]; exact Nat.not_lt.mpr hC)
    · exact I0.nofs hC z
  obtain ⟨oC, es, ep, gC, dC, rC⟩ := id nC
  have gC2 : s2.heap.get? ce.locals = some oC := fl.1 _ _ (ub.keep _ _ gC fC nfC)
  have hC2 : H2 ce.locals = none := ub.free _ _ gC fC
  have nC2 : s2.heap.Ns ce.locals m := ⟨oC, es, ep, gC2, dC, rC⟩
  have IX : Inv X pins σ H1 s1 := I0.call' (ch := fp) I1.os I1.base I1.hok I1.bare fun b hb => ⟨(f0 b hb).2.2.2.1, (f0 b hb).2.1, (f0 b hb).2.2.2.2.1, (f0 b hb).2.2.2.2.2⟩
  have x : XE X (fun cls d _ H' => E1 cls d H' ∧ H' ce.locals = none) (.ref a) s2 := XE.of_call (E := fun cls d H' => E1 cls d H' ∧ H' ce.locals = none) IX (fun _ _ _ h => h) ⟨a, B, H2, cls, d, rfl, fl, hok, ub, na, os, ag, hE, hC2⟩
  obtain ⟨a', B', sI, pinsI, σI, HI, cls', d', e', II, nb, up, sky, naI, osI, agI, w, wC⟩ := x
  cases e'
  have hfr : X.A.frames = some (X.env :: X.outer) := by rw [I0.ok.frames, hst]
  rw [hst] at sky
  have fin : ∀ h1, HandSPX.HeldZ B' (X.env :: X.outer) a (Zc cls' d') X.env.locals h1 → s2.heap.UpToSlots h1 → CompFails (model X.prog X.w) X.A X.xe ce (.ref a) { s2 with heap := h1 } := fun h1 hh up1 => by
    have n1 : h1.Ns ce.locals m := nC2.upToSlots up1
    refine ⟨m, n1, fun h2 m2 n2 sb => ?_⟩
    have hh2 := heldZ_but hh n1 n2 sb
    unfold PySem.passOn
    obtain ⟨oe, vs, T, oT, ts, q1, q2, q3, q4, q5, q6, q7, q8, q9⟩ := hh2.2.2.2
    refine wpAny_bind (wpAny_field q1 q3 q4 ?_)
    rw [if_neg (by simp), hcf, hf]
    refine wpAny_bind (HandSPX.setFlight_onZ hh2 fun h3 hh3 up3 => wpAny_throw ?_)
    have hid : ∀ b, b ≠ ce.locals → b ∉ [ce.locals] := fun b hb => by simpa using hb
    have out : ∀ {h : Heap} {b : Addr} {o : Obj}, (PySem.W.hideAll h [ce.locals]).get? b = some o → b ≠ ce.locals := fun {h b o} q z => by rw [z, PySem.W.hideAll_none _ (by simp)] at q; cases q
    have II2 : Inv X [] σI HI { sI with heap := PySem.W.hideAll sI.heap [ce.locals] } :=
      Inv.turned (t' := sI.toks) (it := ce.locals) (II.pins_of fun p hp => nomatch hp) (fun b o hb e => PySem.W.hideAll_get _ e (hid b hb)) wC
        (fun z => Nat.lt_irrefl _ (Nat.lt_of_lt_of_le (z ▸ I0.lt) hC)) (.inr (Nat.le_trans I0.sz hC)) (fun x c q z => by
          obtain ⟨v, k⟩ := I0.cell x c q
          exact Nat.lt_irrefl _ (Nat.lt_of_lt_of_le k.lt (z ▸ hC)))
        fun p hp z => Nat.lt_irrefl _ (Nat.lt_of_lt_of_le (Heap.lt_size (I0.pin p (List.mem_append_left _ (by simpa using hp))).1) (z ▸ hC))
    refine tk _ _ ⟨a, PySem.W.hideAll B' [ce.locals], _, [], σI, HI, cls', d', rfl, II2, fun b o q hb => ?_, fun b o q nf => ?_, .inr (.inr (by rw [hst]; exact hh3)), naI, osI, agI, w⟩
    · exact PySem.W.hideAll_get _ (nb b o (PySem.W.of_hideAll _ q) hb) (hid b (out q))
    · obtain ⟨sl1, e1⟩ := up b o (PySem.W.of_hideAll _ q) nf
      obtain ⟨sl2, e2⟩ := up1 b _ e1 nf
      obtain ⟨sl3, e3⟩ := up3 b _ ((sb.2 b (out q)).trans e2) nf
      exact ⟨sl3, e3⟩
  show wpAny _ _ (noteFrame (.ref a) ce) _ _ s2
  rw [noteFrame_env _ hcf]
  rcases sky with ⟨k1, k2, k3, oe, vs, k4, k5, k6, k7⟩ | k | k
  · exact HandSPX.look_newZ Zc.steady hfr k3 hf k4 k1 k2 k6 k7 k5 fin
  · exact HandSPX.looks_onZ Zc.steady hfr hf k fin
  · exact HandSPX.againZ hf k.2.2.2 (fin s2.heap k (Heap.UpToSlots.refl _))
end
end My
namespace My
open PySem PySem.Spec PyProof.Rows L2
section
variable {X : Cx} {elt tg iter : Expr} {ifs : List Expr} {scope : Scope} {own : List (Str × Nat)} {pos : Pos} {wi : TI} {g : TG} {tt : TT} {te : TE} {E1 : XK}
theorem lcx_core {pins : List (Addr × Obj)} {s : Shared} {σ : L2.St} {H : Hp} {Q : VK} {pos' : Pos} {use : Option (Value → Sem Unit)} {Qf : Value → Shared → Prop}
    (tk : Takes X (fun cls d _ H => E1 cls d H)) (hst : X.stack = X.env :: X.outer) (hf : X.env.frame = some X.env.locals)
    (hc : X.calm = true) (hN : X.N.Nodup) (I : Inv X pins σ H s) (hi : PI X tg iter wi) (ok : BlkOk X.N X.env.scope scope own)
    (hg : ∀ (s : Shared) (H : Hp) (C : Addr) (cl : List (Str × Addr)) (fp : List Addr), PG (Bk X s H scope (compEnvC scope cl C X.env) fp) tg g)
    (ht : ∀ (s : Shared) (H : Hp) (C : Addr) (cl : List (Str × Addr)) (fp : List Addr), PTs (Bk X s H scope (compEnvC scope cl C X.env) fp) ifs tt)
    (he : ∀ (s : Shared) (H : Hp) (C : Addr) (cl : List (Str × Addr)) (fp : List Addr), (∀ σ, PassesAt (L2.CX X.prog X.w) (Bk X s H scope (compEnvC scope cl C X.env) fp) σ E1) → PE (Bk X s H scope (compEnvC scope cl C X.env) fp) elt te)
    (hs : ∀ x, foldedSetIterable iter X.env x = pure x) (h : tLc wi g tt te (own.map (·.2)) σ H Q)
    (hRR : ∀ D ce s' m H', ce.locals = (ce : Env).locals → Inv X pins σ H' s' → Q (.ref D) H' → s'.heap.Ns ce.locals m → FpOk X pins H' ce.locals → compEnds (model X.prog X.w) X.A X.xe use Qf (.ref D) ce (.ok .next) s') :
    wpAny (model X.prog X.w) X.A (comprehension (.ListComp elt [⟨tg, iter, ifs, 0⟩] scope pos) scope X.env pos' (newList []) false (eval iter X.env) use) Qf X.xe s := by
  have fr : ∀ y ∈ scope.names, y.2 = .free → ∃ c, X.env.cells.lookup y.1 = some c := fun y hy e => I.ok.has _ ((ok.free y hy e).imp id id)
  refine comprehension_at (use := use) rfl hs (closure_ok fr) ok.kind (fun y hy e => by rw [ok.uniq y hy, e]) (thn (hi.run pins s σ H _ I h) fun xv sA hA => thn hA fun itv sB hB => ?_)
  obtain ⟨it, fp, tn, J, HB, rfl, IB, T, stB, fB, q⟩ := hB
  refine wpAny_newObj_type (newEnv_comp ?_) (by show 0 ≤ sizeLine; decide)
  generalize eD : sB.heap.objs.size = D
  have nD : HB D = none := IB.hok.fresh (Nat.le_of_eq eD)
  obtain ⟨W, ⟨k0, w0⟩, turn⟩ := q D nD
  generalize eC : ({ sB with heap := sB.heap.push { cls := .type "list", data := .seq ([] : List Value).toArray } } : Shared) = sC
  have hC : sC.heap = sB.heap.push { cls := .type "list", data := .seq ([] : List Value).toArray } := by rw [← eC]
  have IC : Inv X pins σ (upd HB D (.lst [])) sC := by
    subst eC
    exact IB.laid (t' := sB.toks) (fun b o e => Heap.get?_push_of_some _ e) (Nat.le_of_eq eD) ⟨Nat.zero_le _, [], 0, .nil, by rw [← eD]; exact Heap.get?_push_size _ rfl⟩
  have lB : ∀ b ∈ fp, b < sB.heap.objs.size := fun b hb => Heap.lt_size (T.obj _ _ stB b hb).choose_spec.1
  have fC : ∀ b ∈ fp, FpOk X pins (upd HB D (.lst [])) b ∧ b < sC.heap.objs.size := fun b hb =>
    ⟨⟨by rw [upd_ne (by rw [← eD]; exact Nat.ne_of_lt (lB b hb))]; exact (fB b hb).1, (fB b hb).2⟩, by rw [hC, Heap.size_push]; exact Nat.lt_succ_of_lt (lB b hb)⟩
  have stC : tn 0 sC.heap := T.keep _ _ _ stB fun b _ o e => by rw [hC]; exact Heap.get?_push_of_some _ e
  have ID := bk_of (block_start IC ok hN fC)
  have zf : ∀ b ∈ fp, (upd HB D (.lst [])) b = none := fun b hb => (fC b hb).1.1
  show codeAny _ _ (.compStart (.ListComp elt [⟨tg, iter, ifs, 0⟩] scope pos) 0 (.ref it) (.ref D) (compEnvC scope (cellsFrom (sC.heap.objs.size + 1) scope.names (cloFrom X.env.cells scope.names [])) sC.heap.objs.size X.env))
    (compEnds (model X.prog X.w) X.A X.xe use Qf (.ref D) (compEnvC scope (cellsFrom (sC.heap.objs.size + 1) scope.names (cloFrom X.env.cells scope.names [])) sC.heap.objs.size X.env)) { sC with heap := pushCells (sC.heap.push { cls := .type "dict", data := .dict #[] }) scope.names }
  have pg := hg sC (upd HB D (.lst [])) sC.heap.objs.size (cellsFrom (sC.heap.objs.size + 1) scope.names (cloFrom X.env.cells scope.names [])) fp
  have pt := ht sC (upd HB D (.lst [])) sC.heap.objs.size (cellsFrom (sC.heap.objs.size + 1) scope.names (cloFrom X.env.cells scope.names [])) fp
  have pe := he sC (upd HB D (.lst [])) sC.heap.objs.size (cellsFrom (sC.heap.objs.size + 1) scope.names (cloFrom X.env.cells scope.names [])) fp (bk_passes tk hst hf IC (fun b hb => (fC b hb).1) (Nat.le_refl _) rfl)
  generalize ece : compEnvC scope (cellsFrom (sC.heap.objs.size + 1) scope.names (cloFrom X.env.cells scope.names [])) sC.heap.objs.size X.env = ce at ID pg pt pe ⊢
  have cL : ce.locals = sC.heap.objs.size := by subst ece; rfl
  generalize eHC : upd HB D (.lst []) = HC at IC ID pg pt pe w0 zf fC
  generalize esD : ({ sC with heap := pushCells (sC.heap.push { cls := .type "dict", data := .dict #[] }) scope.names } : Shared) = sD at ID ⊢
  have stD : tn 0 sD.heap := T.keep _ _ _ stC fun b _ o e => by rw [← esD]; exact pushCells_keeps _ _ _ _ (Heap.get?_push_of_some _ e)
  have fpk : ∀ {σ' : L2.St} {H' : Hp} {s' : Shared}, Inv (Bk X sC HC scope ce fp) [] σ' H' s' → (∀ b ∈ fp, H' b = none) → ∀ b ∈ fp, FpOk (Bk X sC HC scope ce fp) [] H' b := fun {σ' H' s'} JJ z b hb =>
    ⟨z b hb, (JJ.ok.exf b hb).1, JJ.ok.exfs b hb, .inl hb, fun x c e => (JJ.ok.exf b hb).2 x c e, fun p hp => nomatch (show p ∈ ([] : List (Addr × Obj)) from by simpa using hp)⟩
  have round : codeAny (model X.prog X.w) X.A (.compLoop (.ListComp elt [⟨tg, iter, ifs, 0⟩] scope pos) 0 (.ref it) (.ref D) ce) (compEnds (model X.prog X.w) X.A X.xe use Qf (.ref D) ce) sD := by
    refine compLoop_any (fun n s' => ∃ i H', Inv (Bk X sC HC scope ce fp) [] (wipe σ (own.map (·.2))) H' s' ∧ tn i s'.heap ∧ (∀ b ∈ fp, H' b = none) ∧ W i n H') ?_ k0 ⟨0, HC, ID, stD, zf, w0⟩
    rintro n sE ⟨i, HE, IE, stE, zE, wE⟩
    rcases turn i n HE wE with ⟨stop, qq⟩ | ⟨go, Nx, hNx, step⟩
    · refine thnF (T.done (Bk X sC HC scope ce fp) rfl rfl rfl hc i [] sE _ HE (fun _ _ => False) IE (fpk IE zE) stE stop) fun r sF ⟨hr, IF⟩ => ?_
      subst hr
      have IG : Inv X pins σ HE sF := IC.call' (ch := fp) IF.os IF.base IF.hok IF.bare fun b hb => ⟨(fC b hb).1.2.2.2.1, (fC b hb).1.2.1, (fC b hb).1.2.2.2.2.1, (fC b hb).1.2.2.2.2.2⟩
      have zC : HE ce.locals = none := IF.free
      obtain ⟨m, hn, _⟩ := IF.loc
      exact hRR D ce sF m HE rfl IG qq hn (by rw [cL] at zC ⊢; exact IC.fpOk (Nat.le_refl _) zC)
    · refine thnF (T.item (Bk X sC HC scope ce fp) rfl rfl rfl hc i [] sE _ HE (fun _ _ => False) IE (fpk IE zE) stE go) fun r sF ⟨u, hr, hF⟩ => ?_
      subst hr
      refine thnF hF fun _ sG ⟨x, HG, IG, rG, yG, stG, zG⟩ => ?_
      refine thn (pg.run _ sG _ HG x u _ (IG.pinned (fpk IG zG) (T.obj _ _ stG)) rG (step x HG yG)) fun _ sH ⟨σH, HH, IH, hw, qH⟩ => ?_
      refine thn (pt.run _ sH σH HH _ IH qH) fun b sJ ⟨HJ, IJ, qJ⟩ => ?_
      have next : ∀ {s' : Shared} {H' : Hp}, Inv (Bk X sC HC scope ce fp) ([] ++ pinsAt fp sG.heap) σH H' s' → Nx H' → ∃ m, m < n ∧ ∃ i H', Inv (Bk X sC HC scope ce fp) [] (wipe σ (own.map (·.2))) H' s' ∧ tn i s'.heap ∧ (∀ b ∈ fp, H' b = none) ∧ W i m H' := fun {s' H'} JJ nx => by
        obtain ⟨m', hm, w'⟩ := hNx H' nx
        have held : ∀ b ∈ fp, ∀ o, sG.heap.get? b = some o → s'.heap.get? b = some o ∧ H' b = none := fun b hb o e => by
          have z := JJ.pin (b, o) (List.mem_append_right _ (List.mem_append_right _ (mem_pinsAt hb e)))
          exact ⟨z.1, z.2.1⟩
        refine ⟨m', hm, i + 1, H', (JJ.unpinned (pins := [])).weak (by rw [← hw, wipe_length]) (fun j v e => ?_), T.keep _ _ _ stG fun b hb o e => (held b hb o e).1, fun b hb => ?_, w'⟩
        · rw [← hw] at e
          exact (wipe_some e).1
        · obtain ⟨o, e, _⟩ := T.obj _ _ stG b hb
          exact (held b hb o e).2
      cases b with
      | false => exact next IJ qJ
      | true =>
        refine thn (pe.run _ sJ σH HJ _ IJ qJ) fun z sK ⟨yv, HK, IK, rK, acc, hDK, hz, nx⟩ => ?_
        exact app_ok (X := Bk X sC HC scope ce fp) IK hDK hz rK fun sL IL => next IL nx
  exact codeAny_compStart_list round (T.self X.A 0 _ _ _ stD round)
/-- as a value -/
theorem pe_lcX (tk : Takes X (fun cls d _ H => E1 cls d H)) (hst : X.stack = X.env :: X.outer) (hf : X.env.frame = some X.env.locals) (hc : X.calm = true) (hN : X.N.Nodup) (hi : PI X tg iter wi) (ok : BlkOk X.N X.env.scope scope own)
    (hg : ∀ (s : Shared) (H : Hp) (C : Addr) (cl : List (Str × Addr)) (fp : List Addr), PG (Bk X s H scope (compEnvC scope cl C X.env) fp) tg g)
    (ht : ∀ (s : Shared) (H : Hp) (C : Addr) (cl : List (Str × Addr)) (fp : List Addr), PTs (Bk X s H scope (compEnvC scope cl C X.env) fp) ifs tt)
    (he : ∀ (s : Shared) (H : Hp) (C : Addr) (cl : List (Str × Addr)) (fp : List Addr), (∀ σ, PassesAt (L2.CX X.prog X.w) (Bk X s H scope (compEnvC scope cl C X.env) fp) σ E1) → PE (Bk X s H scope (compEnvC scope cl C X.env) fp) elt te)
    (hs : ∀ x, foldedSetIterable iter X.env x = pure x := by intro _; rfl) :
    PE X (.ListComp elt [⟨tg, iter, ifs, 0⟩] scope pos) (tLc wi g tt te (own.map (·.2))) := by
  refine ⟨fun pins s σ H Q I h => ?_⟩
  rw [eval_ListComp]
  refine lcx_core tk hst hf hc hN I hi ok hg ht he hs h fun D ce s' m H' _ J q hn f => ⟨m, hn, fun h'' sb => ?_⟩
  exact ⟨.ref D, H', J.turned (t' := s'.toks) (fun b o hb e => (sb.2 b hb).trans e) f.1 f.2.1 f.2.2.2.1 f.2.2.2.2.1 f.2.2.2.2.2, rfl, q⟩
/-- name = [..], the name a local -/
theorem ps_setLcX {i : Nat} {y : Str} {py spos : Pos} (tk : Takes X (fun cls d _ H => E1 cls d H)) (hst : X.stack = X.env :: X.outer) (hf : X.env.frame = some X.env.locals) (hc : X.calm = true) (hN : X.N.Nodup) (hy : X.N[i]? = some y) (hyl : X.env.scope.names.lookup y = some .local)
    (hsw : swapsWith (.ListComp elt [⟨tg, iter, ifs, 0⟩] scope pos) (some (.Name y py)) spos.line X.env = pure true) (hi : PI X tg iter wi) (ok : BlkOk X.N X.env.scope scope own)
    (hg : ∀ (s : Shared) (H : Hp) (C : Addr) (cl : List (Str × Addr)) (fp : List Addr), PG (Bk X s H scope (compEnvC scope cl C X.env) fp) tg g)
    (ht : ∀ (s : Shared) (H : Hp) (C : Addr) (cl : List (Str × Addr)) (fp : List Addr), PTs (Bk X s H scope (compEnvC scope cl C X.env) fp) ifs tt)
    (he : ∀ (s : Shared) (H : Hp) (C : Addr) (cl : List (Str × Addr)) (fp : List Addr), (∀ σ, PassesAt (L2.CX X.prog X.w) (Bk X s H scope (compEnvC scope cl C X.env) fp) σ E1) → PE (Bk X s H scope (compEnvC scope cl C X.env) fp) elt te)
    (hs : ∀ x, foldedSetIterable iter X.env x = pure x := by intro _; rfl) :
    PS X (.Assign [.Name y py] (.ListComp elt [⟨tg, iter, ifs, 0⟩] scope pos) spos) (tAsg (tLc wi g tt te (own.map (·.2))) (gName i)) := by
  refine ⟨fun pins s σ H D I h => ?_⟩
  rw [exec_Assign_Name_used _ _ _ _ hsw]
  refine wpAny_bind (wpAny_standAt (wpAny_bind ?_))
  show wpAny _ X.A (do let _ ← comprehension (.ListComp elt [⟨tg, iter, ifs, 0⟩] scope pos) scope X.env (firstIterPos [⟨tg, iter, ifs, 0⟩] pos) (newList []) false (eval iter X.env) (some (assign (.Name y py) X.env))) _ _ s
  have h : tLc wi g tt te (own.map (·.2)) σ H (fun x H1 => gName i x σ H1 D.nx) := h
  refine wpAny_bind (thn (lcx_core (Qf := fun _ s' => SP X pins D .next s') tk hst hf hc hN I hi ok hg ht he hs h fun L ce s' m H' _ J q hn f => ?_) fun _ s' hq => wpAny_pure (wpAny_pure hq))
  show wpAny _ _ (assign (.Name y py) X.env (.ref L)) _ _ _
  refine wpAny_assign_Name (store_ok2 (v := V.ref L) J hN hy (.inl hyl) rfl (fun s2 J2 ⟨a, sb, ha⟩ => ?_) (.inr hyl))
  have ne : ce.locals ≠ a := ha.elim (fun z => by rw [z]; exact f.2.1) fun z k => f.2.2.2.2.1 y a z k.symm
  exact ⟨m, hn.sameBut sb ne, fun h3 sb3 => ⟨_, H', J2.turned (t' := s2.toks) (fun b o hb e => (sb3.2 b hb).trans e) f.1 f.2.1 f.2.2.2.1 f.2.2.2.2.1 f.2.2.2.2.2, q⟩⟩
end
end My

namespace My
open PySem PySem.Spec PyProof.Rows L2
/-- where the classes of errors stand -/
structure Cs where
  RootError : Addr
  NoPoly : Addr
  NoHouse : Addr
  NoLetter : Addr
  NoCount : Addr
  NoMove : Addr
  NoWord : Addr
  Full : Addr
  NoDeed : Addr
  NoText : Addr
  NoLine : Addr
  NoOver : Addr
  NoName : Addr
  Twice : Addr
  NoNumber : Addr
/-- which class an error is of: j its number among the sorts -/
structure Row (K : PySem.W.Frag) (c : Cs) (t : Value) (j : Option Nat) : Prop where
  k_NoPoly : PySem.W.kitOne K t (.ref c.NoPoly) = some (j == some 0)
  k_NoHouse : PySem.W.kitOne K t (.ref c.NoHouse) = some (j == some 1)
  k_NoLetter : PySem.W.kitOne K t (.ref c.NoLetter) = some (j == some 2)
  k_NoCount : PySem.W.kitOne K t (.ref c.NoCount) = some (j == some 3)
  k_NoMove : PySem.W.kitOne K t (.ref c.NoMove) = some (j == some 4)
  k_NoWord : PySem.W.kitOne K t (.ref c.NoWord) = some (j == some 5)
  k_Full : PySem.W.kitOne K t (.ref c.Full) = some (j == some 6)
  k_NoDeed : PySem.W.kitOne K t (.ref c.NoDeed) = some (j == some 7)
  k_NoText : PySem.W.kitOne K t (.ref c.NoText) = some (j == some 8)
  k_NoLine : PySem.W.kitOne K t (.ref c.NoLine) = some (j == some 9)
  k_NoOver : PySem.W.kitOne K t (.ref c.NoOver) = some (j == some 10)
  k_NoName : PySem.W.kitOne K t (.ref c.NoName) = some (j == some 11)
  k_Twice : PySem.W.kitOne K t (.ref c.Twice) = some (j == some 12)
  k_NoNumber : PySem.W.kitOne K t (.ref c.NoNumber) = some (j == some 13)
  k_RootError : PySem.W.kitOne K t (.ref c.RootError) = some (j.any fun i => decide (i < 10))
structure Txt (K : PySem.W.Frag) (mg : Str → Option Value) (c : Cs) : Prop where
  z_set : mg "set" = none
  z_abs : mg "abs" = none
  z_len : mg "len" = none
  z_range : mg "range" = none
  z_max : mg "max" = none
  z_enumerate : mg "enumerate" = none
  z_isinstance : mg "isinstance" = none
  z_int : mg "int" = none
  z_bool : mg "bool" = none
  z_tuple : mg "tuple" = none
  z_list : mg "list" = none
  z_zip : mg "zip" = none
  mg_MOST : ∃ u, mg "MOST" = some u ∧ RelV (.int 100) u
  g_RootError : mg "RootError" = some (.ref c.RootError)
  g_NoPoly : mg "NoPoly" = some (.ref c.NoPoly)
  g_NoHouse : mg "NoHouse" = some (.ref c.NoHouse)
  g_NoLetter : mg "NoLetter" = some (.ref c.NoLetter)
  g_NoCount : mg "NoCount" = some (.ref c.NoCount)
  g_NoMove : mg "NoMove" = some (.ref c.NoMove)
  g_NoWord : mg "NoWord" = some (.ref c.NoWord)
  g_Full : mg "Full" = some (.ref c.Full)
  g_NoDeed : mg "NoDeed" = some (.ref c.NoDeed)
  g_NoText : mg "NoText" = some (.ref c.NoText)
  g_NoLine : mg "NoLine" = some (.ref c.NoLine)
  g_NoOver : mg "NoOver" = some (.ref c.NoOver)
  g_NoName : mg "NoName" = some (.ref c.NoName)
  g_Twice : mg "Twice" = some (.ref c.Twice)
  g_NoNumber : mg "NoNumber" = some (.ref c.NoNumber)
  row_none : Row K c (.type "NoneType") none
  row_NoPoly : Row K c (.ref c.NoPoly) (some 0)
  exc_NoPoly : ExcC K c.NoPoly
  exm_NoPoly_RootError : PySem.W.exmOne K (.ref c.NoPoly) (.ref c.RootError) = some true
  exm_NoPoly_NoNumber : PySem.W.exmOne K (.ref c.NoPoly) (.ref c.NoNumber) = some false
  exm_NoPoly_NoOver : PySem.W.exmOne K (.ref c.NoPoly) (.ref c.NoOver) = some false
  row_NoNumber : Row K c (.ref c.NoNumber) (some 13)
  exc_NoNumber : ExcC K c.NoNumber
  exm_NoNumber_RootError : PySem.W.exmOne K (.ref c.NoNumber) (.ref c.RootError) = some false
  exm_NoNumber_NoNumber : PySem.W.exmOne K (.ref c.NoNumber) (.ref c.NoNumber) = some true
  exm_NoNumber_NoOver : PySem.W.exmOne K (.ref c.NoNumber) (.ref c.NoOver) = some false
  x_NoNumber : PySem.W.excIn K c.NoNumber [.type "ValueError", .type "Exception", .type "BaseException", .type "object"] "ValueError.__new__" = true
  k_NoNumber : PySem.W.keepIn K (.ref c.NoNumber) = true
  b_NoNumber : PySem.W.subIn K (.ref c.NoNumber) (.type "BaseException") = some true
  t_NoNumber : PySem.W.typeIn K (.ref c.NoNumber) = some (.type "type")
  row_NoLetter : Row K c (.ref c.NoLetter) (some 2)
  exc_NoLetter : ExcC K c.NoLetter
  exm_NoLetter_RootError : PySem.W.exmOne K (.ref c.NoLetter) (.ref c.RootError) = some true
  exm_NoLetter_NoNumber : PySem.W.exmOne K (.ref c.NoLetter) (.ref c.NoNumber) = some false
  exm_NoLetter_NoOver : PySem.W.exmOne K (.ref c.NoLetter) (.ref c.NoOver) = some false
  x_NoLetter : PySem.W.excIn K c.NoLetter [.type "ValueError", .type "Exception", .type "BaseException", .type "object"] "ValueError.__new__" = true
  k_NoLetter : PySem.W.keepIn K (.ref c.NoLetter) = true
  b_NoLetter : PySem.W.subIn K (.ref c.NoLetter) (.type "BaseException") = some true
  t_NoLetter : PySem.W.typeIn K (.ref c.NoLetter) = some (.type "type")
  ini_RootError : Ini K c.RootError
  oex_NoPoly : OexC K c.NoPoly
  no_NoPoly : PySem.W.findIn K (.ref c.NoPoly) "at" = some none
end My
namespace My
open PySem PySem.Spec PyProof.Rows L2
open C8 (Cal pe_c pe_gc)
/-- all but a stand as they stood -/
def Xt (a : Addr) (H H' : Hp) : Prop := ∀ b o, b ≠ a → H b = some o → H' b = some o
theorem Xt.refl (a : Addr) (H : Hp) : Xt a H H := fun _ _ _ h => h
theorem Xt.trans {a : Addr} {H H1 H2 : Hp} (x : Xt a H H1) (y : Xt a H1 H2) : Xt a H H2 := fun b o n h => y b o n (x b o n h)
theorem Xt.of {a : Addr} {H H' : Hp} (x : Same H H') : Xt a H H' := fun b o _ h => x b o h
theorem Xt.upd {a : Addr} {H : Hp} {o : HO} : Xt a H (upd H a o) := fun b u n h => by rw [upd_ne n]; exact h
/-- a purse at a, drawn from less than m times -/
def Pur (H : Hp) (a : Addr) (m : Nat) : Prop := ∃ d c k : Int, H a = some (.lst [.int d, .int c, .int k]) ∧ 0 ≤ d ∧ 0 ≤ c ∧ c < 2147483647 ∧ 0 ≤ k ∧ k ≤ m
theorem Pur.mono {H : Hp} {a : Addr} {m n : Nat} (h : Pur H a m) (l : m ≤ n) : Pur H a n := by
  obtain ⟨d, c, k, h1, h2, h3, h4, h5, h6⟩ := h
  exact ⟨d, c, k, h1, h2, h3, h4, h5, by omega⟩
theorem Pur.same {H H' : Hp} {a : Addr} {m : Nat} (h : Pur H a m) (s : Same H H') : Pur H' a m := by
  obtain ⟨d, c, k, h1, h2⟩ := h
  exact ⟨d, c, k, s _ _ h1, h2⟩
theorem Pur.at {H : Hp} {a : Addr} {m : Nat} (h : Pur H a m) : ∃ o, H a = some o := by
  obtain ⟨d, c, k, h1, h2⟩ := h
  exact ⟨_, h1⟩
theorem Xt.same1 {a : Addr} {H H1 H2 : Hp} (x : Xt a H H1) (y : Same H1 H2) : Xt a H H2 := x.trans (Xt.of y)
theorem Xt.updNew {a D : Addr} {H H1 : Hp} {o : HO} (x : Xt a H H1) (h : H D = none) : Xt a H (L2.upd H1 D o) := fun b u nb hb => by
  rw [upd_ne (ne_of_none hb h)]
  exact x b u nb hb
theorem Xt.free {a D : Addr} {H H1 : Hp} (x : Xt a H H1) (n : D ≠ a) (h : H1 D = none) : H D = none := by
  cases e : H D with
  | none => rfl
  | some o => rw [x D o n e] at h; cases h
theorem Xt.back {a : Addr} {H H1 H2 : Hp} (s : Same H H1) (x : Xt a H1 H2) (h : H a = none) : Same H H2 := fun b o hb => x b o (ne_of_none hb h) (s b o hb)
theorem Pur.updNe {H : Hp} {a D : Addr} {m : Nat} {o : HO} (p : Pur H a m) (h : D ≠ a) : Pur (L2.upd H D o) a m := by
  obtain ⟨d, c, k, h1, h2⟩ := p
  exact ⟨d, c, k, by rw [upd_ne h.symm]; exact h1, h2⟩
theorem fmod_bd {x j : Int} (h : 0 < j) : 0 ≤ x.fmod j ∧ x.fmod j < j := ⟨Int.fmod_nonneg_of_pos x h, Int.fmod_lt_of_pos x h⟩
section
variable {c : Cs} {P : Program} {w : World} {K : PySem.W.Frag} {mg : Str → Option Value} {base : Heap}

abbrev s_Lat : Stmt := top 67
abbrev N_Lat : List Str := ["_law_script", "_law_k"]
abbrev P_Lat : List Str := ["_law_script", "_law_k"]
theorem sc_Lat : FnScope N_Lat ["_law_script", "_law_k"] (defScope s_Lat) := ⟨rfl, rfl, rfl, by decide +kernel, rfl, by decide +kernel, by decide +kernel⟩

def sp_Lat (K : PySem.W.Frag) : Sp := fun vs H Q _ => ∃ (a : Addr) (ns : List Int) (j : Nat), vs = [.ref a, .int (j : Nat)] ∧ SqL K H a (ns.map V.int) ∧ ∀ z : Int, Q (.int z) H
theorem ok_Lat (T : Txt K mg c) {f : Addr} {fd : FuncData} (F : L2.Fun K "_law_at" "_law_at" s_Lat f fd) : FnOk P w K mg base CX0 1 f fd P_Lat (sp_Lat K) := by
  refine F.ok sc_Lat (fun vs H Q E h => ?_) (fun cdv A outer s H vs Q E hr h => ?_)
  · obtain ⟨a, ns, j, rfl, _⟩ := h
    rfl
  · obtain ⟨a, ns, j, rfl, hS, k⟩ := h
    refine ⟨_, (pss_cons (ps_if (pt_cmpR op_lt (pv 1) (pe_callB call_len_seq (by rfl) T.z_len (by decide +kernel) (pa_cons (pv 0) pa_nil)) (nomark _)) (pss_one (ps_ret (pe_ix ix_list (pv 0) (pv 1) (fun _ _ => rfl)))) pss_nil)
      (pss_one (ps_ret pe_int))), ?_⟩
    refine ⟨_, rfl, _, rfl, a, _, rfl, .inl hS, _, _, rfl, rfl, _, rfl, ?_⟩
    refine ite2 (fun hc => ?_) (fun hc => ?_)
    · have hj : j < ns.length := by
        have := of_decide_eq_true hc
        rw [List.length_map] at this
        omega
      refine ⟨_, rfl, _, rfl, a, _, _, _, rfl, rfl, hS, atI_map (atI_nat (List.getElem?_eq_getElem hj)), k _⟩
    · exact k _

abbrev s_Lmixed : Stmt := top 68
abbrev N_Lmixed : List Str := ["_law_cell", "_law_k", "_law_figure"]
abbrev P_Lmixed : List Str := ["_law_cell", "_law_k"]
theorem sc_Lmixed : FnScope N_Lmixed ["_law_cell", "_law_k"] (defScope s_Lmixed) := ⟨rfl, rfl, rfl, by decide +kernel, rfl, by decide +kernel, by decide +kernel⟩

def sp_Lmixed : Sp := fun vs H Q _ => ∃ c k : Int, vs = [.int c, .int k] ∧ Bd (2 ^ 31) c ∧ Bd (2 ^ 40) k ∧ ∀ z : Int, 0 ≤ z → z < 2147483587 → Q (.int z) H
theorem ok_Lmixed (T : Txt K mg c) {f : Addr} {fd : FuncData} (F : L2.Fun K "_law_mixed" "_law_mixed" s_Lmixed f fd) : FnOk P w K mg base CX0 1 f fd P_Lmixed sp_Lmixed := by
  refine F.ok sc_Lmixed (fun vs H Q E h => ?_) (fun cdv A outer s H vs Q E hr h => ?_)
  · obtain ⟨c, k, rfl, _⟩ := h
    rfl
  · obtain ⟨c, k, rfl, hc, hk, q⟩ := h
    refine ⟨_, (pss_cons (ps_set (i := 2) sc_Lmixed.nd rfl (by first | exact Or.inl rfl | exact Or.inr rfl) (pe_op op_modN (pe_op op_add (pe_op op_add (pe_op op_add (pe_op op_mulW (pv 0) pe_int) (pe_op op_mulW (pe_op op_mulW pe_int (pv 1)) (pv 1))) (pv 1)) pe_int) pe_int))
      (pss_cons (ps_set (i := 2) sc_Lmixed.nd rfl (by first | exact Or.inl rfl | exact Or.inr rfl) (pe_op op_modN (pe_op op_add (pe_op op_mulW (pv 2) (pv 2)) pe_int) pe_int))
      (pss_one (ps_ret (pe_op op_modN (pe_op op_mulW (pv 2) pe_int) pe_int))))), ?_⟩
    have m1 : ∀ x : Int, Bd 2147483647 (x.fmod 2147483647) := fun x => by
      have := fmod_bd (x := x) (j := 2147483647) (by decide)
      unfold Bd; omega
    have m2 : ∀ x : Int, Bd 2147483629 (x.fmod 2147483629) := fun x => by
      have := fmod_bd (x := x) (j := 2147483629) (by decide)
      unfold Bd; omega
    refine ⟨_, rfl, _, _, rfl, rfl, hc.cm (bd_lit (n := 1103515245)), _, rfl, _, _, rfl, rfl, (bd_lit (n := 7919)).cm hk, _, rfl, _, _, rfl, rfl, ((bd_lit (n := 7919)).mul hk).cm hk, _, _, rfl, rfl, _, rfl, _, _, rfl, rfl, _, _, rfl, rfl, _, _, rfl, rfl, (show (2147483647 : Int) ≠ 0 by decide), ?_⟩
    refine ⟨_, rfl, _, rfl, _, _, rfl, rfl, (m1 _).cm (m1 _), _, _, rfl, rfl, _, _, rfl, rfl, (show (2147483629 : Int) ≠ 0 by decide), ?_⟩
    refine ⟨_, rfl, _, _, rfl, rfl, (m2 _).cm (bd_lit (n := 48271)), _, _, rfl, rfl, (show (2147483587 : Int) ≠ 0 by decide), ?_⟩
    have := fmod_bd (x := (Int.fmod (Int.fmod (c * 1103515245 + 7919 * k * k + k + 1) 2147483647 * Int.fmod (c * 1103515245 + 7919 * k * k + k + 1) 2147483647 + 69621) 2147483629) * 48271) (j := 2147483587) (by decide)
    exact q _ this.1 this.2

abbrev s_Lpurse : Stmt := top 69
abbrev N_Lpurse : List Str := ["_law_script", "_law_at_here", "_law_cell"]
abbrev P_Lpurse : List Str := ["_law_script", "_law_at_here"]
theorem sc_Lpurse : FnScope N_Lpurse ["_law_script", "_law_at_here"] (defScope s_Lpurse) := ⟨rfl, rfl, rfl, by decide +kernel, rfl, by decide +kernel, by decide +kernel⟩

def sp_Lpurse (K : PySem.W.Frag) : Sp := fun vs H Q _ => ∃ (a : Addr) (ns : List Int) (j : Nat), vs = [.ref a, .int (j : Nat)] ∧ SqL K H a (ns.map V.int) ∧ j ≤ 100 ∧
  ∀ H' p, Same H H' → H p = none → Pur H' p (1000 * j) → Q (.ref p) H'
theorem ok_Lpurse (T : Txt K mg c) {f : Addr} {fd : FuncData} (F : L2.Fun K "_law_purse" "_law_purse" s_Lpurse f fd) (h_Lat : Cal P w K mg base 1 "_law_at" (sp_Lat K) []) : FnOk P w K mg base CX0 2 f fd P_Lpurse (sp_Lpurse K) := by
  refine F.ok sc_Lpurse (fun vs H Q E h => ?_) (fun cdv A outer s H vs Q E hr h => ?_)
  · obtain ⟨a, ns, j, rfl, _⟩ := h
    rfl
  · obtain ⟨a, ns, j, rfl, hS, hj, k⟩ := h
    refine ⟨_, (pss_cons (ps_set (i := 2) sc_Lpurse.nd rfl (by first | exact Or.inl rfl | exact Or.inr rfl) (pe_c h_Lat hr (by decide) rfl (pa_cons (pv 0) (pa_cons (pv 1) pa_nil))))
      (pss_one (ps_ret (pe_lst (pa_cons (pe_op op_modN (pe_callB (call_max2 rfl) (by rfl) T.z_max (by decide +kernel) (pa_cons (pe_op op_sub (pv 2) (pe_op op_powW pe_int pe_int)) (pa_cons pe_int pa_nil))) (pe_op op_powW (pe_op op_powW pe_int pe_int) pe_int)) (pa_cons (pe_op op_modN (pv 2) pe_int) (pa_cons (pe_op op_mulW pe_int (pv 1)) pa_nil))))))), ?_⟩
    refine ⟨_, rfl, _, rfl, a, ns, j, rfl, hS, fun z => ?_⟩
    have bj : Bd 100 (j : Int) := by unfold Bd; omega
    refine ⟨_, rfl, _, _, rfl, rfl, ⟨by decide, by decide +kernel⟩, _, _, rfl, rfl, _, _, rfl, _, _, rfl, rfl, ⟨by decide, by decide +kernel⟩, _, _, rfl, rfl, ⟨by decide, by decide +kernel⟩, _, _, rfl, rfl, (show ((10 : Int) ^ (60 : Int).toNat) ^ (40 : Int).toNat ≠ 0 by decide +kernel), _, rfl, _, _, rfl, rfl, (show (2147483647 : Int) ≠ 0 by decide), _, rfl, _, _, rfl, rfl, (bd_lit (n := 1000)).cm bj, sz3, fun p hp => ?_⟩
    refine k _ p (same_new hp) hp ⟨_, _, _, upd_same, ?_, ?_, ?_, ?_, ?_⟩
    · exact (fmod_bd (by decide +kernel)).1
    · exact (fmod_bd (j := 2147483647) (by decide)).1
    · exact (fmod_bd (j := 2147483647) (by decide)).2
    · omega
    · omega

abbrev s_Ldraw : Stmt := top 70
abbrev N_Ldraw : List Str := ["_law_purse_here", "_law_out_of", "_law_figure", "_law_k", "_law_drawn_here"]
abbrev P_Ldraw : List Str := ["_law_purse_here", "_law_out_of"]
theorem sc_Ldraw : FnScope N_Ldraw ["_law_purse_here", "_law_out_of"] (defScope s_Ldraw) := ⟨rfl, rfl, rfl, by decide +kernel, rfl, by decide +kernel, by decide +kernel⟩

def sp_Ldraw : Sp := fun vs H Q _ => ∃ (a : Addr) (n : Int) (m : Nat), vs = [.ref a, .int n] ∧ 0 < n ∧ n < 2 ^ 200 ∧ Pur H a m ∧ m ≤ 2 ^ 30 ∧
  ∀ H' (z : Int), Xt a H H' → Pur H' a (m + 20) → 0 ≤ z → z < n → Q (.int z) H'
theorem bits_le {n : Int} (h0 : 0 < n) (h : n < 2 ^ 200) : Builtin.Int.intBits n ≤ 200 := by
  have h1 : n.natAbs < 2 ^ 200 := by
    have : (n.natAbs : Int) < ((2 ^ 200 : Nat) : Int) := by
      have e : ((2 ^ 200 : Nat) : Int) = 2 ^ 200 := by decide
      rw [e]; omega
    exact Int.ofNat_lt.mp this
  have h2 := PySem.Flt.log2_lt_of (by decide : 0 < 200) h1
  unfold Builtin.Int.intBits
  split <;> omega
theorem ok_Ldraw (T : Txt K mg c) {f : Addr} {fd : FuncData} (F : L2.Fun K "_law_draw" "_law_draw" s_Ldraw f fd) (h_Lmixed : Cal P w K mg base 1 "_law_mixed" sp_Lmixed []) : FnOk P w K mg base CX0 2 f fd P_Ldraw sp_Ldraw := by
  refine F.ok sc_Ldraw (fun vs H Q E h => ?_) (fun cdv A outer s H vs Q E hr h => ?_)
  · obtain ⟨a, n, m, rfl, _⟩ := h
    rfl
  · obtain ⟨a, n, m, rfl, hn, hn2, ⟨d, c, k0, ha, hd, hc, hc2, hk, hk2⟩, hm, k⟩ := h
    refine ⟨_, (pss_cons (ps_if (pt_cmpR op_gt (pe_ix ix_list (pv 0) pe_int (fun _ _ => rfl)) pe_int (nomark _)) (pss_cons (ps_set (i := 4) sc_Ldraw.nd rfl (by first | exact Or.inl rfl | exact Or.inr rfl) (pe_op op_modN (pe_ix ix_list (pv 0) pe_int (fun _ _ => rfl)) (pv 1)))
      (pss_cons (ps_asg (pe_op op_fdivA (pe_ix ix_list (pv 0) pe_int (fun _ _ => rfl)) (pv 1)) (pg_sub (pv 0) pe_int set_list))
      (pss_one (ps_ret (pv 4))))) pss_nil)
      (pss_cons (ps_set (i := 2) sc_Ldraw.nd rfl (by first | exact Or.inl rfl | exact Or.inr rfl) pe_int)
      (pss_cons (ps_for PassesOwn.never rfl (pi_range1 rfl T.z_range (pa_cons (pe_op op_add pe_int (pe_op op_fdivA (pe_bits (pv 1)) pe_int)) pa_nil)) (pg_name (i := 3) sc_Ldraw.nd rfl (by first | exact Or.inl rfl | exact Or.inr rfl)) (pss_cons (ps_asg (pe_op op_add (pe_ix ix_list (pv 0) pe_int (fun _ _ => rfl)) pe_int) (pg_sub (pv 0) pe_int set_list))
      (pss_one (ps_set (i := 2) sc_Ldraw.nd rfl (by first | exact Or.inl rfl | exact Or.inr rfl) (pe_op op_add (pe_op op_mulW (pv 2) pe_int) (pe_c h_Lmixed hr (by decide) rfl (pa_cons (pe_ix ix_list (pv 0) pe_int (fun _ _ => rfl)) (pa_cons (pe_ix ix_list (pv 0) pe_int (fun _ _ => rfl)) pa_nil))))))))
      (pss_one (ps_ret (pe_op op_modN (pv 2) (pv 1))))))), ?_⟩
    refine ⟨_, rfl, a, _, _, _, rfl, rfl, SqL.of ha, rfl, _, _, rfl, rfl, _, rfl, ?_⟩
    have szn : Sz 200 n := by
      unfold Sz
      have : (n.natAbs : Int) < ((2 ^ 200 : Nat) : Int) := by
        have e : ((2 ^ 200 : Nat) : Int) = 2 ^ 200 := by decide
        rw [e]; omega
      exact Int.ofNat_lt.mp this
    refine ite2 (fun hc0 => ?_) (fun hc0 => ?_)
    · have hd0 : 0 < d := of_decide_eq_true hc0
      refine ⟨_, rfl, a, _, _, _, rfl, rfl, SqL.of ha, rfl, _, rfl, _, _, rfl, rfl, Int.ne_of_gt hn, ?_⟩
      refine ⟨_, rfl, a, _, _, _, rfl, rfl, SqL.of ha, rfl, _, rfl, _, _, rfl, rfl, ⟨Int.ne_of_gt hn, szn.log (by decide) (by decide)⟩, _, rfl, a, _, _, _, rfl, rfl, ha, rfl, ?_⟩
      refine ⟨_, rfl, k _ _ Xt.upd ⟨_, _, _, upd_same, ?_, hc, hc2, hk, by omega⟩ (fmod_bd hn).1 (fmod_bd hn).2⟩
      rw [Int.fdiv_eq_ediv_of_nonneg d (by omega)]
      exact Int.ediv_nonneg hd (by omega)
    · refine ⟨_, rfl, _, rfl, _, _, rfl, rfl, ⟨(show (30 : Int) ≠ 0 by decide), (show (30 : Int).natAbs.log2 < 9000 by decide +kernel)⟩, _, _, rfl, rfl, ?_⟩
      have hb := bits_le hn hn2
      have hq : 0 ≤ Int.fdiv ((Builtin.Int.intBits n : Nat) : Int) 30 ∧ Int.fdiv ((Builtin.Int.intBits n : Nat) : Int) 30 ≤ 6 := by
        rw [Int.fdiv_eq_ediv_of_nonneg _ (by decide)]
        omega
      generalize Int.fdiv ((Builtin.Int.intBits n : Nat) : Int) 30 = e at hq ⊢
      refine ⟨1 + e, rfl, (show -(2 ^ 62 : Int) ≤ 1 + e by omega), (show 1 + e < (2 ^ 62 : Int) by omega), for_range (lo := 0) (n := (1 + e).toNat) (fun i σ H' => ∃ (fig : Int) (o1 o2 : Option V), σ = [some (.ref a), some (.int n), some (.int fig), o1, o2] ∧ Xt a H H' ∧ Pur H' a (m + i) ∧ Sz (40 * i + 1) fig ∧ 0 ≤ fig) ⟨0, none, none, rfl, Xt.refl _ _, ⟨d, c, k0, ha, hd, hc, hc2, hk, hk2⟩, (by decide : (0 : Int).natAbs < 2 ^ 1), by decide⟩ ?_ ?_⟩
      · rintro i σ H' hi ⟨fig, o1, o2, rfl, x1, ⟨d', c', k', ha', hd', hc', hc2', hk', hk2'⟩, sf, f0⟩
        have hi7 : i < 7 := by omega
        refine ⟨_, rfl, a, _, _, _, rfl, rfl, SqL.of ha', rfl, _, _, rfl, rfl, _, rfl, a, _, _, _, rfl, rfl, ha', rfl, ?_⟩
        refine ⟨_, rfl, _, _, rfl, rfl, sf.cmul (show Sz 40 2147483587 by unfold Sz; decide) (by omega) (by decide) (by omega), ?_⟩
        refine ⟨_, rfl, a, _, _, _, rfl, rfl, SqL.of upd_same, rfl, _, rfl, a, _, _, _, rfl, rfl, SqL.of upd_same, rfl, c', k' + 1, rfl, ?_, ?_, fun z z0 z1 => ?_⟩
        · unfold Bd; omega
        · unfold Bd; omega
        · refine ⟨_, _, rfl, rfl, ?_⟩
          refine ⟨fig * 2147483587 + z, _, _, rfl, x1.trans Xt.upd, ⟨d', c', k' + 1, upd_same, hd', hc', hc2', by omega, by omega⟩, ?_, ?_⟩
          · have s1 : Sz (40 * i + 1 + 39) (fig * 2147483587) := sf.mul (show Sz 39 2147483587 by unfold Sz; decide)
            have s2 : Sz (40 * i + 1 + 39) z := Sz.mono (n := 39) (by unfold Sz; omega) (by omega)
            exact (s1.add s2).mono (by omega)
          · have : 0 ≤ fig * 2147483587 := Int.mul_nonneg f0 (by decide)
            show 0 ≤ fig * 2147483587 + z
            omega
      · rintro σ H' ⟨fig, o1, o2, rfl, x1, hp, sf, f0⟩
        refine ⟨_, rfl, _, rfl, _, _, rfl, rfl, Int.ne_of_gt hn, ?_⟩
        exact k _ _ x1 (hp.mono (by omega)) (fmod_bd hn).1 (fmod_bd hn).2
end
end My

namespace My
open PySem PySem.Spec PyProof.Rows L2
open C8 (Cal pe_c pe_gc)
section
variable {c : Cs} {P : Program} {w : World} {K : PySem.W.Frag} {mg : Str → Option Value} {base : Heap}
abbrev s_NoPoly_init : Stmt := inClass (top 3) 0
abbrev N_NoPoly_init : List Str := ["self", "at"]
abbrev P_NoPoly_init : List Str := ["self", "at"]
theorem sc_NoPoly_init : FnScope N_NoPoly_init ["self", "at"] (defScope s_NoPoly_init) := ⟨rfl, rfl, rfl, by decide +kernel, rfl, by decide +kernel, by decide +kernel⟩

theorem ok_NoPoly_init (T : Txt K mg c) {dvs : List V} {kws : List (Str × V)} {f : Addr} {fd : FuncData} (F : FunD K "__init__" "NoPoly.__init__" (defArgs s_NoPoly_init) (defBody s_NoPoly_init) (defScope s_NoPoly_init) dvs kws f fd) : FnOk P w K mg base CX0 1 f fd P_NoPoly_init (sp_Ini K "at") := by
  refine F.ok sc_NoPoly_init (fun vs H Q E h => ?_) (fun cdv A outer s H vs Q E hr h => ?_)
  · obtain ⟨a, C, v, rfl, _⟩ := h
    rfl
  · obtain ⟨a, C, v, rfl, o, no, ha, k⟩ := h
    refine ⟨_, (pss_cons (ps_expr (pe_reinit rfl T.g_RootError T.ini_RootError (pa_cons (pv 0) (pa_cons pe_str pa_nil))))
      (pss_one (ps_ost (pv 0) (pv 1)))), ?_⟩
    refine ⟨_, rfl, a, C, _, rfl, (by decide), o, ha, ?_⟩
    exact ⟨_, rfl, _, rfl, a, C, rfl, o, no, .inl ⟨ha, fun dx n ne => k dx n ne⟩⟩
end
end My

namespace My
open PySem PySem.Spec PyProof.Rows L2
open C8 (Cal pe_c pe_gc)
section
variable {c : Cs} {P : Program} {w : World} {K : PySem.W.Frag} {mg : Str → Option Value} {base : Heap}

abbrev s_divisor : Stmt := top 19
abbrev N_divisor : List Str := ["one", "other"]
abbrev P_divisor : List Str := ["one", "other"]
theorem sc_divisor : FnScope N_divisor ["one", "other"] (defScope s_divisor) := ⟨rfl, rfl, rfl, by decide +kernel, rfl, by decide +kernel, by decide +kernel⟩

def sp_divisor : Sp := fun vs H Q _ => ∃ a b : Int, vs = [.int a, .int b] ∧ Q (.int (Int.gcd a b : Nat)) H
theorem ok_divisor (T : Txt K mg c) {f : Addr} {fd : FuncData} (F : L2.Fun K "divisor" "divisor" s_divisor f fd) : FnOk P w K mg base CX0 1 f fd ["one", "other"] sp_divisor := by
  refine F.ok sc_divisor (fun vs H Q E h => ?_) (fun cdv A outer s H vs Q E hr h => ?_)
  · obtain ⟨a, b, rfl, _⟩ := h
    rfl
  · obtain ⟨a, b, rfl, k⟩ := h
    refine ⟨_, (pss_cons (ps_while PassesOwn.never (pt_cmpR op_ne (pv 1) pe_int (nomark _)) (pss_one (ps_par (i := 0) (j := 1) (by rfl) sc_divisor.nd rfl rfl (by decide) rfl rfl (pa_cons (pv 1) (pa_cons (pe_op op_modN (pv 0) (pv 1)) pa_nil)) (by rfl))))
      (pss_one (ps_ret (pe_callB call_abs (by rfl) T.z_abs (by decide +kernel) (pa_cons (pv 0) pa_nil))))), ?_⟩
    refine while_by (fun σ H' => H' = H ∧ ∃ x y : Int, σ = [some (.int x), some (.int y)] ∧ Int.gcd x y = Int.gcd a b) (fun σ _ => match σ with | [_, some (.int y)] => y.natAbs | _ => 0) ⟨rfl, a, b, rfl, rfl⟩ ?_ ?_
    · rintro σ H' ⟨rfl, x, y, rfl, hg⟩
      refine ⟨_, rfl, rfl, _, rfl, ?_⟩
      refine ite2 (fun hc => ?_) (fun hc => ?_)
      · have hy : y ≠ 0 := by simpa using hc
        refine ⟨_, rfl, _, rfl, _, rfl, _, _, rfl, rfl, hy, _, _, rfl, ?_⟩
        exact ⟨⟨rfl, _, _, rfl, (gcd_fmod x y).trans hg⟩, fmod_lt hy⟩
      · have hy : y = 0 := by simpa using hc
        refine ⟨_, rfl, _, rfl, ?_⟩
        subst hy
        have e : (if x < 0 then -x else x) = ((Int.gcd a b : Nat) : Int) := by
          rw [← hg]
          rw [Int.gcd_zero_right]
          split <;> omega
        show Q (.int (if x < 0 then -x else x)) _
        rw [e]
        exact k
    · rintro σ H Q Q' hq ⟨v, h1, h2, k, h3, h4⟩
      exact ⟨v, h1, h2, k, h3, hq _ _ h4⟩

abbrev s_lowest : Stmt := top 20
abbrev N_lowest : List Str := ["top", "bottom", "share"]
abbrev P_lowest : List Str := ["top", "bottom"]
theorem sc_lowest : FnScope N_lowest ["top", "bottom"] (defScope s_lowest) := ⟨rfl, rfl, rfl, by decide +kernel, rfl, by decide +kernel, by decide +kernel⟩

def sp_lowest (K : PySem.W.Frag) : Sp := fun vs H Q _ => ∃ q : Int × Int, vs = [.int q.1, .int q.2] ∧ q.2 ≠ 0 ∧ Sz 8000 q.2 ∧ ∀ H' p, Same H H' → H' p = some (.tup (frV (low q))) → H p = none → Q (.ref p) H'
theorem ok_lowest (T : Txt K mg c) {f : Addr} {fd : FuncData} (F : L2.Fun K "lowest" "lowest" s_lowest f fd) (h_divisor : Cal P w K mg base 1 "divisor" sp_divisor []) : FnOk P w K mg base CX0 2 f fd ["top", "bottom"] (sp_lowest K) := by
  refine F.ok sc_lowest (fun vs H Q E h => ?_) (fun cdv A outer s H vs Q E hr h => ?_)
  · obtain ⟨q, rfl, _⟩ := h
    rfl
  · obtain ⟨⟨t, b⟩, rfl, hb, hz, k⟩ := h
    refine ⟨_, (pss_cons (ps_set (i := 2) sc_lowest.nd rfl (by first | exact Or.inl rfl | exact Or.inr rfl) (pe_c h_divisor hr (by decide) rfl (pa_cons (pv 0) (pa_cons (pv 1) pa_nil))))
      (pss_cons (ps_if (pt_cmpR op_lt (pv 1) pe_int (nomark _)) (pss_one (ps_set (i := 2) sc_lowest.nd rfl (by first | exact Or.inl rfl | exact Or.inr rfl) (pe_op op_sub pe_int (pv 2)))) pss_nil)
      (pss_one (ps_ret (pe_tup (pa_cons (pe_op op_fdivA (pv 0) (pv 2)) (pa_cons (pe_op op_fdivA (pv 1) (pv 2)) pa_nil))))))), ?_⟩
    have hb : b ≠ 0 := hb
    refine ⟨_, rfl, _, rfl, t, b, rfl, ?_⟩
    refine ⟨_, rfl, _, _, rfl, rfl, _, rfl, ?_⟩
    have sgo : shr t b ≠ 0 ∧ (shr t b).natAbs.log2 < 9000 := by
      refine ⟨shr_ne hb, ?_⟩
      have : Sz 8000 (shr t b) := by
        unfold Sz
        rw [shr_abs]
        have : Int.gcd t b ≤ b.natAbs := Nat.le_of_dvd (by omega) (Int.gcd_dvd_natAbs_right t b)
        exact Nat.lt_of_le_of_lt this hz
      exact this.log (by decide) (by decide)
    refine ite2 (fun hc => ?_) (fun hc => ?_)
    · have hn : b < 0 := by simpa using hc
      have e : (0 : Int) - ((Int.gcd t b : Nat) : Int) = shr t b := by unfold shr sg; rw [if_pos hn]; omega
      have c : ∀ i, CFd i ((0 : Int) - ((Int.gcd t b : Nat) : Int)) := fun i => by rw [e]; exact sgo
      refine ⟨_, rfl, _, _, rfl, rfl, ?_⟩
      refine ⟨_, rfl, _, rfl, _, _, rfl, rfl, c _, _, rfl, _, rfl, _, _, rfl, rfl, c _, sz2, fun p hp => ?_⟩
      refine k _ p (fun b o q => by rw [upd_ne (ne_of_none q hp)]; exact q) ?_ hp
      rw [upd_same]
      unfold frV low lowT lowB
      rw [← e]
    · have hn : ¬ b < 0 := by simpa using hc
      have e : ((Int.gcd t b : Nat) : Int) = shr t b := by unfold shr sg; rw [if_neg hn]; omega
      have c : ∀ i, CFd i ((Int.gcd t b : Nat) : Int) := fun i => by rw [e]; exact sgo
      refine ⟨_, rfl, _, rfl, _, _, rfl, rfl, c _, _, rfl, _, rfl, _, _, rfl, rfl, c _, sz2, fun p hp => ?_⟩
      refine k _ p (fun b o q => by rw [upd_ne (ne_of_none q hp)]; exact q) ?_ hp
      rw [upd_same]
      unfold frV low lowT lowB
      rw [← e]

abbrev s_plus_of : Stmt := top 21
abbrev N_plus_of : List Str := ["one", "other"]
abbrev P_plus_of : List Str := ["one", "other"]
theorem sc_plus_of : FnScope N_plus_of ["one", "other"] (defScope s_plus_of) := ⟨rfl, rfl, rfl, by decide +kernel, rfl, by decide +kernel, by decide +kernel⟩

def sp_plus_of (K : PySem.W.Frag) : Sp := fun vs H Q _ => ∃ (v u : V) (q r : Int × Int) (n m : Nat), vs = [v, u] ∧ FrAt K H v q ∧ FrAt K H u r ∧ OkQ n q ∧ OkQ m r ∧ n + m ≤ 8000 ∧ 0 < n ∧ 0 < m ∧ ∀ H' p, Same H H' → H' p = some (.tup (frV (addQ q r))) → H p = none → Q (.ref p) H'
theorem ok_plus_of (T : Txt K mg c) {f : Addr} {fd : FuncData} (F : L2.Fun K "plus_of" "plus_of" s_plus_of f fd) (h_lowest : Cal P w K mg base 2 "lowest" (sp_lowest K) []) : FnOk P w K mg base CX0 3 f fd ["one", "other"] (sp_plus_of K) := by
  refine F.ok sc_plus_of (fun vs H Q E h => ?_) (fun cdv A outer s H vs Q E hr h => ?_)
  · obtain ⟨v, u, q, r, n, m, rfl, _⟩ := h
    rfl
  · obtain ⟨v, u, q, r, n, m, rfl, ⟨pa, rfl, ha⟩, ⟨pb, rfl, hb⟩, oq, or, nm, n0, m0, k⟩ := h
    refine ⟨_, (pss_one (ps_ret (pe_c h_lowest hr (by decide) rfl (pa_cons (pe_op op_add (pe_op op_mulW (pe_ix ix_tup (pv 0) pe_int (fun _ _ => rfl)) (pe_ix ix_tup (pv 1) pe_int (fun _ _ => rfl))) (pe_op op_mulW (pe_ix ix_tup (pv 1) pe_int (fun _ _ => rfl)) (pe_ix ix_tup (pv 0) pe_int (fun _ _ => rfl)))) (pa_cons (pe_op op_mulW (pe_ix ix_tup (pv 0) pe_int (fun _ _ => rfl)) (pe_ix ix_tup (pv 1) pe_int (fun _ _ => rfl))) pa_nil))))), ?_⟩
    have ix0 : ∀ z : Int × Int, atI (frV z) 0 = some (V.int z.1) := fun z => rfl
    have ix1 : ∀ z : Int × Int, atI (frV z) 1 = some (V.int z.2) := fun z => rfl
    have ha := SqT.of (K := K) ha
    have hb := SqT.of (K := K) hb
    have c1 : CMulW q.1 r.2 := oq.t.cmul or.b n0 m0 (by omega)
    have c2 : CMulW r.1 q.2 := or.t.cmul oq.b m0 n0 (by omega)
    have c3 : CMulW q.2 r.2 := oq.b.cmul or.b n0 m0 (by omega)
    refine ⟨_, rfl, pa, _, _, _, rfl, rfl, ha, ix0 q, _, rfl, pb, _, _, _, rfl, rfl, hb, ix1 r, _, _, rfl, rfl, c1, _, rfl, pb, _, _, _, rfl, rfl, hb, ix0 r, _, rfl, pa, _, _, _, rfl, rfl, ha, ix1 q, _, _, rfl, rfl, c2, _, _, rfl, rfl,
      _, rfl, pa, _, _, _, rfl, rfl, ha, ix1 q, _, rfl, pb, _, _, _, rfl, rfl, hb, ix1 r, _, _, rfl, rfl, c3, ?_⟩
    exact ⟨(q.1 * r.2 + r.1 * q.2, q.2 * r.2), rfl, Int.ne_of_gt (Int.mul_pos oq.pos or.pos), (oq.b.mul or.b).mono (by omega), fun H' p sm hp hn => k H' p sm hp hn⟩

abbrev s_times_of : Stmt := top 22
abbrev N_times_of : List Str := ["one", "other"]
abbrev P_times_of : List Str := ["one", "other"]
theorem sc_times_of : FnScope N_times_of ["one", "other"] (defScope s_times_of) := ⟨rfl, rfl, rfl, by decide +kernel, rfl, by decide +kernel, by decide +kernel⟩

def sp_times_of (K : PySem.W.Frag) : Sp := fun vs H Q _ => ∃ (v u : V) (q r : Int × Int) (n m : Nat), vs = [v, u] ∧ FrAt K H v q ∧ FrAt K H u r ∧ OkQ n q ∧ OkQ m r ∧ n + m ≤ 8000 ∧ 0 < n ∧ 0 < m ∧ ∀ H' p, Same H H' → H' p = some (.tup (frV (mulQ q r))) → H p = none → Q (.ref p) H'
theorem ok_times_of (T : Txt K mg c) {f : Addr} {fd : FuncData} (F : L2.Fun K "times_of" "times_of" s_times_of f fd) (h_lowest : Cal P w K mg base 2 "lowest" (sp_lowest K) []) : FnOk P w K mg base CX0 3 f fd ["one", "other"] (sp_times_of K) := by
  refine F.ok sc_times_of (fun vs H Q E h => ?_) (fun cdv A outer s H vs Q E hr h => ?_)
  · obtain ⟨v, u, q, r, n, m, rfl, _⟩ := h
    rfl
  · obtain ⟨v, u, q, r, n, m, rfl, ⟨pa, rfl, ha⟩, ⟨pb, rfl, hb⟩, oq, or, nm, n0, m0, k⟩ := h
    refine ⟨_, (pss_one (ps_ret (pe_c h_lowest hr (by decide) rfl (pa_cons (pe_op op_mulW (pe_ix ix_tup (pv 0) pe_int (fun _ _ => rfl)) (pe_ix ix_tup (pv 1) pe_int (fun _ _ => rfl))) (pa_cons (pe_op op_mulW (pe_ix ix_tup (pv 0) pe_int (fun _ _ => rfl)) (pe_ix ix_tup (pv 1) pe_int (fun _ _ => rfl))) pa_nil))))), ?_⟩
    have ix0 : ∀ z : Int × Int, atI (frV z) 0 = some (V.int z.1) := fun z => rfl
    have ix1 : ∀ z : Int × Int, atI (frV z) 1 = some (V.int z.2) := fun z => rfl
    have ha := SqT.of (K := K) ha
    have hb := SqT.of (K := K) hb
    have c1 : CMulW q.1 r.1 := oq.t.cmul or.t n0 m0 (by omega)
    have c3 : CMulW q.2 r.2 := oq.b.cmul or.b n0 m0 (by omega)
    refine ⟨_, rfl, pa, _, _, _, rfl, rfl, ha, ix0 q, _, rfl, pb, _, _, _, rfl, rfl, hb, ix0 r, _, _, rfl, rfl, c1, _, rfl, pa, _, _, _, rfl, rfl, ha, ix1 q, _, rfl, pb, _, _, _, rfl, rfl, hb, ix1 r, _, _, rfl, rfl, c3, ?_⟩
    exact ⟨(q.1 * r.1, q.2 * r.2), rfl, Int.ne_of_gt (Int.mul_pos oq.pos or.pos), (oq.b.mul or.b).mono (by omega), fun H' p sm hp hn => k H' p sm hp hn⟩

end
end My

namespace My
open PySem PySem.Spec PyProof.Rows L2
open C8 (Cal pe_c pe_gc)
section
variable {c : Cs} {P : Program} {w : World} {K : PySem.W.Frag} {mg : Str → Option Value} {base : Heap}

abbrev s_told_by : Stmt := top 31
abbrev N_told_by : List Str := ["polynomial", "c", "b", "a"]
abbrev P_told_by : List Str := ["polynomial"]
theorem sc_told_by : FnScope N_told_by ["polynomial"] (defScope s_told_by) := ⟨rfl, rfl, rfl, by decide +kernel, rfl, by decide +kernel, by decide +kernel⟩

def sp_told_by (K : PySem.W.Frag) : Sp := fun vs H Q _ => ∃ (a : Addr) (ns : List Int), vs = [.ref a] ∧ SqL K H a (ns.map V.int) ∧ 2 ≤ ns.length ∧ ns.length ≤ 5 ∧ (∀ x ∈ ns, Bd 100 x) ∧ ∀ H', Same H H' → Q (.int (toldOf ns)) H'
theorem ok_told_by (T : Txt K mg c) {f : Addr} {fd : FuncData} (F : L2.Fun K "told_by" "told_by" s_told_by f fd) : FnOk P w K mg base CX0 1 f fd ["polynomial"] (sp_told_by K) := by
  refine F.ok sc_told_by (fun vs H Q E h => ?_) (fun cdv A outer s H vs Q E hr h => ?_)
  · obtain ⟨a, ns, rfl, _⟩ := h
    rfl
  · obtain ⟨p, ns, rfl, hS, l2, l5, sm, k⟩ := h
    refine ⟨_, (pss_cons (ps_if (pt_cmpR op_eq (pe_callB call_len_seq (by rfl) T.z_len (by decide +kernel) (pa_cons (pv 0) pa_nil)) pe_int (nomark _)) (pss_one (ps_ret pe_int)) pss_nil)
      (pss_cons (ps_if (pt_cmpR op_eq (pe_callB call_len_seq (by rfl) T.z_len (by decide +kernel) (pa_cons (pv 0) pa_nil)) pe_int (nomark _)) (pss_one (ps_ret (pe_op op_sub (pe_op op_mulW (pe_ix ix_list (pv 0) pe_int (fun _ _ => rfl)) (pe_ix ix_list (pv 0) pe_int (fun _ _ => rfl))) (pe_op op_mulW pe_int (pe_ix ix_list (pv 0) pe_int (fun _ _ => rfl)))))) pss_nil)
      (pss_cons (ps_asg (pe_slice sl_list (pv 0) po_none (po_some pe_int)) (pg_unl rfl (pgs_cons (pg_name (i := 1) sc_told_by.nd rfl (by first | exact Or.inl rfl | exact Or.inr rfl)) (pgs_cons (pg_name (i := 2) sc_told_by.nd rfl (by first | exact Or.inl rfl | exact Or.inr rfl)) (pgs_cons (pg_name (i := 3) sc_told_by.nd rfl (by first | exact Or.inl rfl | exact Or.inr rfl)) pgs_nil)))))
      (pss_cons (ps_if (pt_cmpR op_eq (pe_callB call_len_seq (by rfl) T.z_len (by decide +kernel) (pa_cons (pv 0) pa_nil)) pe_int (nomark _)) (pss_one (ps_ret (pe_op op_mulW (pv 1) (pe_op op_sub (pe_op op_mulW (pv 3) (pv 3)) (pe_op op_mulW pe_int (pv 1)))))) pss_nil)
      (pss_one (ps_ret (pe_op op_sub (pe_op op_sub (pe_op op_add (pe_op op_sub (pe_op op_mulW (pe_op op_mulW (pe_op op_mulW pe_int (pv 3)) (pv 2)) (pv 1)) (pe_op op_mulW (pe_op op_mulW (pe_op op_mulW (pe_op op_mulW pe_int (pv 3)) (pv 3)) (pv 3)) (pv 1))) (pe_op op_mulW (pe_op op_mulW (pe_op op_mulW (pv 3) (pv 3)) (pv 2)) (pv 2))) (pe_op op_mulW (pe_op op_mulW (pe_op op_mulW pe_int (pv 2)) (pv 2)) (pv 2))) (pe_op op_mulW (pe_op op_mulW pe_int (pv 1)) (pv 1))))))))), ?_⟩
    refine ⟨_, rfl, p, _, rfl, .inl hS, rfl, _, rfl, ?_⟩
    rcases ns with _ | ⟨c, _ | ⟨b, _ | ⟨a, _ | ⟨d, _ | ⟨e, _ | ⟨g, r⟩⟩⟩⟩⟩⟩
    · simp at l2
    · simp at l2
    · refine ite2 (fun hc => ?_) (fun hc => absurd (by simp) hc)
      exact k _ (Same.refl H)
    · have bc : Bd 100 c := sm _ (by simp)
      have bb : Bd 100 b := sm _ (by simp)
      refine ite2 (fun hc => absurd hc (by simp)) (fun hc => ?_)
      refine ⟨_, rfl, p, _, rfl, .inl hS, rfl, _, rfl, ?_⟩
      refine ite2 (fun hc => ?_) (fun hc => absurd (by simp) hc)
      refine ⟨_, rfl, p, _, _, _, rfl, rfl, hS, rfl, _, rfl, p, _, _, _, rfl, rfl, hS, rfl, _, _, rfl, rfl, bb.cm bb, _, rfl, p, _, _, _, rfl, rfl, hS, rfl, _, _, rfl, rfl, (bd_lit (n := 4)).cm bc, _, _, rfl, rfl, ?_⟩
      exact k _ (Same.refl H)
    · have bc : Bd 100 c := sm _ (by simp)
      have bb : Bd 100 b := sm _ (by simp)
      have ba : Bd 100 a := sm _ (by simp)
      refine ite2 (fun hc => absurd hc (by simp)) (fun hc => ?_)
      refine ⟨_, rfl, p, _, rfl, .inl hS, rfl, _, rfl, ?_⟩
      refine ite2 (fun hc => absurd hc (by simp)) (fun hc => ?_)
      refine ⟨_, rfl, _, rfl, p, _, rfl, hS, fun q hq => ?_⟩
      refine ⟨q, _, rfl, SqL.of upd_same, rfl, _, _, rfl, _, _, rfl, _, _, rfl, rfl, ?_⟩
      have hS' : SqL K (upd H q (.lst (cutV (List.map V.int [c, b, a, d]) none (some 3)))) p (List.map V.int [c, b, a, d]) := (same_new hq).seq hS
      refine ⟨_, rfl, p, _, rfl, .inl hS', rfl, _, rfl, ?_⟩
      refine ite2 (fun hc => absurd hc (by simp)) (fun hc => ?_)
      have b18 : Bd 18 18 := bd_lit
      have b4 : Bd 4 4 := bd_lit
      have b27 : Bd 27 27 := bd_lit
      refine ⟨_, rfl, _, _, rfl, rfl, b18.cm ba, _, rfl, _, _, rfl, rfl, (b18.mul ba).cm bb, _, rfl, _, _, rfl, rfl, ((b18.mul ba).mul bb).cm bc,
        _, rfl, _, _, rfl, rfl, b4.cm ba, _, rfl, _, _, rfl, rfl, (b4.mul ba).cm ba, _, rfl, _, _, rfl, rfl, ((b4.mul ba).mul ba).cm ba, _, rfl, _, _, rfl, rfl, (((b4.mul ba).mul ba).mul ba).cm bc, _, _, rfl, rfl,
        _, rfl, _, rfl, _, _, rfl, rfl, ba.cm ba, _, rfl, _, _, rfl, rfl, (ba.mul ba).cm bb, _, rfl, _, _, rfl, rfl, ((ba.mul ba).mul bb).cm bb, _, _, rfl, rfl,
        _, rfl, _, _, rfl, rfl, b4.cm bb, _, rfl, _, _, rfl, rfl, (b4.mul bb).cm bb, _, rfl, _, _, rfl, rfl, ((b4.mul bb).mul bb).cm bb, _, _, rfl, rfl,
        _, rfl, _, _, rfl, rfl, b27.cm bc, _, rfl, _, _, rfl, rfl, (b27.mul bc).cm bc, _, _, rfl, rfl, ?_⟩
      exact k _ (same_new hq)
    · have bc : Bd 100 c := sm _ (by simp)
      have ba : Bd 100 a := sm _ (by simp)
      refine ite2 (fun hc => absurd hc (by simp)) (fun hc => ?_)
      refine ⟨_, rfl, p, _, rfl, .inl hS, rfl, _, rfl, ?_⟩
      refine ite2 (fun hc => absurd hc (by simp)) (fun hc => ?_)
      refine ⟨_, rfl, _, rfl, p, _, rfl, hS, fun q hq => ?_⟩
      refine ⟨q, _, rfl, SqL.of upd_same, rfl, _, _, rfl, _, _, rfl, _, _, rfl, rfl, ?_⟩
      have hS' : SqL K (upd H q (.lst (cutV (List.map V.int [c, b, a, d, e]) none (some 3)))) p (List.map V.int [c, b, a, d, e]) := (same_new hq).seq hS
      refine ⟨_, rfl, p, _, rfl, .inl hS', rfl, _, rfl, ?_⟩
      refine ite2 (fun hc => ?_) (fun hc => absurd (by simp) hc)
      have b4 : Bd 4 4 := bd_lit
      refine ⟨_, rfl, _, rfl, _, rfl, _, _, rfl, rfl, ba.cm ba, _, rfl, _, _, rfl, rfl, b4.cm bc, _, _, rfl, rfl, _, _, rfl, rfl, bc.cm ((ba.mul ba).sub (b4.mul bc)), ?_⟩
      exact k _ (same_new hq)
    · simp at l5

end
end My

namespace My
open PySem PySem.Spec PyProof.Rows L2
open C8 (Cal pe_c pe_gc)
theorem atI_last {ns : List Int} (h : 0 < ns.length) : ∃ z, atI ns (-1) = some z := by
  have e : ixN ns.length (-1) = some (ns.length - 1) := by
    unfold ixN
    rw [if_neg (by decide), if_pos (by omega)]
    congr 1
    omega
  exact ⟨ns[ns.length - 1], by unfold atI; rw [e]; exact List.getElem?_eq_getElem (by omega)⟩
def firstBig : List Int → Option Nat
  | [] => none
  | x :: r => if 100 < x.natAbs then some 0 else (firstBig r).map (· + 1)
theorem fb_some : ∀ (ns : List Int) (i : Nat) (z : Int), ns[i]? = some z → 100 < z.natAbs → (∀ j y, j < i → ns[j]? = some y → y.natAbs ≤ 100) → firstBig ns = some i
  | [], i, z, h, _, _ => by simp at h
  | x :: r, 0, z, h, b, _ => by
    have e : x = z := Option.some.inj h
    subst e
    exact if_pos b
  | x :: r, i + 1, z, h, b, s => by
    have sx := s 0 x (by omega) rfl
    have ih := fb_some r i z h b fun j y hj hy => s (j + 1) y (by omega) hy
    show (if 100 < x.natAbs then some 0 else (firstBig r).map (· + 1)) = some (i + 1)
    rw [if_neg (by omega), ih]; rfl
theorem fb_none : ∀ (ns : List Int), (∀ y ∈ ns, y.natAbs ≤ 100) → firstBig ns = none
  | [], _ => rfl
  | x :: r, s => by
    have sx := s x (List.mem_cons_self ..)
    have ih := fb_none r fun y hy => s y (List.mem_cons_of_mem _ hy)
    show (if 100 < x.natAbs then some 0 else (firstBig r).map (· + 1)) = none
    rw [if_neg (by omega), ih]; rfl
/-- behind the first look: good?, the place at fault -/
def fault3 (ns : List Int) : Bool × Option Nat :=
  if atI ns (-1) ≠ some 1 then (false, some (ns.length - 1))
  else if ns.length = 5 ∧ ns[1]? ≠ some 0 then (false, some 1)
  else if ns.length = 5 ∧ ns[3]? ≠ some 0 then (false, some 3)
  else (decide (toldOf ns ≠ 0), none)
def faultOf (ns : List Int) : Bool × Option Nat :=
  if ns.length < 2 ∨ 5 < ns.length then (false, none)
  else match firstBig ns with
  | some k => (false, some k)
  | none => fault3 ns
theorem fault_len {ns : List Int} (h : ns.length < 2 ∨ 5 < ns.length) : faultOf ns = (false, none) := if_pos h
theorem fault_big {ns : List Int} {i : Nat} {z : Int} (h : ¬ (ns.length < 2 ∨ 5 < ns.length)) (hi : ns[i]? = some z) (b : 100 < z.natAbs) (s : ∀ j y, j < i → ns[j]? = some y → y.natAbs ≤ 100) : faultOf ns = (false, some i) := by
  unfold faultOf
  rw [if_neg h, fb_some ns i z hi b s]
theorem fault_small {ns : List Int} (h : ¬ (ns.length < 2 ∨ 5 < ns.length)) (s : ∀ y ∈ ns, y.natAbs ≤ 100) : faultOf ns = fault3 ns := by
  unfold faultOf
  rw [if_neg h, fb_none ns s]
theorem fb_all : ∀ (ns : List Int), firstBig ns = none → ∀ y ∈ ns, y.natAbs ≤ 100
  | [], _, y, hy => by cases hy
  | x :: r, h, y, hy => by
    have h' : (if 100 < x.natAbs then some 0 else (firstBig r).map (· + 1)) = none := h
    by_cases b : 100 < x.natAbs
    · rw [if_pos b] at h'; cases h'
    · rw [if_neg b] at h'
      have hr : firstBig r = none := by
        cases e : firstBig r with
        | none => rfl
        | some k => rw [e] at h'; cases h'
      rcases List.mem_cons.mp hy with rfl | hy
      · omega
      · exact fb_all r hr y hy
theorem good_of {ns : List Int} (h : (faultOf ns).1 = true) : GoodP ns := by
  unfold faultOf at h
  by_cases hl : ns.length < 2 ∨ 5 < ns.length
  · rw [if_pos hl] at h; cases h
  · rw [if_neg hl] at h
    cases e : firstBig ns with
    | some k => rw [e] at h; cases h
    | none =>
      rw [e] at h
      have sm := fb_all ns e
      have h : (fault3 ns).1 = true := h
      unfold fault3 at h
      by_cases c1 : atI ns (-1) ≠ some 1
      · rw [if_pos c1] at h; cases h
      · rw [if_neg c1] at h
        by_cases c2 : ns.length = 5 ∧ ns[1]? ≠ some 0
        · rw [if_pos c2] at h; cases h
        · rw [if_neg c2] at h
          by_cases c3 : ns.length = 5 ∧ ns[3]? ≠ some 0
          · rw [if_pos c3] at h; cases h
          · rw [if_neg c3] at h
            exact ⟨by omega, by omega, fun x hx => sm x hx, Classical.not_not.mp c1, fun l => Classical.not_not.mp fun z => c2 ⟨l, z⟩, fun l => Classical.not_not.mp fun z => c3 ⟨l, z⟩, of_decide_eq_true h⟩
def atV : Option Nat → V
  | some k => .int (k : Nat)
  | none => .non
section
variable {c : Cs} {P : Program} {w : World} {K : PySem.W.Frag} {mg : Str → Option Value} {base : Heap}
abbrev s_must_poly : Stmt := top 32
abbrev N_must_poly : List Str := ["polynomial", "many", "at", "number"]
abbrev P_must_poly : List Str := ["polynomial"]
theorem sc_must_poly : FnScope N_must_poly ["polynomial"] (defScope s_must_poly) := ⟨rfl, rfl, rfl, by decide +kernel, rfl, by decide +kernel, by decide +kernel⟩

def sp_must_poly (K : PySem.W.Frag) (c : Cs) : Sp := fun vs H Q E => ∃ (a : Addr) (ns : List Int), vs = [.ref a] ∧ SqL K H a (ns.map V.int) ∧ ((faultOf ns).1 = true → ∀ H', Same H H' → Q .non H') ∧
  ((faultOf ns).1 = false → ∀ d H', Same H H' → H d = none → H' d = some (.xd [("at", atV (faultOf ns).2)]) → E (.ref c.NoPoly) (some d) H')
theorem ok_must_poly (T : Txt K mg c) {f : Addr} {fd : FuncData} (F : L2.Fun K "must_poly" "must_poly" s_must_poly f fd) (h_told_by : Cal P w K mg base 1 "told_by" (sp_told_by K) []) (i_NoPoly : IniCal P w K mg base 1 "NoPoly" c.NoPoly "at" .non) : FnOk P w K mg base (L2.CX P w) 3 f fd P_must_poly (sp_must_poly K c) := by
  refine F.okX sc_must_poly (fun vs H Q E h => ?_) (fun cdv A outer s H vs Q E hr h => ?_)
  · obtain ⟨a, ns, rfl, _⟩ := h
    rfl
  · obtain ⟨p, ns, rfl, hS, k, kx⟩ := h
    have bad : ∀ at_ : Option Nat, faultOf ns = (false, at_) → ∀ d H', Same H H' → H d = none → H' d = some (.xd [("at", atV at_)]) → E (.ref c.NoPoly) (some d) H' := fun at_ e d H' sm n hd => by
      have h1 : (faultOf ns).1 = false := by rw [e]
      have h2 : (faultOf ns).2 = at_ := by rw [e]
      exact kx h1 d H' sm n (by rw [h2]; exact hd)
    refine ⟨_, (pss_cons (ps_set (i := 1) sc_must_poly.nd rfl (by first | exact Or.inl rfl | exact Or.inr rfl) (pe_callB call_len_seq (by rfl) T.z_len (by decide +kernel) (pa_cons (pv 0) pa_nil)))
      (pss_cons (ps_if (pt_not (pt_chain op_le op_le pe_int (pv 1) pe_int)) (pss_one (ps_raise rfl (takes_of rfl rfl rfl rfl) (pmk_np0 i_NoPoly hr (by decide) rfl))) pss_nil)
      (pss_cons (ps_for (passes_of rfl) rfl (pi_enum (by rfl) T.z_enumerate (pa_cons (pv 0) pa_nil)) (pg_tup rfl (pgs_cons (pg_name (i := 2) sc_must_poly.nd rfl (by first | exact Or.inl rfl | exact Or.inr rfl)) (pgs_cons (pg_name (i := 3) sc_must_poly.nd rfl (by first | exact Or.inl rfl | exact Or.inr rfl)) pgs_nil))) (pss_one (ps_if (pt_cmpR op_gt (pe_callB call_abs (by rfl) T.z_abs (by decide +kernel) (pa_cons (pv 3) pa_nil)) (pe_gc rfl T.mg_MOST) (nomark _)) (pss_one (ps_raise rfl (takes_of rfl rfl rfl rfl) (pmk_npK i_NoPoly hr (by decide) rfl (pk_cons (pv 2) pk_nil)))) pss_nil)))
      (pss_cons (ps_if (pt_cmpR op_ne (pe_ix ix_list (pv 0) (pe_un un_neg pe_int) (fun _ _ => rfl)) pe_int (nomark _)) (pss_one (ps_raise rfl (takes_of rfl rfl rfl rfl) (pmk_npK i_NoPoly hr (by decide) rfl (pk_cons (pe_op op_sub (pv 1) pe_int) pk_nil)))) pss_nil)
      (pss_cons (ps_for (passes_of rfl) rfl (pi_list (pe_lst (pa_cons pe_int (pa_cons pe_int pa_nil)))) (pg_name (i := 2) sc_must_poly.nd rfl (by first | exact Or.inl rfl | exact Or.inr rfl)) (pss_one (ps_if (PW.pt (pw_and (pt_cmpR op_eq (pv 1) pe_int (nomark _)) (pw_and1 (pt_cmpR op_ne (pe_ix ix_list (pv 0) (pv 2) (fun _ _ => rfl)) pe_int (nomark _))))) (pss_one (ps_raise rfl (takes_of rfl rfl rfl rfl) (pmk_npK i_NoPoly hr (by decide) rfl (pk_cons (pv 2) pk_nil)))) pss_nil)))
      (pss_one (ps_if (pt_cmpR op_eq (pe_c h_told_by hr (by decide) rfl (pa_cons (pv 0) pa_nil)) pe_int (nomark _)) (pss_one (ps_raise rfl (takes_of rfl rfl rfl rfl) (pmk_np0 i_NoPoly hr (by decide) rfl))) pss_nil))))))), ?_⟩
    refine ⟨_, rfl, p, _, rfl, .inl hS, ?_⟩
    have e0 : (List.map V.int ns).length = ns.length := List.length_map _
    refine ⟨_, rfl, _, _, rfl, rfl, _, rfl, ?_⟩
    refine ite2 (fun ha => ?_) (fun ha => ?_)
    · have ha' : 2 ≤ ns.length := by
        have := of_decide_eq_true ha
        rw [e0] at this
        omega
      refine ⟨_, _, rfl, rfl, _, rfl, ?_⟩
      refine ite2 (fun hb => ?_) (fun hb => ?_)
      · have hb' : 5 < ns.length := by
          have : ¬ (((List.map V.int ns).length : Nat) : Int) ≤ 5 := fun z => by rw [decide_eq_true z] at hb; cases hb
          rw [e0] at this
          omega
        exact fun d H' sm n hd => bad none (fault_len (.inr hb')) d H' sm n hd
      · have hb' : ns.length ≤ 5 := by
          have : (((List.map V.int ns).length : Nat) : Int) ≤ 5 := by
            refine Classical.byContradiction fun z => hb ?_
            rw [decide_eq_false z]; rfl
          rw [e0] at this
          omega
        have hl : ¬ (ns.length < 2 ∨ 5 < ns.length) := by omega
        refine ⟨_, rfl, p, _, rfl, hS, for_it walk_enum (fun i σ H' => (∃ o1 o2 : Option V, σ = [some (.ref p), some (.int ((List.map V.int ns).length : Nat)), o1, o2]) ∧ Same H H' ∧ ∀ j y, j < i → ns[j]? = some y → y.natAbs ≤ 100) ⟨⟨none, none, rfl⟩, Same.refl H, fun j y hj => by omega⟩ (fun i σ H' _ ⟨_, sm, _⟩ => sm.seq hS) ?_ ?_⟩
        · rintro i x σ H1 H' hi ⟨⟨o1, o2, rfl⟩, sm, bd⟩ ⟨t, y1, y2, rfl, hn, rfl, hy1, hy2⟩
          cases hy1
          obtain ⟨z, hz, rfl⟩ := item_of hy2
          refine ⟨t, _, rfl, SqT.of upd_same, rfl, _, _, rfl, _, _, rfl, rfl, ?_⟩
          refine ⟨_, rfl, _, rfl, _, _, rfl, rfl, _, rfl, ?_⟩
          refine ite2 (fun hc => ?_) (fun hc => ?_)
          · have big : 100 < z.natAbs := by
              have := of_decide_eq_true hc
              rw [abs_int] at this
              omega
            exact ⟨_, rfl, _, rfl, fun d H2 s2 n hd => bad (some i) (fault_big hl hz big bd) d H2 ((sm.trans (same_new hn)).trans s2) ((sm.trans (same_new hn)).free n) hd⟩
          · have sml : z.natAbs ≤ 100 := by
              have : ¬ (100 : Int) < (if z < 0 then -z else z) := fun q => hc (decide_eq_true q)
              rw [abs_int] at this
              omega
            refine ⟨⟨_, _, rfl⟩, sm.trans (same_new hn), fun j y hj hy => ?_⟩
            by_cases e : j = i
            · rw [e, hz] at hy
              cases hy
              exact sml
            · exact bd j y (by omega) hy
        · rintro σ H1 ⟨⟨o1, o2, rfl⟩, sm, bd⟩
          have all : ∀ y ∈ ns, y.natAbs ≤ 100 := fun y hy => by
            obtain ⟨j, hj, e⟩ := List.getElem_of_mem hy
            refine bd j y (by rw [List.length_map]; exact hj) ?_
            rw [List.getElem?_eq_getElem hj, e]
          have ef := fault_small hl all
          obtain ⟨z, hz⟩ := atI_last (ns := ns) (by omega)
          refine ⟨_, rfl, _, rfl, p, _, _, _, rfl, rfl, sm.seq hS, atI_map hz, rfl, _, rfl, ?_⟩
          refine ite2 (fun hc => ?_) (fun hc => ?_)
          · have z1 : z ≠ 1 := fun e => by rw [e] at hc; cases hc
            have f3 : faultOf ns = (false, some (ns.length - 1)) := by
              rw [ef]
              exact if_pos (fun q => z1 (by rw [hz] at q; exact Option.some.inj q))
            refine ⟨_, rfl, _, _, rfl, rfl, _, rfl, fun d H2 s2 n hd => bad _ f3 d H2 (sm.trans s2) (sm.free n) ?_⟩
            have e1 : atV (some (ns.length - 1)) = V.int ((((List.map V.int ns).length : Nat) : Int) - 1) := by
              show V.int ((ns.length - 1 : Nat) : Int) = _
              rw [e0]
              congr 1
              omega
            rw [e1]; exact hd
          · have z1 : z = 1 := by
              refine Classical.byContradiction fun q => hc ?_
              have : ¬ (V.int z = V.int 1) := fun w => q (by injection w)
              rw [decide_eq_false this]; rfl
            subst z1
            refine ⟨sz2, fun l hl_ => ?_⟩
            have sm1 : Same H (upd H1 l (.lst [V.int 1, V.int 3])) := sm.trans (same_new hl_)
            refine ⟨l, rfl, ⟨_, SqL.of upd_same⟩, for_list (K := K) (a := l) (xs := [V.int 1, V.int 3]) (fun i σ H' => (∃ o1 o2 : Option V, σ = [some (.ref p), some (.int ((List.map V.int ns).length : Nat)), o1, o2]) ∧ Same (upd H1 l (.lst [V.int 1, V.int 3])) H' ∧ (0 < i → ns.length = 5 → ns[1]? = some 0) ∧ (1 < i → ns.length = 5 → ns[3]? = some 0)) ⟨⟨_, _, rfl⟩, Same.refl _, by omega, by omega⟩ (fun i σ H' _ ⟨_, s2, _⟩ => s2.seq (SqL.of upd_same)) ?_ ?_⟩
            · rintro i x σ H' hi ⟨⟨o1, o2, rfl⟩, s2, g1, g3⟩
              have sm2 := sm1.trans s2
              refine ⟨_, rfl, rfl, _, rfl, ?_⟩
              have hix : (i = 0 ∧ x = .int 1) ∨ (i = 1 ∧ x = .int 3) := by
                rcases i with _ | _ | i
                · exact .inl ⟨rfl, (Option.some.inj hi).symm⟩
                · exact .inr ⟨rfl, (Option.some.inj hi).symm⟩
                · simp at hi
              refine ite2 (fun hc => ?_) (fun hc => ?_)
              · have h5 : ns.length = 5 := by
                  have := of_decide_eq_true hc
                  injection this with this
                  rw [e0] at this
                  omega
                have key : ∃ (j : Nat) (y : Int), x = V.int j ∧ ns[j]? = some y ∧ (y ≠ 0 → faultOf ns = (false, some j)) ∧ (y = 0 → (0 < i + 1 → ns.length = 5 → ns[1]? = some 0) ∧ (1 < i + 1 → ns.length = 5 → ns[3]? = some 0)) := by
                  have nl : ¬ (atI ns (-1) ≠ some 1) := fun q => q hz
                  rcases hix with ⟨rfl, rfl⟩ | ⟨rfl, rfl⟩
                  · refine ⟨1, ns[1], rfl, List.getElem?_eq_getElem (by omega), fun q => ?_, fun q => ⟨fun _ _ => ?_, fun q => by omega⟩⟩
                    · rw [ef]
                      unfold fault3
                      rw [if_neg nl, if_pos ⟨h5, fun w => q (by rw [List.getElem?_eq_getElem (by omega)] at w; exact Option.some.inj w)⟩]
                    · rw [List.getElem?_eq_getElem (by omega), q]
                  · refine ⟨3, ns[3], rfl, List.getElem?_eq_getElem (by omega), fun q => ?_, fun q => ⟨fun _ => g1 (by omega), fun _ _ => ?_⟩⟩
                    · rw [ef]
                      unfold fault3
                      rw [if_neg nl, if_neg (fun w => w.2 (g1 (by omega) h5)), if_pos ⟨h5, fun w => q (by rw [List.getElem?_eq_getElem (by omega)] at w; exact Option.some.inj w)⟩]
                    · rw [List.getElem?_eq_getElem (by omega), q]
                obtain ⟨j, y, rfl, hj, fy, fn⟩ := key
                refine ⟨_, rfl, _, rfl, p, _, _, _, rfl, rfl, sm2.seq hS, atI_map (atI_nat hj), rfl, _, rfl, ?_⟩
                refine ite2 (fun hc => ?_) (fun hc => ?_)
                · have y0 : y ≠ 0 := fun e => by rw [e] at hc; cases hc
                  exact ⟨_, rfl, _, rfl, fun d H2 s3 n hd => bad _ (fy y0) d H2 (sm2.trans s3) (sm2.free n) hd⟩
                · have y0 : y = 0 := by
                    refine Classical.byContradiction fun q => hc ?_
                    have : ¬ (V.int y = V.int 0) := fun w => q (by injection w)
                    rw [decide_eq_false this]; rfl
                  exact ⟨⟨_, _, rfl⟩, s2, (fn y0).1, (fn y0).2⟩
              · have h5 : ns.length ≠ 5 := fun e => hc (decide_eq_true (by rw [e0, e]; rfl))
                exact ⟨⟨_, _, rfl⟩, s2, fun _ e => absurd e h5, fun _ e => absurd e h5⟩
            · rintro σ H' ⟨⟨o1, o2, rfl⟩, s2, g1, g3⟩
              have sm2 := sm1.trans s2
              have f3 : faultOf ns = (decide (toldOf ns ≠ 0), none) := by
                rw [ef]
                unfold fault3
                rw [if_neg (fun q => q hz), if_neg (fun w => w.2 (g1 (by decide) w.1)), if_neg (fun w => w.2 (g3 (by decide) w.1))]
              refine ⟨_, rfl, p, ns, rfl, sm2.seq hS, ha', hb', all, fun H2 s3 => ?_⟩
              refine ⟨rfl, _, rfl, ?_⟩
              refine ite2 (fun hc => ?_) (fun hc => ?_)
              · have t0 : toldOf ns = 0 := by
                  have := of_decide_eq_true hc
                  injection this
                have f4 : faultOf ns = (false, none) := by
                  rw [f3, decide_eq_false (fun q => q t0)]
                exact fun d H3 s4 n hd => bad _ f4 d H3 ((sm2.trans s3).trans s4) ((sm2.trans s3).free n) hd
              · have t0 : toldOf ns ≠ 0 := fun e => hc (decide_eq_true (by rw [e]))
                refine k ?_ _ (sm2.trans s3)
                rw [f3]
                exact decide_eq_true t0
    · have ha' : ns.length < 2 := by
        have : ¬ (2 : Int) ≤ (((List.map V.int ns).length : Nat) : Int) := fun z => ha (decide_eq_true z)
        rw [e0] at this
        omega
      refine ⟨_, rfl, ?_⟩
      refine ite2 (fun _ => ?_) (fun hb => absurd (by first | rfl | (rw [eq_false_of_ne_true ha]; rfl)) hb)
      exact fun d H' sm n hd => bad none (fault_len (.inl ha')) d H' sm n hd
end
end My

namespace My
open PySem PySem.Spec PyProof.Rows L2
open C8 (Cal pe_c pe_gc)
section
variable {c : Cs} {P : Program} {w : World} {K : PySem.W.Frag} {mg : Str → Option Value} {base : Heap}

abbrev s_must_fraction : Stmt := top 33
abbrev N_must_fraction : List Str := ["fraction"]
abbrev P_must_fraction : List Str := ["fraction"]
theorem sc_must_fraction : FnScope N_must_fraction ["fraction"] (defScope s_must_fraction) := ⟨rfl, rfl, rfl, by decide +kernel, rfl, by decide +kernel, by decide +kernel⟩

def sp_must_fraction (K : PySem.W.Frag) (c : Cs) : Sp := fun vs H Q E => ∃ (v : V) (q : Int × Int), vs = [v] ∧ FrAt K H v q ∧ Sz 8000 q.2 ∧ (q.2 = 0 → E (.ref c.NoNumber) none H) ∧ (q.2 ≠ 0 → ∀ H' p, Same H H' → H' p = some (.tup (frV (low q))) → H p = none → Q (.ref p) H')
theorem ok_must_fraction (T : Txt K mg c) {f : Addr} {fd : FuncData} (F : L2.Fun K "must_fraction" "must_fraction" s_must_fraction f fd) (h_lowest : Cal P w K mg base 2 "lowest" (sp_lowest K) []) : FnOk P w K mg base (L2.CX P w) 3 f fd P_must_fraction (sp_must_fraction K c) := by
  refine F.okX sc_must_fraction (fun vs H Q E h => ?_) (fun cdv A outer s H vs Q E hr h => ?_)
  · obtain ⟨v, q, rfl, _⟩ := h
    rfl
  · obtain ⟨v, q, rfl, ⟨p, rfl, hp⟩, hz, k0, k⟩ := h
    refine ⟨_, (pss_cons (ps_if (pt_cmpR op_eq (pe_ix ix_tup (pv 0) pe_int (fun _ _ => rfl)) pe_int (nomark _)) (pss_one (ps_raise rfl (takes_of rfl rfl rfl rfl) (pmk_own PySem.F.excBase_ValueError T.x_NoNumber T.g_NoNumber T.k_NoNumber (raises_own T.b_NoNumber T.t_NoNumber) rfl))) pss_nil)
      (pss_one (ps_ret (pe_c h_lowest hr (by decide) rfl (pa_cons (pe_ix ix_tup (pv 0) pe_int (fun _ _ => rfl)) (pa_cons (pe_ix ix_tup (pv 0) pe_int (fun _ _ => rfl)) pa_nil)))))), ?_⟩
    have ix0 : ∀ z : Int × Int, atI (frV z) 0 = some (V.int z.1) := fun z => rfl
    have ix1 : ∀ z : Int × Int, atI (frV z) 1 = some (V.int z.2) := fun z => rfl
    have hp := SqT.of (K := K) hp
    refine ⟨_, rfl, p, _, _, _, rfl, rfl, hp, ix1 q, rfl, _, rfl, ?_⟩
    refine ite2 (fun hc => ?_) (fun hc => ?_)
    · have := of_decide_eq_true hc
      injection this with this
      exact k0 this
    · have hb : q.2 ≠ 0 := fun e => hc (decide_eq_true (by rw [e]))
      refine ⟨_, rfl, p, _, _, _, rfl, rfl, hp, ix0 q, _, rfl, p, _, _, _, rfl, rfl, hp, ix1 q, ?_⟩
      exact ⟨q, rfl, hb, hz, k hb⟩

/-- a polynomial's worth, from the greatest power on -/
def worthQ (ns : List Int) (by_ : Int × Int) : Int × Int := ns.reverse.foldl (fun f n => addQ (mulQ f by_) (n, 1)) (0, 1)
end
end My

namespace My
open PySem PySem.Spec PyProof.Rows L2
open C8 (Cal pe_c pe_gc)
section
variable {c : Cs} {P : Program} {w : World} {K : PySem.W.Frag} {mg : Str → Option Value} {base : Heap}
theorem cast_lt {a b : Nat} : ((a : Nat) : Int) < (b : Nat) ↔ a < b := Int.ofNat_lt
theorem cast_sq (x : Nat) : ((x : Nat) : Int) * (x : Nat) = ((x * x : Nat) : Int) := (Int.natCast_mul x x).symm
theorem fdiv_nat (a b : Nat) : Int.fdiv (a : Nat) (b : Nat) = ((a / b : Nat) : Int) := by
  rw [Int.fdiv_eq_ediv_of_nonneg _ (by omega)]; rfl
/-- a whole number of some size as one of Nat -/
theorem nat_of {n : Int} (h : 0 ≤ n) : ∃ m : Nat, n = (m : Nat) := ⟨n.toNat, by omega⟩
theorem log_small {x : Int} (h : x.natAbs < 2 ^ 60) : x.natAbs.log2 < 9000 := by
  by_cases z : x.natAbs = 0
  · rw [z]; decide
  · have := (Nat.log2_lt z).mpr h; omega

abbrev s_root_whole : Stmt := top 29
abbrev N_root_whole : List Str := ["number", "found"]
abbrev P_root_whole : List Str := ["number"]
theorem sc_root_whole : FnScope N_root_whole ["number"] (defScope s_root_whole) := ⟨rfl, rfl, rfl, by decide +kernel, rfl, by decide +kernel, by decide +kernel⟩

/-- whole roots: told where there is one, None where there is none -/
def sp_root : Sp := fun vs H Q _ => ∃ n : Int, vs = [.int n] ∧ n < 2 ^ 58 ∧ (∀ r : Nat, n = (r : Int) * r → Q (.int r) H) ∧ ((¬ ∃ r : Int, n = r * r) → Q .non H)
theorem no_root_neg {n : Int} (h : n < 0) : ¬ ∃ r : Int, n = r * r := fun ⟨r, e⟩ => by
  have : 0 ≤ r * r := by
    rcases Int.le_total 0 r with z | z
    · exact Int.mul_nonneg z z
    · exact Int.mul_nonneg_of_nonpos_of_nonpos z z
  omega
theorem no_root_nat {m : Nat} (h : ¬ ∃ r : Nat, m = r * r) : ¬ ∃ r : Int, (m : Int) = r * r := fun ⟨r, e⟩ => h ⟨r.natAbs, by
  have := congrArg Int.natAbs e
  rw [Int.natAbs_mul] at this
  simpa using this⟩
theorem ok_root_whole (T : Txt K mg c) {f : Addr} {fd : FuncData} (F : L2.Fun K "root_whole" "root_whole" s_root_whole f fd) : FnOk P w K mg base CX0 1 f fd P_root_whole sp_root := by
  refine F.ok sc_root_whole (fun vs H Q E h => ?_) (fun cdv A outer s H vs Q E hr h => ?_)
  · obtain ⟨n, rfl, _⟩ := h
    rfl
  · obtain ⟨n, rfl, hn, kY, kN⟩ := h
    refine ⟨_, (pss_cons (ps_if (pt_cmpR op_lt (pv 0) pe_int (nomark _)) (pss_one (ps_ret pe_non)) pss_nil)
      (pss_cons (ps_set (i := 1) sc_root_whole.nd rfl (by first | exact Or.inl rfl | exact Or.inr rfl) (pe_op op_shl pe_int (pe_op op_fdivA (pe_op op_add (pe_bits (pv 0)) pe_int) pe_int)))
      (pss_cons (ps_while PassesOwn.never (pt_cmpR op_gt (pe_op op_mulW (pv 1) (pv 1)) (pv 0) (nomark _)) (pss_one (ps_set (i := 1) sc_root_whole.nd rfl (by first | exact Or.inl rfl | exact Or.inr rfl) (pe_op op_fdivA (pe_op op_add (pv 1) (pe_op op_fdivA (pv 0) (pv 1))) pe_int))))
      (pss_cons (ps_if (pt_cmpR op_eq (pe_op op_mulW (pv 1) (pv 1)) (pv 0) (nomark _)) (pss_one (ps_ret (pv 1))) pss_nil)
      (pss_one (ps_ret pe_non)))))), ?_⟩
    refine ⟨_, rfl, _, _, rfl, rfl, _, rfl, ?_⟩
    refine ite2 (fun hc => ?_) (fun hc => ?_)
    · exact kN (no_root_neg (of_decide_eq_true hc))
    · have n0 : 0 ≤ n := by
        have : ¬ n < 0 := fun z => hc (decide_eq_true z)
        omega
      obtain ⟨m, rfl⟩ := nat_of n0
      have hm : m < 2 ^ 58 := by omega
      refine ⟨_, rfl, _, rfl, _, _, rfl, rfl, _, _, rfl, rfl, ⟨(show (2 : Int) ≠ 0 by decide), (show (2 : Int).natAbs.log2 < 9000 by decide +kernel)⟩, ?_⟩
      obtain ⟨bits, hbits⟩ : ∃ bits : Nat, bits = Builtin.Int.intBits (m : Nat) := ⟨_, rfl⟩
      have hb1 : m < 2 ^ bits := by
        rw [hbits]
        unfold Builtin.Int.intBits
        split
        · rename_i z
          have : m = 0 := by
            have := eq_of_beq z
            omega
          rw [this]; decide
        · exact Nat.lt_log2_self
      have hb2 : bits ≤ 58 := by
        rw [hbits]
        unfold Builtin.Int.intBits
        split
        · omega
        · rename_i z
          have nz : m ≠ 0 := fun e => z (by rw [e]; rfl)
          have := (Nat.log2_lt nz).mpr hm
          show m.log2 + 1 ≤ 58
          omega
      have ej : Int.fdiv (((Builtin.Int.intBits (m : Nat) : Nat) : Int) + 1) 2 = (((bits + 1) / 2 : Nat) : Int) := by
        rw [← hbits]
        exact fdiv_nat (bits + 1) 2
      have ej' : (1 : Int) * 2 ^ (Int.fdiv (((Builtin.Int.intBits (m : Nat) : Nat) : Int) + 1) 2).toNat = ((2 ^ ((bits + 1) / 2) : Nat) : Int) := by
        rw [ej, Int.one_mul]
        show (2 : Int) ^ ((bits + 1) / 2) = _
        rw [Int.natCast_pow]; rfl
      refine ⟨1, _, rfl, rfl, ⟨?_, ?_, (by decide)⟩, ?_⟩
      · rw [ej]; omega
      · rw [ej]; omega
      have st : m < (2 ^ ((bits + 1) / 2) + 1) * (2 ^ ((bits + 1) / 2) + 1) := by
        have h1 : 2 ^ bits ≤ 2 ^ ((bits + 1) / 2) * 2 ^ ((bits + 1) / 2) := by
          rw [← Nat.pow_add]
          exact Nat.pow_le_pow_right (by decide) (by omega)
        have h2 : 2 ^ ((bits + 1) / 2) * 2 ^ ((bits + 1) / 2) ≤ (2 ^ ((bits + 1) / 2) + 1) * (2 ^ ((bits + 1) / 2) + 1) := Nat.mul_le_mul (by omega) (by omega)
        omega
      have x0 : 2 ^ ((bits + 1) / 2) ≤ 2 ^ 30 := Nat.pow_le_pow_right (by decide) (by omega)
      have xp : 0 < 2 ^ ((bits + 1) / 2) := Nat.pow_pos (by decide)
      refine while_by (fun σ H' => H' = H ∧ ∃ x : Nat, σ = [some (.int (m : Nat)), some (.int (x : Nat))] ∧ m < (x + 1) * (x + 1) ∧ x ≤ 2 ^ 30) (fun σ _ => match σ with | [_, some (.int y)] => y.toNat | _ => 0) ⟨rfl, 2 ^ ((bits + 1) / 2), ?_, st, x0⟩ ?_ ?_
      · show [some (V.int (m : Nat)), some (V.int (1 * 2 ^ (Int.fdiv (((Builtin.Int.intBits (m : Nat) : Nat) : Int) + 1) 2).toNat))] = _
        rw [ej']
      · rintro σ H' ⟨rfl, x, rfl, hx, xs⟩
        have bx : Bd (2 ^ 30) (x : Nat) := by unfold Bd; omega
        refine ⟨_, rfl, _, rfl, _, _, rfl, rfl, bx.cm bx, _, rfl, _, _, rfl, rfl, _, rfl, ?_⟩
        refine ite2 (fun hc => ?_) (fun hc => ?_)
        · have hlt : m < x * x := by
            have := of_decide_eq_true hc
            rw [cast_sq] at this
            exact cast_lt.mp this
          have xpos : 0 < x := by
            rcases Nat.eq_zero_or_pos x with z | z
            · rw [z] at hlt; omega
            · exact z
          refine ⟨_, rfl, _, rfl, _, rfl, _, _, rfl, rfl, ⟨(show ((x : Nat) : Int) ≠ 0 by omega), log_small (by show x < 2 ^ 60; omega)⟩, _, _, rfl, rfl, _, _, rfl, rfl, ⟨(show (2 : Int) ≠ 0 by decide), (show (2 : Int).natAbs.log2 < 9000 by decide +kernel)⟩, ?_⟩
          have e1 : Int.fdiv (((x : Nat) : Int) + Int.fdiv (m : Nat) (x : Nat)) 2 = (((x + m / x) / 2 : Nat) : Int) := by
            rw [fdiv_nat]
            exact fdiv_nat (x + m / x) 2
          have less := newton_less xpos hlt
          refine ⟨⟨rfl, (x + m / x) / 2, ?_, newton xpos, by omega⟩, ?_⟩
          · show [some (V.int (m : Nat)), some (V.int (Int.fdiv (((x : Nat) : Int) + Int.fdiv (m : Nat) (x : Nat)) 2))] = _
            rw [e1]
          · show (Int.fdiv (((x : Nat) : Int) + Int.fdiv (m : Nat) (x : Nat)) 2).toNat < x
            rw [e1]; omega
        · have hge : x * x ≤ m := by
            have : ¬ ((m : Nat) : Int) < ((x : Nat) : Int) * (x : Nat) := fun z => hc (decide_eq_true z)
            rw [cast_sq] at this
            omega
          refine ⟨_, rfl, _, rfl, _, _, rfl, rfl, bx.cm bx, _, rfl, rfl, _, rfl, ?_⟩
          refine ite2 (fun hc2 => ?_) (fun hc2 => ?_)
          · have e : ((x : Nat) : Int) * (x : Nat) = (m : Nat) := by
              have := of_decide_eq_true hc2
              injection this
            exact ⟨_, rfl, kY x e.symm⟩
          · refine kN (no_root_nat fun ⟨r, e⟩ => hc2 (decide_eq_true ?_))
            have := root_is hge hx e
            subst this
            show V.int (((x : Nat) : Int) * (x : Nat)) = V.int (m : Nat)
            rw [cast_sq, e]
      · rintro σ H Q Q' hq ⟨v, h1, v2, h2, i, j, e1, e2, e3, v3, h3, i2, j2, e4, e5, k, e6, h4⟩
        exact ⟨v, h1, v2, h2, i, j, e1, e2, e3, v3, h3, i2, j2, e4, e5, k, e6, hq _ _ h4⟩
end
end My
namespace My
open PySem PySem.Spec PyProof.Rows L2
open C8 (Cal pe_c pe_gc)
section
variable {c : Cs} {P : Program} {w : World} {K : PySem.W.Frag} {mg : Str → Option Value} {base : Heap}
theorem bi_le {n f found rest : Nat} (h : BI n f found rest) (n0 : 0 < n) : 0 < found ∧ found ≤ n ∧ rest ≤ n ∧ found * rest ≤ n := by
  obtain ⟨k, e⟩ := h.eq
  have p1 : 0 < found * rest := by
    rcases Nat.eq_zero_or_pos (found * rest) with z | z
    · rw [z, Nat.zero_mul] at e; omega
    · exact z
  have p2 : 0 < k * k := by
    rcases Nat.eq_zero_or_pos (k * k) with z | z
    · rw [z, Nat.mul_zero] at e; omega
    · exact z
  have f0 : 0 < found := Nat.pos_of_mul_pos_right p1
  have l1 : found * rest ≤ n := by rw [e]; exact Nat.le_mul_of_pos_right _ p2
  exact ⟨f0, Nat.le_trans (Nat.le_mul_of_pos_right _ h.r0) l1, Nat.le_trans (Nat.le_mul_of_pos_left _ f0) l1, l1⟩
theorem fmod_nat (a b : Nat) : Int.fmod (a : Nat) (b : Nat) = ((a % b : Nat) : Int) := by
  rw [Int.fmod_eq_emod_of_nonneg _ (by omega)]; rfl
theorem ediv_nat (a b : Nat) : ((a : Nat) : Int) / ((b : Nat) : Int) = ((a / b : Nat) : Int) := rfl
theorem cast_mul (x y : Nat) : ((x : Nat) : Int) * (y : Nat) = ((x * y : Nat) : Int) := (Int.natCast_mul x y).symm
/-- the sign of a number other than 0 -/
def sgn (n : Int) : Int := if n < 0 then -1 else 1
theorem sgn_abs (n : Int) : n = sgn n * (n.natAbs : Int) := by
  unfold sgn
  split <;> omega
theorem sgn_natAbs (n : Int) : (sgn n).natAbs = 1 := by
  unfold sgn
  split <;> rfl
theorem bare_of_abs {n : Int} {b k : Nat} (b0 : 0 < b) (sb : SF b) (e : n.natAbs = b * (k * k)) : Bare (sgn n * (b : Nat)) n := by
  have ea : (sgn n * (b : Nat)).natAbs = b := by rw [Int.natAbs_mul, sgn_natAbs, Nat.one_mul]; rfl
  refine ⟨fun z => ?_, by rw [ea]; exact sb, (k : Nat), ?_⟩
  · rw [z] at ea
    have : (0 : Int).natAbs = 0 := rfl
    omega
  · conv => lhs; rw [sgn_abs n, e]
    rw [Int.natCast_mul, Int.natCast_mul, Int.mul_assoc]
abbrev s_bare_of : Stmt := top 30
abbrev N_bare_of : List Str := ["number", "found", "rest", "factor"]
abbrev P_bare_of : List Str := ["number"]
theorem sc_bare_of : FnScope N_bare_of ["number"] (defScope s_bare_of) := ⟨rfl, rfl, rfl, by decide +kernel, rfl, by decide +kernel, by decide +kernel⟩

def sp_bare_of : Sp := fun vs H Q _ => ∃ n : Int, vs = [.int n] ∧ n ≠ 0 ∧ Bd (10 ^ 13) n ∧ ∀ b : Int, Bare b n → Q (.int b) H
theorem ok_bare_of (T : Txt K mg c) {f : Addr} {fd : FuncData} (F : L2.Fun K "bare_of" "bare_of" s_bare_of f fd) (h_root_whole : Cal P w K mg base 1 "root_whole" sp_root []) : FnOk P w K mg base CX0 2 f fd P_bare_of sp_bare_of := by
  refine F.ok sc_bare_of (fun vs H Q E h => ?_) (fun cdv A outer s H vs Q E hr h => ?_)
  · obtain ⟨n, rfl, _⟩ := h
    rfl
  · obtain ⟨n, rfl, n0, hn, k⟩ := h
    refine ⟨_, (pss_cons (ps_set (i := 1) sc_bare_of.nd rfl (by first | exact Or.inl rfl | exact Or.inr rfl) pe_int)
      (pss_cons (ps_if (pt_cmpR op_lt (pv 0) pe_int (nomark _)) (pss_one (ps_set (i := 1) sc_bare_of.nd rfl (by first | exact Or.inl rfl | exact Or.inr rfl) (pe_un un_neg pe_int))) pss_nil)
      (pss_cons (ps_set (i := 2) sc_bare_of.nd rfl (by first | exact Or.inl rfl | exact Or.inr rfl) (pe_callB call_abs (by rfl) T.z_abs (by decide +kernel) (pa_cons (pv 0) pa_nil)))
      (pss_cons (ps_set (i := 3) sc_bare_of.nd rfl (by first | exact Or.inl rfl | exact Or.inr rfl) pe_int)
      (pss_cons (ps_while PassesOwn.never (pt_cmpR op_le (pe_op op_mulW (pe_op op_mulW (pv 3) (pv 3)) (pv 3)) (pv 2) (nomark _)) (pss_cons (ps_while PassesOwn.never (pt_cmpR op_eq (pe_op op_modN (pv 2) (pe_op op_mulW (pv 3) (pv 3))) pe_int (nomark _)) (pss_one (ps_aug (i := 2) sc_bare_of.nd rfl (by first | exact Or.inl rfl | exact Or.inr rfl) (pe_op op_mulW (pv 3) (pv 3)) ip_fdiv)))
      (pss_cons (ps_if (pt_cmpR op_eq (pe_op op_modN (pv 2) (pv 3)) pe_int (nomark _)) (pss_cons (ps_aug (i := 2) sc_bare_of.nd rfl (by first | exact Or.inl rfl | exact Or.inr rfl) (pv 3) ip_fdiv)
      (pss_one (ps_aug (i := 1) sc_bare_of.nd rfl (by first | exact Or.inl rfl | exact Or.inr rfl) (pv 3) ip_mul))) pss_nil)
      (pss_one (ps_aug (i := 3) sc_bare_of.nd rfl (by first | exact Or.inl rfl | exact Or.inr rfl) pe_int ip_add)))))
      (pss_cons (ps_if (pt_cmpR op_isN (pe_c h_root_whole hr (by decide) rfl (pa_cons (pv 2) pa_nil)) pe_non (nomark _)) (pss_one (ps_aug (i := 1) sc_bare_of.nd rfl (by first | exact Or.inl rfl | exact Or.inr rfl) (pv 2) ip_mul)) pss_nil)
      (pss_one (ps_ret (pv 1))))))))), ?_⟩
    have hN : n.natAbs ≤ 10 ^ 13 := hn
    have hN0 : 0 < n.natAbs := by omega
    have fits : ∀ {f fN r : Nat}, BI n.natAbs f fN r → fN ≤ 10 ^ 13 ∧ r ≤ 10 ^ 13 ∧ fN * r ≤ 10 ^ 13 := fun h => by
      have := bi_le h hN0
      omega
    have bs : Bd 1 (sgn n) := by unfold Bd; rw [sgn_natAbs]; omega
    refine ⟨_, rfl, _, _, rfl, rfl, _, rfl, ?_⟩
    refine ite2 (fun hc => ?neg) (fun hc => ?pos)
    case' neg =>
      have e : sgn n = -1 := if_pos (of_decide_eq_true hc)
      refine ⟨_, rfl, ?_⟩
    case' pos =>
      have e : sgn n = 1 := if_neg (fun z => hc (decide_eq_true z))
    all_goals
      refine ⟨_, rfl, _, rfl, ?_⟩
      refine while_by (fun σ H' => H' = H ∧ ∃ f fN r : Nat, σ = [some (.int n), some (.int (sgn n * (fN : Nat))), some (.int (r : Nat)), some (.int (f : Nat))] ∧ 2 ≤ f ∧ f ≤ 30000 ∧ BI n.natAbs f fN r) (fun σ _ => match σ with | [_, _, _, some (.int y)] => 40000 - y.toNat | _ => 0) ⟨rfl, 2, 1, n.natAbs, ?_, by omega, by omega, bi_start hN0⟩ ?_ ?_
      · show _ = [some (V.int n), some (V.int (sgn n * 1)), some (V.int n.natAbs), some (V.int 2)]
        rw [e, ← abs_int]; rfl
      · rintro σ H' ⟨rfl, f, fN, r, rfl, f2, fm, hb⟩
        obtain ⟨l1, l2, l3⟩ := fits hb
        have bf : Bd 30000 ((f : Nat) : Int) := by unfold Bd; omega
        have f0 : 0 < f * f := Nat.mul_pos (by omega) (by omega)
        refine ⟨_, rfl, _, rfl, _, _, rfl, rfl, bf.cm bf, _, rfl, _, _, rfl, rfl, (bf.mul bf).cm bf, _, rfl, _, _, rfl, rfl, _, rfl, ?_⟩
        refine ite2 (fun hc => ?_) (fun hc => ?_)
        · have hc1 : f * f * f ≤ r := by
            have := of_decide_eq_true hc
            rw [cast_mul, cast_mul] at this
            omega
          have fs : f < 29999 := by
            refine Nat.lt_of_not_le fun z => ?_
            have : 29999 * 29999 * 29999 ≤ f * f * f := Nat.mul_le_mul (Nat.mul_le_mul z z) z
            omega
          refine while_by (fun σ H2 => H2 = H' ∧ ∃ r : Nat, σ = [some (.int n), some (.int (sgn n * (fN : Nat))), some (.int (r : Nat)), some (.int (f : Nat))] ∧ BI n.natAbs f fN r) (fun σ _ => match σ with | [_, _, some (.int y), _] => y.toNat | _ => 0) ⟨rfl, r, rfl, hb⟩ ?_ ?_
          · rintro σ H2 ⟨rfl, r, rfl, hb⟩
            obtain ⟨l1, l2, l3⟩ := fits hb
            have ec : ((f : Nat) : Int) * (f : Nat) = ((f * f : Nat) : Int) := cast_mul f f
            refine ⟨_, rfl, _, rfl, _, rfl, _, _, rfl, rfl, bf.cm bf, _, _, rfl, rfl, (show ((f : Nat) : Int) * (f : Nat) ≠ 0 by rw [ec]; omega), rfl, _, rfl, ?_⟩
            refine ite2 (fun hd => ?_) (fun hd => ?_)
            · have dv : f * f ∣ r := by
                have : Int.fmod ((r : Nat) : Int) (((f : Nat) : Int) * (f : Nat)) = 0 := by
                  have := of_decide_eq_true hd
                  injection this
                rw [ec, fmod_nat] at this
                exact Nat.dvd_of_mod_eq_zero (by omega)
              refine ⟨_, rfl, _, rfl, _, rfl, _, _, rfl, rfl, bf.cm bf, _, _, rfl, rfl, ⟨(show (0 : Int) < ((f : Nat) : Int) * (f : Nat) by rw [ec]; omega), ?_⟩, ⟨rfl, r / (f * f), ?_, bi_sq f2 hb dv⟩, ?_⟩
              · exact log_small (Nat.lt_of_le_of_lt (bf.mul bf) (by decide))
              · show [some (V.int n), some (V.int (sgn n * (fN : Nat))), some (V.int ((r : Nat) / (((f : Nat) : Int) * (f : Nat)))), some (V.int (f : Nat))] = _
                rw [ec, ediv_nat]
              · show (((r : Nat) : Int) / (((f : Nat) : Int) * (f : Nat))).toNat < r
                rw [ec, ediv_nat]
                show r / (f * f) < r
                have := Nat.div_lt_self hb.r0 (show 1 < f * f by
                  have : 2 * 2 ≤ f * f := Nat.mul_le_mul f2 f2
                  omega)
                exact this
            · have nd : ¬ f * f ∣ r := fun ⟨q, e⟩ => hd (decide_eq_true (by
                show V.int (Int.fmod ((r : Nat) : Int) (((f : Nat) : Int) * (f : Nat))) = V.int 0
                rw [ec, fmod_nat, e, Nat.mul_mod_right]; rfl))
              refine ⟨_, rfl, _, rfl, _, _, rfl, rfl, (show ((f : Nat) : Int) ≠ 0 by omega), rfl, _, rfl, ?_⟩
              have lf : ((f : Nat) : Int).natAbs.log2 < 9000 := log_small (Nat.lt_of_le_of_lt bf (by decide))
              refine ite2 (fun hd => ?_) (fun hd => ?_)
              · have dv : f ∣ r := by
                  have : Int.fmod ((r : Nat) : Int) ((f : Nat) : Int) = 0 := by
                    have := of_decide_eq_true hd
                    injection this
                  rw [fmod_nat] at this
                  exact Nat.dvd_of_mod_eq_zero (by omega)
                have hb' := bi_one f2 hb nd dv
                refine ⟨_, rfl, _, rfl, _, _, rfl, rfl, ⟨(show (0 : Int) < (f : Nat) by omega), lf⟩, ?_⟩
                refine ⟨_, rfl, _, rfl, _, _, rfl, rfl, .inr ⟨by omega, by omega⟩, ?_⟩
                refine ⟨_, rfl, _, _, rfl, rfl, ⟨rfl, f + 1, fN * f, r / f, ?_, by omega, by omega, hb'⟩, ?_⟩
                · show [some (V.int n), some (V.int (sgn n * (fN : Nat) * (f : Nat))), some (V.int (((r : Nat) : Int) / (f : Nat))), some (V.int (((f : Nat) : Int) + 1))] = _
                  rw [Int.mul_assoc, cast_mul, ediv_nat]; rfl
                · show 40000 - (((f : Nat) : Int) + 1).toNat < 40000 - ((f : Nat) : Int).toNat
                  omega
              · have nd1 : ¬ f ∣ r := fun ⟨q, e⟩ => hd (decide_eq_true (by
                  show V.int (Int.fmod ((r : Nat) : Int) ((f : Nat) : Int)) = V.int 0
                  rw [fmod_nat, e, Nat.mul_mod_right]; rfl))
                refine ⟨_, rfl, _, _, rfl, rfl, ⟨rfl, f + 1, fN, r, ?_, by omega, by omega, bi_none hb nd1⟩, ?_⟩
                · rfl
                · show 40000 - (((f : Nat) : Int) + 1).toNat < 40000 - ((f : Nat) : Int).toNat
                  omega
          · rintro σ H Q Q' hq ⟨v, h1, v2, h2, v3, h3, i, j, e1, e2, e3, i2, j2, e4, e5, e6, u, k1, e7, h4⟩
            exact ⟨v, h1, v2, h2, v3, h3, i, j, e1, e2, e3, i2, j2, e4, e5, e6, u, k1, e7, hq _ _ h4⟩
        · have big : r < f * f * f := by
            have : ¬ (((f : Nat) : Int) * (f : Nat) * (f : Nat) ≤ (r : Nat)) := fun z => hc (decide_eq_true z)
            rw [cast_mul, cast_mul] at this
            omega
          obtain ⟨yes, no⟩ := bare_abs f2 hb big
          refine ⟨_, rfl, (r : Nat), rfl, by omega, fun m hm => ?_, fun hm => ?_⟩
          · have hm' : r = m * m := by
              rw [cast_mul] at hm
              omega
            obtain ⟨sf, kk, ek⟩ := yes m hm'
            refine ⟨rfl, _, rfl, ?_⟩
            refine ite2 (fun hd => nomatch of_decide_eq_true hd) (fun _ => ?_)
            exact ⟨_, rfl, k _ (bare_of_abs (bi_le hb hN0).1 sf ek)⟩
          · have hm' : ¬ ∃ m : Nat, r = m * m := fun ⟨m, e⟩ => hm ⟨(m : Nat), by rw [cast_mul, ← e]⟩
            obtain ⟨sf, kk, ek⟩ := no hm'
            refine ⟨rfl, _, rfl, ?_⟩
            refine ite2 (fun _ => ?_) (fun hd => absurd (decide_eq_true rfl) hd)
            refine ⟨_, rfl, _, rfl, _, _, rfl, rfl, .inr ⟨by omega, by omega⟩, _, rfl, ?_⟩
            have := bare_of_abs (n := n) (Nat.mul_pos (bi_le hb hN0).1 hb.r0) sf ek
            show Q (V.int (sgn n * (fN : Nat) * (r : Nat))) H'
            rw [Int.mul_assoc, cast_mul]
            exact k _ this
      · rintro σ H Q Q' hq ⟨v, h1, v2, h2, i, j, e1, e2, e3, v3, h3, i2, j2, e4, e5, e6, v4, h5, i3, j3, e7, e8, k1, e9, h4⟩
        exact ⟨v, h1, v2, h2, i, j, e1, e2, e3, v3, h3, i2, j2, e4, e5, e6, v4, h5, i3, j3, e7, e8, k1, e9, hq _ _ h4⟩
end
end My

/-! ### the rows of a house, in plain Lean -/
namespace My
open PySem PySem.Spec PyProof.Rows L2
open C8 (Cal pe_c pe_gc)
open Classical in
noncomputable def bareZ (n : Int) : Int := if h : ∃ b, Bare b n then Classical.choose h else 0
open Classical in
noncomputable def rootZ (n : Int) : Option Nat := if h : ∃ r : Nat, n = (r : Int) * r then some (Classical.choose h) else none
theorem bareZ_of {b n : Int} (n0 : n ≠ 0) (h : Bare b n) : bareZ n = b := by
  have e : ∃ b, Bare b n := ⟨b, h⟩
  unfold bareZ
  rw [dif_pos e]
  exact bare_unique n0 (Classical.choose_spec e) h
theorem sq_inj {r s : Nat} (h : (r : Int) * r = (s : Int) * s) : r = s := by
  have h' : r * r = s * s := by
    have a : ((r * r : Nat) : Int) = ((s * s : Nat) : Int) := by rw [Int.natCast_mul, Int.natCast_mul]; exact h
    omega
  exact Nat.mul_self_inj.mp h'
theorem rootZ_of {n : Int} {r : Nat} (h : n = (r : Int) * r) : rootZ n = some r := by
  have e : ∃ r : Nat, n = (r : Int) * r := ⟨r, h⟩
  unfold rootZ
  rw [dif_pos e]
  exact congrArg some (sq_inj ((Classical.choose_spec e).symm.trans h))
theorem rootZ_no {n : Int} (h : ¬ ∃ r : Int, n = r * r) : rootZ n = none := by
  unfold rootZ
  exact dif_neg fun ⟨r, e⟩ => h ⟨r, e⟩
theorem root_go {n : Int} {H : Hp} {Q : VK} (k : Q (atV (rootZ n)) H) : (∀ r : Nat, n = (r : Int) * r → Q (.int r) H) ∧ ((¬ ∃ r : Int, n = r * r) → Q .non H) :=
  ⟨fun r h => by rw [rootZ_of h] at k; exact k, fun h => by rw [rootZ_no h] at k; exact k⟩
def ovI : Option Int → V
  | some i => .int i
  | none => .non
def rootFrom (c b a : Int) : Nat → Int → Option Int
  | 0, _ => none
  | n + 1, r => if ((r + a) * r + b) * r + c = 0 then some r else rootFrom c b a n (r + 1)
def wholeZ (c b a : Int) : Option Int := rootFrom c b a 201 (-100)
theorem rootFrom_in {c b a : Int} : ∀ {n : Nat} {r z : Int}, rootFrom c b a n r = some z → r ≤ z ∧ z < r + n
  | 0, r, z, h => by cases h
  | n + 1, r, z, h => by
    have h' : (if ((r + a) * r + b) * r + c = 0 then some r else rootFrom c b a n (r + 1)) = some z := h
    by_cases e : ((r + a) * r + b) * r + c = 0
    · rw [if_pos e] at h'
      cases h'
      omega
    · rw [if_neg e] at h'
      have := rootFrom_in h'
      omega
theorem wholeZ_in {c b a z : Int} (h : wholeZ c b a = some z) : Bd 100 z := by
  have := rootFrom_in h
  unfold Bd
  omega
/-- a row: its degree, what the power of its letter is -/
abbrev Rw := Int × List (Int × Int)
def FrsAt (K : PySem.W.Frag) (H : Hp) (us : List V) (qs : List (Int × Int)) : Prop := Paired (FrAt K H) us qs
def RowAt (K : PySem.W.Frag) (H : Hp) (v : V) (r : Rw) : Prop := ∃ (p l : Addr) (us : List V), v = .ref p ∧ H p = some (.tup [.int r.1, .ref l]) ∧ H l = some (.lst us) ∧ FrsAt K H us r.2
def RowsIn (K : PySem.W.Frag) (H : Hp) (us : List V) (rs : List Rw) : Prop := Paired (RowAt K H) us rs
def RowsAt (K : PySem.W.Frag) (H : Hp) (v : V) (rs : List Rw) : Prop := ∃ (l : Addr) (us : List V), v = .ref l ∧ H l = some (.lst us) ∧ RowsIn K H us rs
theorem Paired.imp {α β : Type} {F G : α → β → Prop} (f : ∀ a b, F a b → G a b) : ∀ {l : List α} {m : List β}, Paired F l m → Paired G l m
  | _, _, .nil => .nil
  | _, _, .cons h t => .cons (f _ _ h) (Paired.imp f t)
theorem FrsAt.mono {K : PySem.W.Frag} {H H' : Hp} {us : List V} {qs : List (Int × Int)} (h : FrsAt K H us qs) (s : Same H H') : FrsAt K H' us qs := Paired.imp (fun _ _ x => x.mono s) h
theorem RowAt.mono {K : PySem.W.Frag} {H H' : Hp} {v : V} {r : Rw} (h : RowAt K H v r) (s : Same H H') : RowAt K H' v r := by
  obtain ⟨p, l, us, e, h1, h2, h3⟩ := h
  exact ⟨p, l, us, e, s _ _ h1, s _ _ h2, h3.mono s⟩
theorem RowsIn.mono {K : PySem.W.Frag} {H H' : Hp} {us : List V} {rs : List Rw} (h : RowsIn K H us rs) (s : Same H H') : RowsIn K H' us rs := Paired.imp (fun _ _ x => x.mono s) h
theorem RowsAt.mono {K : PySem.W.Frag} {H H' : Hp} {v : V} {rs : List Rw} (h : RowsAt K H v rs) (s : Same H H') : RowsAt K H' v rs := by
  obtain ⟨l, us, e, h1, h2⟩ := h
  exact ⟨l, us, e, s _ _ h1, h2.mono s⟩
noncomputable def rows2 (p q : Int) : List Rw := if bareZ (p * p - 4 * q) = 1 then [] else [(2, [(bareZ (p * p - 4 * q), 1)])]
section
variable {c : Cs} {P : Program} {w : World} {K : PySem.W.Frag} {mg : Str → Option Value} {base : Heap}
theorem frs_rep {H : Hp} {u : V} {q : Int × Int} (h : FrAt K H u q) : ∀ k : Nat, FrsAt K H (List.replicate k [u]).flatten (List.replicate k q)
  | 0 => .nil
  | k + 1 => .cons h (frs_rep h k)
abbrev s_nought : Stmt := top 42
abbrev N_nought : List Str := ["many"]
abbrev P_nought : List Str := ["many"]
theorem sc_nought : FnScope N_nought ["many"] (defScope s_nought) := ⟨rfl, rfl, rfl, by decide +kernel, rfl, by decide +kernel, by decide +kernel⟩

def sp_nought (K : PySem.W.Frag) : Sp := fun vs H Q _ => ∃ k : Nat, vs = [.int (k : Nat)] ∧ k ≤ 100 ∧ ∀ H' p us, Same H H' → H p = none → H' p = some (.lst us) → FrsAt K H' us (List.replicate k (0, 1)) → Q (.ref p) H'
theorem ok_nought (T : Txt K mg c) {f : Addr} {fd : FuncData} (F : L2.Fun K "nought" "nought" s_nought f fd) : FnOk P w K mg base CX0 1 f fd P_nought (sp_nought K) := by
  refine F.ok sc_nought (fun vs H Q E h => ?_) (fun cdv A outer s H vs Q E hr h => ?_)
  · obtain ⟨n, rfl, _⟩ := h
    rfl
  · obtain ⟨n, rfl, hn, k⟩ := h
    refine ⟨_, (pss_one (ps_ret (pe_op op_rep (pe_lst (pa_cons (pe_tup (pa_cons pe_int (pa_cons pe_int pa_nil))) pa_nil)) (pv 0)))), ?_⟩
    refine ⟨sz2, fun t ht => ⟨(show 1 ≤ sizeLine by decide), fun l hl => ?_⟩⟩
    refine ⟨_, rfl, l, _, _, rfl, rfl, upd_same, by omega, by omega, ?_, fun p hp => ?_⟩
    · show 1 * _ ≤ sizeLine
      rw [Nat.one_mul]
      exact Nat.le_trans (show (n : Int).toNat ≤ 100 by omega) (by decide)
    · have s1 := same_new (o := .tup [V.int 0, V.int 1]) ht
      have s2 := same_new (o := .lst [V.ref t]) hl
      have s3 := same_new (o := .lst (List.replicate (n : Int).toNat [V.ref t]).flatten) hp
      refine k _ p _ ((s1.trans s2).trans s3) ((s1.trans s2).free hp) upd_same ?_
      have : FrAt K (upd (upd (upd H t (.tup [V.int 0, V.int 1])) l (.lst [V.ref t])) p (.lst (List.replicate (n : Int).toNat [V.ref t]).flatten)) (.ref t) (0, 1) := FrAt.mono (FrAt.new (q := (0, 1)) upd_same) (s2.trans s3)
      exact frs_rep this n
abbrev s_whole_root : Stmt := top 49
abbrev N_whole_root : List Str := ["polynomial", "root", "c", "b", "a"]
abbrev P_whole_root : List Str := ["polynomial"]
theorem sc_whole_root : FnScope N_whole_root ["polynomial"] (defScope s_whole_root) := ⟨rfl, rfl, rfl, by decide +kernel, rfl, by decide +kernel, by decide +kernel⟩

def sp_whole_root (K : PySem.W.Frag) : Sp := fun vs H Q _ => ∃ (l : Addr) (ns : List Int) (c b a : Int), vs = [.ref l] ∧ SqL K H l (ns.map V.int) ∧ (∃ d, ns = [c, b, a, d]) ∧ Bd 100 c ∧ Bd 100 b ∧ Bd 100 a ∧ ∀ H', Same H H' → Q (ovI (wholeZ c b a)) H'
theorem ok_whole_root (T : Txt K mg c) {f : Addr} {fd : FuncData} (F : L2.Fun K "whole_root" "whole_root" s_whole_root f fd) : FnOk P w K mg base CX0 1 f fd P_whole_root (sp_whole_root K) := by
  refine F.ok sc_whole_root (fun vs H Q E h => ?_) (fun cdv A outer s H vs Q E hr h => ?_)
  · obtain ⟨l, ns, c, b, a, rfl, _⟩ := h
    rfl
  · obtain ⟨l, ns, c, b, a, rfl, hS, ⟨d, rfl⟩, bc, bb, ba, k⟩ := h
    refine ⟨_, (pss_cons (ps_asg (pe_slice sl_list (pv 0) po_none (po_some pe_int)) (pg_unl rfl (pgs_cons (pg_name (i := 2) sc_whole_root.nd rfl (by first | exact Or.inl rfl | exact Or.inr rfl)) (pgs_cons (pg_name (i := 3) sc_whole_root.nd rfl (by first | exact Or.inl rfl | exact Or.inr rfl)) (pgs_cons (pg_name (i := 4) sc_whole_root.nd rfl (by first | exact Or.inl rfl | exact Or.inr rfl)) pgs_nil)))))
      (pss_cons (ps_for PassesOwn.never rfl (pi_range2 rfl T.z_range (pa_cons (pe_un un_neg pe_int) (pa_cons pe_int pa_nil))) (pg_name (i := 1) sc_whole_root.nd rfl (by first | exact Or.inl rfl | exact Or.inr rfl)) (pss_one (ps_if (pt_cmpR op_eq (pe_op op_add (pe_op op_mulW (pe_op op_add (pe_op op_mulW (pe_op op_add (pv 1) (pv 4)) (pv 1)) (pv 3)) (pv 1)) (pv 2)) pe_int (nomark _)) (pss_one (ps_ret (pv 1))) pss_nil)))
      (pss_one (ps_ret pe_non)))), ?_⟩
    refine ⟨_, rfl, _, rfl, l, _, rfl, hS, fun q hq => ?_⟩
    have s1 := same_new (o := .lst [V.int c, V.int b, V.int a]) hq
    refine ⟨q, _, rfl, SqL.of upd_same, rfl, _, _, rfl, _, _, rfl, _, _, rfl, rfl, ?_⟩
    refine ⟨_, rfl, -100, 101, rfl, ⟨by decide, by decide, by decide, by decide⟩, for_range (lo := -100) (n := 201) (fun i σ H' => H' = upd H q (.lst [V.int c, V.int b, V.int a]) ∧ ∃ o : Option V, σ = [some (.ref l), o, some (.int c), some (.int b), some (.int a)] ∧ rootFrom c b a 201 (-100) = rootFrom c b a (201 - i) (-100 + (i : Nat))) ⟨rfl, _, rfl, rfl⟩ ?_ ?_⟩
    · rintro i σ H' hi ⟨rfl, o, rfl, he⟩
      have bi : Bd 200 (-100 + (i : Int)) := by unfold Bd; omega
      obtain ⟨m, hm⟩ : ∃ m, 201 - i = m + 1 := ⟨201 - i - 1, by omega⟩
      refine ⟨_, rfl, _, rfl, _, _, rfl, rfl, _, rfl, _, _, rfl, rfl, (bi.add ba).cm bi, _, rfl, _, _, rfl, rfl, _, rfl, _, _, rfl, rfl, (((bi.add ba).mul bi).add bb).cm bi, _, rfl, _, _, rfl, rfl, rfl, _, rfl, ?_⟩
      refine ite2 (fun hc => ?_) (fun hc => ?_)
      · have e0 : ((-100 + (i : Int) + a) * (-100 + (i : Int)) + b) * (-100 + (i : Int)) + c = 0 := by
          have := of_decide_eq_true hc
          injection this
        have ew : wholeZ c b a = some (-100 + (i : Int)) := by
          unfold wholeZ
          rw [he, hm]
          exact if_pos e0
        have := k _ s1
        rw [ew] at this
        exact ⟨_, rfl, this⟩
      · have e0 : ¬ ((-100 + (i : Int) + a) * (-100 + (i : Int)) + b) * (-100 + (i : Int)) + c = 0 := fun z => hc (decide_eq_true (by rw [← z]))
        refine ⟨rfl, _, rfl, ?_⟩
        rw [he, hm]
        have e1 : rootFrom c b a (m + 1) (-100 + (i : Int)) = rootFrom c b a m (-100 + (i : Int) + 1) := if_neg e0
        rw [e1]
        have e2 : 201 - (i + 1) = m := by omega
        rw [e2]
        congr 1
        omega
    · rintro σ H' ⟨rfl, o, rfl, he⟩
      have ew : wholeZ c b a = none := he
      have := k _ s1
      rw [ew] at this
      exact this
abbrev s_rows_by_two : Stmt := top 51
abbrev N_rows_by_two : List Str := ["p", "q", "number"]
abbrev P_rows_by_two : List Str := ["p", "q"]
theorem sc_rows_by_two : FnScope N_rows_by_two ["p", "q"] (defScope s_rows_by_two) := ⟨rfl, rfl, rfl, by decide +kernel, rfl, by decide +kernel, by decide +kernel⟩

def sp_rows_by_two (K : PySem.W.Frag) : Sp := fun vs H Q _ => ∃ p q : Int, vs = [.int p, .int q] ∧ Bd 1000000 p ∧ Bd 1000000 q ∧ p * p - 4 * q ≠ 0 ∧ ∀ H' v, Same H H' → RowsAt K H' v (rows2 p q) → Q v H'
theorem ok_rows_by_two (T : Txt K mg c) {f : Addr} {fd : FuncData} (F : L2.Fun K "rows_by_two" "rows_by_two" s_rows_by_two f fd) (h_bare_of : Cal P w K mg base 2 "bare_of" sp_bare_of []) : FnOk P w K mg base CX0 3 f fd P_rows_by_two (sp_rows_by_two K) := by
  refine F.ok sc_rows_by_two (fun vs H Q E h => ?_) (fun cdv A outer s H vs Q E hr h => ?_)
  · obtain ⟨p, q, rfl, _⟩ := h
    rfl
  · obtain ⟨p, q, rfl, bp, bq, ne, k⟩ := h
    refine ⟨_, (pss_cons (ps_set (i := 2) sc_rows_by_two.nd rfl (by first | exact Or.inl rfl | exact Or.inr rfl) (pe_c h_bare_of hr (by decide) rfl (pa_cons (pe_op op_sub (pe_op op_mulW (pv 0) (pv 0)) (pe_op op_mulW pe_int (pv 1))) pa_nil)))
      (pss_cons (ps_if (pt_cmpR op_eq (pv 2) pe_int (nomark _)) (pss_one (ps_ret (pe_lst pa_nil))) pss_nil)
      (pss_one (ps_ret (pe_lst (pa_cons (pe_tup (pa_cons pe_int (pa_cons (pe_lst (pa_cons (pe_tup (pa_cons (pv 2) (pa_cons pe_int pa_nil))) pa_nil)) pa_nil))) pa_nil)))))), ?_⟩
    refine ⟨_, rfl, _, rfl, _, _, rfl, rfl, bp.cm bp, _, rfl, _, _, rfl, rfl, (bd_lit (n := 4)).cm bq, _, _, rfl, rfl, p * p - 4 * q, rfl, ne, ?_, fun b hb => ?_⟩
    · exact Nat.le_trans ((bp.mul bp).sub ((bd_lit (n := 4)).mul bq)) (by decide)
    · have e := bareZ_of ne hb
      refine ⟨_, rfl, rfl, _, rfl, ?_⟩
      refine ite2 (fun hc => ?_) (fun hc => ?_)
      · have b1 : b = 1 := by
          have := of_decide_eq_true hc
          injection this
        refine ⟨(show 0 ≤ sizeLine by decide), fun l hl => k _ _ (same_new hl) ⟨l, [], rfl, upd_same, ?_⟩⟩
        unfold rows2
        rw [e, if_pos b1]
        exact .nil
      · have b1 : b ≠ 1 := fun z => hc (decide_eq_true (by rw [z]))
        refine ⟨_, rfl, sz2, fun t ht => ⟨(show 1 ≤ sizeLine by decide), fun l hl => ⟨sz2, fun r hr_ => ⟨(show 1 ≤ sizeLine by decide), fun m hm => ?_⟩⟩⟩⟩
        have s1 := same_new (o := .tup [V.int b, V.int 1]) ht
        have s2 := same_new (o := .lst [V.ref t]) hl
        have s3 := same_new (o := .tup [V.int 2, V.ref l]) hr_
        have s4 := same_new (o := .lst [V.ref r]) hm
        refine k _ _ (((s1.trans s2).trans s3).trans s4) ⟨m, [.ref r], rfl, upd_same, ?_⟩
        unfold rows2
        rw [e, if_neg b1]
        exact .cons ⟨r, l, [.ref t], rfl, s4 _ _ upd_same, s4 _ _ (s3 _ _ upd_same), .cons ⟨t, rfl, s4 _ _ (s3 _ _ (s2 _ _ upd_same))⟩ .nil⟩ .nil
end
end My

namespace My
open PySem PySem.Spec PyProof.Rows L2
open C8 (Cal pe_c pe_gc)
/-- a cubic with a whole root: what tells by alike roots -/
theorem cubic_left {c b a r : Int} (h : ((r + a) * r + b) * r + c = 0) : toldOf [c, b, a, 1] = ((a + r) * (a + r) - 4 * (b + r * (a + r))) * ((r * r + (a + r) * r + (b + r * (a + r))) * (r * r + (a + r) * r + (b + r * (a + r)))) := by
  show 18 * a * b * c - 4 * a * a * a * c + a * a * b * b - 4 * b * b * b - 27 * c * c = _
  have e : c = -(((r + a) * r + b) * r) := by omega
  subst e
  grind
theorem rootFrom_ok {c b a : Int} : ∀ {n : Nat} {r z : Int}, rootFrom c b a n r = some z → ((z + a) * z + b) * z + c = 0
  | 0, r, z, h => by cases h
  | n + 1, r, z, h => by
    have h' : (if ((r + a) * r + b) * r + c = 0 then some r else rootFrom c b a n (r + 1)) = some z := h
    by_cases e : ((r + a) * r + b) * r + c = 0
    · rw [if_pos e] at h'
      cases h'
      exact e
    · rw [if_neg e] at h'
      exact rootFrom_ok h'
theorem left_ne {c b a r : Int} (h : wholeZ c b a = some r) (t : toldOf [c, b, a, 1] ≠ 0) : (a + r) * (a + r) - 4 * (b + r * (a + r)) ≠ 0 := fun z => t (by
  rw [cubic_left (rootFrom_ok h), z, Int.zero_mul])
noncomputable def rows3 (c b a : Int) : List Rw := match wholeZ c b a with
  | some r => rows2 (a + r) (b + r * (a + r))
  | none => (3, [(0 - c, 1), (0 - b, 1), (0 - a, 1)]) :: (if rootZ (toldOf [c, b, a, 1]) = none then [(2, [(bareZ (toldOf [c, b, a, 1]), 1), (0, 1), (0, 1)])] else [])
noncomputable def halvesZ (b a : Int) : Option (Int × Int) := match rootZ (a * a - 4 * b) with
  | some m => some (Int.fdiv (0 - a - (m : Nat)) 2, Int.fdiv ((m : Nat) - a) 2)
  | none => none
noncomputable def withinZ (b a : Int) : Option Nat := match rootZ b with
  | none => none
  | some m => match rootZ (2 * (m : Nat) - a) with
    | some r => some r
    | none => rootZ (0 - a - 2 * (m : Nat))
theorem rootZ_is {n : Int} {r : Nat} (h : rootZ n = some r) : n = (r : Int) * r := by
  unfold rootZ at h
  split at h
  · rename_i e
    have := Classical.choose_spec e
    rw [Option.some.inj h] at this
    exact this
  · cases h
theorem rootZ_bd {n : Int} {k r : Nat} (h : rootZ n = some r) (b : Bd (k * k) n) : r ≤ k := by
  have e := rootZ_is h
  refine Nat.le_of_not_lt fun z => ?_
  have : (k + 1) * (k + 1) ≤ r * r := Nat.mul_le_mul z z
  have e2 : (k + 1) * (k + 1) = k * k + 2 * k + 1 := by rw [Nat.add_mul, Nat.mul_add]; omega
  have e3 : n.natAbs = r * r := by rw [e, Int.natAbs_mul]; rfl
  unfold Bd at b
  omega
section
variable {c : Cs} {P : Program} {w : World} {K : PySem.W.Frag} {mg : Str → Option Value} {base : Heap}
abbrev s_left_by : Stmt := top 50
abbrev N_left_by : List Str := ["polynomial", "root", "c", "b", "a"]
abbrev P_left_by : List Str := ["polynomial", "root"]
theorem sc_left_by : FnScope N_left_by ["polynomial", "root"] (defScope s_left_by) := ⟨rfl, rfl, rfl, by decide +kernel, rfl, by decide +kernel, by decide +kernel⟩

def sp_left_by (K : PySem.W.Frag) : Sp := fun vs H Q _ => ∃ (l : Addr) (ns : List Int) (c b a r : Int), vs = [.ref l, .int r] ∧ SqL K H l (ns.map V.int) ∧ (∃ d, ns = [c, b, a, d]) ∧ Bd 100 b ∧ Bd 100 a ∧ Bd 100 r ∧ ∀ H' p, Same H H' → H' p = some (.tup [.int (a + r), .int (b + r * (a + r))]) → Q (.ref p) H'
theorem ok_left_by (T : Txt K mg c) {f : Addr} {fd : FuncData} (F : L2.Fun K "left_by" "left_by" s_left_by f fd) : FnOk P w K mg base CX0 1 f fd P_left_by (sp_left_by K) := by
  refine F.ok sc_left_by (fun vs H Q E h => ?_) (fun cdv A outer s H vs Q E hr h => ?_)
  · obtain ⟨l, ns, c, b, a, r, rfl, _⟩ := h
    rfl
  · obtain ⟨l, ns, c, b, a, r, rfl, hS, ⟨d, rfl⟩, bb, ba, br, k⟩ := h
    refine ⟨_, (pss_cons (ps_asg (pe_slice sl_list (pv 0) po_none (po_some pe_int)) (pg_unl rfl (pgs_cons (pg_name (i := 2) sc_left_by.nd rfl (by first | exact Or.inl rfl | exact Or.inr rfl)) (pgs_cons (pg_name (i := 3) sc_left_by.nd rfl (by first | exact Or.inl rfl | exact Or.inr rfl)) (pgs_cons (pg_name (i := 4) sc_left_by.nd rfl (by first | exact Or.inl rfl | exact Or.inr rfl)) pgs_nil)))))
      (pss_one (ps_ret (pe_tup (pa_cons (pe_op op_add (pv 4) (pv 1)) (pa_cons (pe_op op_add (pv 3) (pe_op op_mulW (pv 1) (pe_op op_add (pv 4) (pv 1)))) pa_nil)))))), ?_⟩
    refine ⟨_, rfl, _, rfl, l, _, rfl, hS, fun q hq => ?_⟩
    have s1 := same_new (o := .lst [V.int c, V.int b, V.int a]) hq
    refine ⟨q, _, rfl, SqL.of upd_same, rfl, _, _, rfl, _, _, rfl, _, _, rfl, rfl, ?_⟩
    refine ⟨_, rfl, _, rfl, _, _, rfl, rfl, _, rfl, _, rfl, _, rfl, _, rfl, _, _, rfl, rfl, _, _, rfl, rfl, br.cm (ba.add br), _, _, rfl, rfl, sz2, fun p hp => ?_⟩
    exact k _ p (s1.trans (same_new hp)) upd_same
abbrev s_halves : Stmt := top 53
abbrev N_halves : List Str := ["polynomial", "many", "b", "a"]
abbrev P_halves : List Str := ["polynomial"]
theorem sc_halves : FnScope N_halves ["polynomial"] (defScope s_halves) := ⟨rfl, rfl, rfl, by decide +kernel, rfl, by decide +kernel, by decide +kernel⟩

def sp_halves (K : PySem.W.Frag) : Sp := fun vs H Q _ => ∃ (l : Addr) (ns : List Int) (b a : Int), vs = [.ref l] ∧ SqL K H l (ns.map V.int) ∧ (∃ x y z, ns = [b, x, a, y, z]) ∧ Bd 100 b ∧ Bd 100 a ∧
  (halvesZ b a = none → Q .non H) ∧ (∀ x y, halvesZ b a = some (x, y) → ∀ H' p, Same H H' → H p = none → H' p = some (.lst [.int x, .int y]) → Q (.ref p) H')
theorem ok_halves (T : Txt K mg c) {f : Addr} {fd : FuncData} (F : L2.Fun K "halves" "halves" s_halves f fd) (h_root_whole : Cal P w K mg base 1 "root_whole" sp_root []) : FnOk P w K mg base CX0 2 f fd P_halves (sp_halves K) := by
  refine F.ok sc_halves (fun vs H Q E h => ?_) (fun cdv A outer s H vs Q E hr h => ?_)
  · obtain ⟨l, ns, b, a, rfl, _⟩ := h
    rfl
  · obtain ⟨l, ns, b, a, rfl, hS, ⟨x, y, z, rfl⟩, bb, ba, k0, k1⟩ := h
    refine ⟨_, (pss_cons (ps_par (i := 2) (j := 3) (by rfl) sc_halves.nd rfl rfl (by decide) rfl rfl (pa_cons (pe_ix ix_list (pv 0) pe_int (fun _ _ => rfl)) (pa_cons (pe_ix ix_list (pv 0) pe_int (fun _ _ => rfl)) pa_nil)) (by rfl))
      (pss_cons (ps_set (i := 1) sc_halves.nd rfl (by first | exact Or.inl rfl | exact Or.inr rfl) (pe_c h_root_whole hr (by decide) rfl (pa_cons (pe_op op_sub (pe_op op_mulW (pv 3) (pv 3)) (pe_op op_mulW pe_int (pv 2))) pa_nil)))
      (pss_cons (ps_if (pt_cmpR op_isN (pv 1) pe_non (nomark _)) (pss_one (ps_ret pe_non)) pss_nil)
      (pss_one (ps_ret (pe_lst (pa_cons (pe_op op_fdivA (pe_op op_sub (pe_op op_sub pe_int (pv 3)) (pv 1)) pe_int) (pa_cons (pe_op op_fdivA (pe_op op_sub (pv 1) (pv 3)) pe_int) pa_nil)))))))), ?_⟩
    refine ⟨_, rfl, l, _, _, _, rfl, rfl, hS, rfl, _, rfl, l, _, _, _, rfl, rfl, hS, rfl, _, _, rfl, ?_⟩
    refine ⟨_, rfl, _, rfl, _, _, rfl, rfl, ba.cm ba, _, rfl, _, _, rfl, rfl, (bd_lit (n := 4)).cm bb, _, _, rfl, rfl, a * a - 4 * b, rfl, ?_, fun m hm => ?_, fun no => ?_⟩
    · have := (ba.mul ba).sub ((bd_lit (n := 4) (x := 4)).mul bb)
      unfold Bd at this
      omega
    · have e := rootZ_of hm
      refine ⟨_, rfl, rfl, _, rfl, ?_⟩
      refine ite2 (fun hd => nomatch of_decide_eq_true hd) (fun _ => ?_)
      have c2 : ∀ i, CFd i 2 := fun i => ⟨(show (2 : Int) ≠ 0 by decide), (show (2 : Int).natAbs.log2 < 9000 by decide +kernel)⟩
      refine ⟨_, rfl, _, _, rfl, rfl, _, rfl, _, _, rfl, rfl, _, _, rfl, rfl, c2 _, _, rfl, _, rfl, _, _, rfl, rfl, _, _, rfl, rfl, c2 _, sz2, fun p hp => ?_⟩
      exact k1 _ _ (by unfold halvesZ; rw [e]) _ p (same_new hp) hp upd_same
    · have e := rootZ_no no
      refine ⟨_, rfl, rfl, _, rfl, ?_⟩
      refine ite2 (fun _ => ?_) (fun hd => absurd (decide_eq_true rfl) hd)
      exact k0 (by unfold halvesZ; rw [e])
abbrev s_by_squares : Stmt := top 54
abbrev N_by_squares : List Str := ["polynomial", "number", "b", "a"]
abbrev P_by_squares : List Str := ["polynomial"]
theorem sc_by_squares : FnScope N_by_squares ["polynomial"] (defScope s_by_squares) := ⟨rfl, rfl, rfl, by decide +kernel, rfl, by decide +kernel, by decide +kernel⟩

def sp_by_squares (K : PySem.W.Frag) : Sp := fun vs H Q _ => ∃ (l : Addr) (ns : List Int) (b a : Int), vs = [.ref l] ∧ SqL K H l (ns.map V.int) ∧ (∃ x y z, ns = [b, x, a, y, z]) ∧ Bd 100 b ∧ Bd 100 a ∧ a * a - 4 * b ≠ 0 ∧
  ∀ (n : Int) (m : Nat) H' p, n = bareZ (a * a - 4 * b) → Bare n (a * a - 4 * b) → a * a - 4 * b = n * ((m : Int) * m) → Same H H' → H' p = some (.tup [.int n, .int (m : Nat)]) → Q (.ref p) H'
theorem ok_by_squares (T : Txt K mg c) {f : Addr} {fd : FuncData} (F : L2.Fun K "by_squares" "by_squares" s_by_squares f fd) (h_root_whole : Cal P w K mg base 1 "root_whole" sp_root []) (h_bare_of : Cal P w K mg base 2 "bare_of" sp_bare_of []) : FnOk P w K mg base CX0 3 f fd P_by_squares (sp_by_squares K) := by
  refine F.ok sc_by_squares (fun vs H Q E h => ?_) (fun cdv A outer s H vs Q E hr h => ?_)
  · obtain ⟨l, ns, b, a, rfl, _⟩ := h
    rfl
  · obtain ⟨l, ns, b, a, rfl, hS, ⟨x, y, z, rfl⟩, bb, ba, d0, k⟩ := h
    refine ⟨_, (pss_cons (ps_par (i := 2) (j := 3) (by rfl) sc_by_squares.nd rfl rfl (by decide) rfl rfl (pa_cons (pe_ix ix_list (pv 0) pe_int (fun _ _ => rfl)) (pa_cons (pe_ix ix_list (pv 0) pe_int (fun _ _ => rfl)) pa_nil)) (by rfl))
      (pss_cons (ps_set (i := 1) sc_by_squares.nd rfl (by first | exact Or.inl rfl | exact Or.inr rfl) (pe_c h_bare_of hr (by decide) rfl (pa_cons (pe_op op_sub (pe_op op_mulW (pv 3) (pv 3)) (pe_op op_mulW pe_int (pv 2))) pa_nil)))
      (pss_one (ps_ret (pe_tup (pa_cons (pv 1) (pa_cons (pe_c h_root_whole hr (by decide) rfl (pa_cons (pe_op op_fdivA (pe_op op_sub (pe_op op_mulW (pv 3) (pv 3)) (pe_op op_mulW pe_int (pv 2))) (pv 1)) pa_nil)) pa_nil))))))), ?_⟩
    have bD : Bd 10400 (a * a - 4 * b) := (ba.mul ba).sub ((bd_lit (n := 4)).mul bb)
    refine ⟨_, rfl, l, _, _, _, rfl, rfl, hS, rfl, _, rfl, l, _, _, _, rfl, rfl, hS, rfl, _, _, rfl, ?_⟩
    refine ⟨_, rfl, _, rfl, _, _, rfl, rfl, ba.cm ba, _, rfl, _, _, rfl, rfl, (bd_lit (n := 4)).cm bb, _, _, rfl, rfl, a * a - 4 * b, rfl, d0, Nat.le_trans bD (by decide), fun n hn => ?_⟩
    obtain ⟨n0, sn, q, eq⟩ := id hn
    have q0 : q ≠ 0 := fun z => d0 (by rw [eq, z]; simp)
    have bn : n.natAbs ≤ 10400 := by
      have e := congrArg Int.natAbs eq
      rw [Int.natAbs_mul] at e
      have p : 0 < (q * q).natAbs := Int.natAbs_pos.mpr (Int.mul_ne_zero q0 q0)
      have := Nat.le_mul_of_pos_right n.natAbs p
      unfold Bd at bD
      omega
    have bq : (q * q).natAbs ≤ 10400 := by
      have e := congrArg Int.natAbs eq
      rw [Int.natAbs_mul] at e
      have p : 0 < n.natAbs := Int.natAbs_pos.mpr n0
      have := Nat.le_mul_of_pos_left (q * q).natAbs p
      unfold Bd at bD
      omega
    have ef : Int.fdiv (a * a - 4 * b) n = q * q := by
      rw [eq]; exact Int.mul_fdiv_cancel_left _ n0
    refine ⟨_, rfl, _, rfl, _, rfl, _, _, rfl, rfl, ba.cm ba, _, rfl, _, _, rfl, rfl, (bd_lit (n := 4)).cm bb, _, _, rfl, rfl, _, rfl, _, _, rfl, rfl, ⟨n0, log_small (by omega)⟩, Int.fdiv (a * a - 4 * b) n, rfl, by rw [ef]; omega, fun r hr_ => ?_, fun no => absurd ⟨q, ef⟩ no⟩
    refine ⟨sz2, fun p hp => k n r _ p (bareZ_of d0 hn).symm hn ?_ (same_new hp) upd_same⟩
    rw [← hr_, ef]; exact eq
abbrev s_root_within : Stmt := top 55
abbrev N_root_within : List Str := ["polynomial", "many", "number", "b", "a"]
abbrev P_root_within : List Str := ["polynomial"]
theorem sc_root_within : FnScope N_root_within ["polynomial"] (defScope s_root_within) := ⟨rfl, rfl, rfl, by decide +kernel, rfl, by decide +kernel, by decide +kernel⟩

def sp_root_within (K : PySem.W.Frag) : Sp := fun vs H Q _ => ∃ (l : Addr) (ns : List Int) (b a : Int), vs = [.ref l] ∧ SqL K H l (ns.map V.int) ∧ (∃ x y z, ns = [b, x, a, y, z]) ∧ Bd 100 b ∧ Bd 100 a ∧ ∀ H', Same H H' → Q (atV (withinZ b a)) H'
theorem ok_root_within (T : Txt K mg c) {f : Addr} {fd : FuncData} (F : L2.Fun K "root_within" "root_within" s_root_within f fd) (h_root_whole : Cal P w K mg base 1 "root_whole" sp_root []) : FnOk P w K mg base CX0 2 f fd P_root_within (sp_root_within K) := by
  refine F.ok sc_root_within (fun vs H Q E h => ?_) (fun cdv A outer s H vs Q E hr h => ?_)
  · obtain ⟨l, ns, b, a, rfl, _⟩ := h
    rfl
  · obtain ⟨l, ns, b, a, rfl, hS, ⟨x, y, z, rfl⟩, bb, ba, k⟩ := h
    refine ⟨_, (pss_cons (ps_par (i := 3) (j := 4) (by rfl) sc_root_within.nd rfl rfl (by decide) rfl rfl (pa_cons (pe_ix ix_list (pv 0) pe_int (fun _ _ => rfl)) (pa_cons (pe_ix ix_list (pv 0) pe_int (fun _ _ => rfl)) pa_nil)) (by rfl))
      (pss_cons (ps_set (i := 1) sc_root_within.nd rfl (by first | exact Or.inl rfl | exact Or.inr rfl) (pe_c h_root_whole hr (by decide) rfl (pa_cons (pv 3) pa_nil)))
      (pss_cons (ps_if (pt_cmpR op_isN (pv 1) pe_non (nomark _)) (pss_one (ps_ret pe_non)) pss_nil)
      (pss_cons (ps_for PassesOwn.never rfl (pi_tup (pe_tup (pa_cons (pe_op op_sub (pe_op op_mulW pe_int (pv 1)) (pv 4)) (pa_cons (pe_op op_sub (pe_op op_sub pe_int (pv 4)) (pe_op op_mulW pe_int (pv 1))) pa_nil)))) (pg_name (i := 2) sc_root_within.nd rfl (by first | exact Or.inl rfl | exact Or.inr rfl)) (pss_one (ps_if (pt_cmpR op_notN (pe_c h_root_whole hr (by decide) rfl (pa_cons (pv 2) pa_nil)) pe_non (nomark _)) (pss_one (ps_ret (pe_c h_root_whole hr (by decide) rfl (pa_cons (pv 2) pa_nil)))) pss_nil)))
      (pss_one (ps_ret pe_non)))))), ?_⟩
    refine ⟨_, rfl, l, _, _, _, rfl, rfl, hS, rfl, _, rfl, l, _, _, _, rfl, rfl, hS, rfl, _, _, rfl, ?_⟩
    refine ⟨_, rfl, b, rfl, ?_, fun m hm => ?_, fun no => ?_⟩
    · unfold Bd at bb; omega
    · have e := rootZ_of hm
      have bm : m ≤ 10 := rootZ_bd (k := 10) e bb
      have bm' : Bd 10 (m : Nat) := bm
      refine ⟨_, rfl, rfl, _, rfl, ?_⟩
      refine ite2 (fun hd => nomatch of_decide_eq_true hd) (fun _ => ?_)
      refine ⟨_, rfl, _, _, rfl, rfl, (bd_lit (n := 2)).cm bm', _, rfl, _, _, rfl, rfl, _, rfl, _, _, rfl, rfl, _, rfl, _, _, rfl, rfl, (bd_lit (n := 2)).cm bm', _, _, rfl, rfl, sz2, fun t ht => ?_⟩
      have s1 := same_new (o := .tup [V.int (2 * (m : Nat) - a), V.int (0 - a - 2 * (m : Nat))]) ht
      have ez : withinZ b a = (match rootZ (2 * (m : Nat) - a) with
        | some r => some r
        | none => rootZ (0 - a - 2 * (m : Nat))) := by
        unfold withinZ
        rw [e]
      refine ⟨t, rfl, ⟨_, SqT.of upd_same⟩, for_tup (K := K) (a := t) (xs := [V.int (2 * (m : Nat) - a), V.int (0 - a - 2 * (m : Nat))]) (fun i σ H' => (∃ o : Option V, σ = [some (.ref l), some (.int (m : Nat)), o, some (.int b), some (.int a)]) ∧ H' = upd H t (.tup [V.int (2 * (m : Nat) - a), V.int (0 - a - 2 * (m : Nat))]) ∧ (0 < i → rootZ (2 * (m : Nat) - a) = none) ∧ (1 < i → rootZ (0 - a - 2 * (m : Nat)) = none)) ⟨⟨_, rfl⟩, rfl, by omega, by omega⟩ (fun i σ H' _ ⟨_, e, _⟩ => by rw [e]; exact SqT.of upd_same) ?_ ?_⟩
      · rintro i x σ H' hi ⟨⟨o, rfl⟩, rfl, g0, g1⟩
        have key : ∃ z : Int, x = .int z ∧ z < 2 ^ 58 ∧ (∀ r, rootZ z = some r → withinZ b a = some r) ∧ (rootZ z = none → (0 < i + 1 → rootZ (2 * (m : Nat) - a) = none) ∧ (1 < i + 1 → rootZ (0 - a - 2 * (m : Nat)) = none)) := by
          unfold Bd at ba
          rcases i with _ | _ | i
          · refine ⟨_, (Option.some.inj hi).symm, by omega, fun r hr_ => ?_, fun n => ⟨fun _ => n, fun q => by omega⟩⟩
            rw [ez, hr_]
          · refine ⟨_, (Option.some.inj hi).symm, by omega, fun r hr_ => ?_, fun n => ⟨fun _ => g0 (by decide), fun q => n⟩⟩
            rw [ez, g0 (by decide)]
            exact hr_
          · simp at hi
        obtain ⟨z, rfl, zb, zs, zn⟩ := key
        refine ⟨_, rfl, z, rfl, zb, fun r hr_ => ?_, fun no => ?_⟩
        · refine ⟨rfl, _, rfl, ?_⟩
          refine ite2 (fun _ => ?_) (fun hd => absurd rfl hd)
          refine ⟨_, rfl, z, rfl, zb, fun r2 hr2 => ?_, fun no => absurd ⟨(r : Nat), hr_⟩ no⟩
          have := k _ s1
          rw [zs r2 (rootZ_of hr2)] at this
          exact this
        · refine ⟨rfl, _, rfl, ?_⟩
          refine ite2 (fun hd => nomatch hd) (fun _ => ?_)
          have := zn (rootZ_no no)
          exact ⟨⟨_, rfl⟩, rfl, this.1, this.2⟩
      · rintro σ H' ⟨⟨o, rfl⟩, rfl, g0, g1⟩
        have := k _ s1
        rw [ez, g0 (show 0 < 2 by decide), g1 (show 1 < 2 by decide)] at this
        exact this
    · have e := rootZ_no no
      refine ⟨_, rfl, rfl, _, rfl, ?_⟩
      refine ite2 (fun _ => ?_) (fun hd => absurd (decide_eq_true rfl) hd)
      have := k _ (Same.refl H)
      unfold withinZ at this
      rw [e] at this
      exact this
theorem same_upd {H H' : Hp} {m : Addr} {o : HO} (h : H m = none) (s : Same H H') : Same H (upd H' m o) := fun b u hb => by rw [upd_ne (ne_of_none hb h)]; exact s _ _ hb
theorem FrAt.updL {H : Hp} {D : Addr} {xs ys : List V} {v : V} {q : Int × Int} (hD : H D = some (.lst xs)) (h : FrAt K H v q) : FrAt K (upd H D (.lst ys)) v q := by
  obtain ⟨p, rfl, hp⟩ := h
  refine ⟨p, rfl, ?_⟩
  rw [upd_ne (fun z => by rw [z, hD] at hp; cases hp)]
  exact hp
theorem FrsAt.updL {H : Hp} {D : Addr} {xs ys us : List V} {qs : List (Int × Int)} (hD : H D = some (.lst xs)) (h : FrsAt K H us qs) : FrsAt K (upd H D (.lst ys)) us qs := Paired.imp (fun _ _ x => x.updL hD) h
abbrev s_rows_by_three : Stmt := top 52
abbrev N_rows_by_three : List Str := ["polynomial", "root", "rows", "number", "p", "q"]
abbrev P_rows_by_three : List Str := ["polynomial"]
theorem sc_rows_by_three : FnScope N_rows_by_three ["polynomial"] (defScope s_rows_by_three) := ⟨rfl, rfl, rfl, by decide +kernel, rfl, by decide +kernel, by decide +kernel⟩

def sp_rows_by_three (K : PySem.W.Frag) : Sp := fun vs H Q _ => ∃ (l : Addr) (ns : List Int) (c b a : Int), vs = [.ref l] ∧ SqL K H l (ns.map V.int) ∧ ns = [c, b, a, 1] ∧ Bd 100 c ∧ Bd 100 b ∧ Bd 100 a ∧ toldOf ns ≠ 0 ∧ ∀ H' v, Same H H' → RowsAt K H' v (rows3 c b a) → Q v H'
theorem ok_rows_by_three (T : Txt K mg c) {f : Addr} {fd : FuncData} (F : L2.Fun K "rows_by_three" "rows_by_three" s_rows_by_three f fd) (h_root_whole : Cal P w K mg base 1 "root_whole" sp_root []) (h_bare_of : Cal P w K mg base 2 "bare_of" sp_bare_of []) (h_whole_root : Cal P w K mg base 1 "whole_root" (sp_whole_root K) [])
    (h_left_by : Cal P w K mg base 1 "left_by" (sp_left_by K) []) (h_rows_by_two : Cal P w K mg base 3 "rows_by_two" (sp_rows_by_two K) []) (h_told_by : Cal P w K mg base 1 "told_by" (sp_told_by K) []) : FnOk P w K mg base CX0 4 f fd P_rows_by_three (sp_rows_by_three K) := by
  refine F.ok sc_rows_by_three (fun vs H Q E h => ?_) (fun cdv A outer s H vs Q E hr h => ?_)
  · obtain ⟨l, ns, c, b, a, rfl, _⟩ := h
    rfl
  · obtain ⟨l, ns, c, b, a, rfl, hS, rfl, bc, bb, ba, t0, k⟩ := h
    refine ⟨_, (pss_cons (ps_set (i := 1) sc_rows_by_three.nd rfl (by first | exact Or.inl rfl | exact Or.inr rfl) (pe_c h_whole_root hr (by decide) rfl (pa_cons (pv 0) pa_nil)))
      (pss_cons (ps_if (pt_cmpR op_notN (pv 1) pe_non (nomark _)) (pss_cons (ps_asg (pe_c h_left_by hr (by decide) rfl (pa_cons (pv 0) (pa_cons (pv 1) pa_nil))) (pg_tup rfl (pgs_cons (pg_name (i := 4) sc_rows_by_three.nd rfl (by first | exact Or.inl rfl | exact Or.inr rfl)) (pgs_cons (pg_name (i := 5) sc_rows_by_three.nd rfl (by first | exact Or.inl rfl | exact Or.inr rfl)) pgs_nil))))
      (pss_one (ps_ret (pe_c h_rows_by_two hr (by decide) rfl (pa_cons (pv 4) (pa_cons (pv 5) pa_nil)))))) pss_nil)
      (pss_cons (ps_set (i := 2) sc_rows_by_three.nd rfl (by first | exact Or.inl rfl | exact Or.inr rfl) (pe_lst (pa_cons (pe_tup (pa_cons pe_int (pa_cons (pe_lc (own := [("number", 3)]) (g := gName 3) (by rfl) sc_rows_by_three.nd (pi_list (pe_slice sl_list (pv 0) po_none (po_some pe_int))) (blkOk_by (own := [("number", 3)]) (N := N_rows_by_three) (sc := defScope s_rows_by_three) (by decide +kernel)) (fun _ _ _ _ _ => (pg_name (i := 3) sc_rows_by_three.nd rfl (by first | exact Or.inl rfl | exact Or.inr rfl))) (fun _ _ _ _ _ => pts_nil) (fun _ _ _ _ _ => (pe_tup (pa_cons (pe_op op_sub pe_int (pv 3)) (pa_cons pe_int pa_nil))))) pa_nil))) pa_nil)))
      (pss_cons (ps_set (i := 3) sc_rows_by_three.nd rfl (by first | exact Or.inl rfl | exact Or.inr rfl) (pe_c h_told_by hr (by decide) rfl (pa_cons (pv 0) pa_nil)))
      (pss_cons (ps_if (pt_cmpR op_isN (pe_c h_root_whole hr (by decide) rfl (pa_cons (pv 3) pa_nil)) pe_non (nomark _)) (pss_one (ps_expr (pe_bm PySem.F.plainAttrs_list PySem.F.slot_list_append PySem.F.type_list_append mt_append (pv 2) (pa_cons (pe_tup (pa_cons pe_int (pa_cons (pe_lst (pa_cons (pe_tup (pa_cons (pe_c h_bare_of hr (by decide) rfl (pa_cons (pv 3) pa_nil)) (pa_cons pe_int pa_nil))) (pa_cons (pe_tup (pa_cons pe_int (pa_cons pe_int pa_nil))) (pa_cons (pe_tup (pa_cons pe_int (pa_cons pe_int pa_nil))) pa_nil)))) pa_nil))) pa_nil)))) pss_nil)
      (pss_one (ps_ret (pv 2)))))))), ?_⟩
    refine ⟨_, rfl, l, _, c, b, a, rfl, hS, ⟨1, rfl⟩, bc, bb, ba, fun H1 s1 => ?_⟩
    have hS1 := s1.seq hS
    have t1 := t0
    cases ew : wholeZ c b a with
    | some r =>
      have br := wholeZ_in ew
      refine ⟨_, rfl, rfl, _, rfl, ?_⟩
      refine ite2 (fun _ => ?_) (fun hd => absurd rfl hd)
      refine ⟨_, rfl, _, rfl, l, _, c, b, a, r, rfl, hS1, ⟨1, rfl⟩, bb, ba, br, fun H2 p s2 hp => ?_⟩
      refine ⟨p, _, rfl, SqT.of hp, rfl, _, _, rfl, _, _, rfl, rfl, ?_⟩
      refine ⟨_, rfl, _, rfl, _, _, rfl, Nat.le_trans (ba.add br) (by decide), Nat.le_trans (bb.add (br.mul (ba.add br))) (by decide), left_ne ew t0, fun H3 v s3 hv => ?_⟩
      refine k _ v ((s1.trans s2).trans s3) ?_
      unfold rows3
      rw [ew]
      exact hv
    | none =>
      refine ⟨_, rfl, rfl, _, rfl, ?_⟩
      refine ite2 (fun hd => nomatch hd) (fun _ => ?_)
      refine ⟨_, rfl, _, rfl, l, _, rfl, hS1, fun q hq => ?_⟩
      have s2 := s1.trans (same_new (o := .lst [V.int c, V.int b, V.int a]) hq)
      refine ⟨q, rfl, ⟨_, SqL.of upd_same⟩, fun D hD => lc_list (K := K) (a := q) (xs := [c, b, a].map V.int) (fun i H' => ∃ us, H' D = some (.lst us) ∧ us.length = i ∧ FrsAt K H' us (([c, b, a].take i).map fun x => (0 - x, 1)) ∧ Same (upd H1 q (.lst [V.int c, V.int b, V.int a])) H') ⟨[], upd_same, rfl, .nil, same_new hD⟩ (fun i H' _ ⟨_, _, _, _, sm⟩ => SqL.of (sm _ _ upd_same)) ?_ ?_⟩
      · rintro i x H' hi ⟨us, hD', hl, hf, sm⟩
        obtain ⟨z, hz, rfl⟩ := item_of hi
        refine ⟨rfl, _, rfl, _, _, rfl, rfl, sz2, fun t ht => ?_⟩
        have hi3 : i < 3 := (List.getElem?_eq_some_iff.mp hz).1
        have hD2 := same_new (o := .tup [V.int (0 - z), V.int 1]) ht _ _ hD'
        refine ⟨us, hD2, small1000 (by omega), us ++ [.ref t], upd_same, by rw [List.length_append, hl]; rfl, ?_, ?_⟩
        · rw [take_more hz, List.map_append]
          exact FrsAt.updL hD2 (Paired.snoc (hf.mono (same_new ht)) (FrAt.new (q := (0 - z, 1)) upd_same))
        · intro b' u hb
          have : b' ≠ D := ne_of_none hb hD
          rw [upd_ne this]
          exact same_new ht _ _ (sm _ _ hb)
      · rintro H2 ⟨us, hD', hl, hf, sm⟩
        have s3 := s2.trans sm
        refine ⟨sz2, fun t ht => ⟨(show 1 ≤ sizeLine by decide), fun m hm => ?_⟩⟩
        have s4 := same_new (o := .tup [V.int 3, V.ref D]) ht
        have s5 := same_new (o := .lst [V.ref t]) hm
        have s6 := s3.trans (s4.trans s5)
        have row : RowAt K (upd (upd H2 t (.tup [V.int 3, V.ref D])) m (.lst [V.ref t])) (.ref t) (3, [(0 - c, 1), (0 - b, 1), (0 - a, 1)]) := ⟨t, D, us, rfl, s5 _ _ upd_same, s5 _ _ (s4 _ _ hD'), hf.mono (s4.trans s5)⟩
        refine ⟨_, rfl, l, _, rfl, s6.seq hS, (by show 2 ≤ 4; decide), (by show 4 ≤ 5; decide), ?_, fun H3 s7 => ?_⟩
        · intro x hx
          simp only [List.mem_cons, List.not_mem_nil, or_false] at hx
          rcases hx with rfl | rfl | rfl | rfl
          · exact bc
          · exact bb
          · exact ba
          · exact bd_lit
        have bt : Bd (10 ^ 9) (toldOf [c, b, a, 1]) := by
          have b18 : Bd 18 18 := bd_lit
          have b4 : Bd 4 4 := bd_lit
          have b27 : Bd 27 27 := bd_lit
          have := (((((((b18.mul ba).mul bb).mul bc).sub ((((b4.mul ba).mul ba).mul ba).mul bc)).add (((ba.mul ba).mul bb).mul bb)).sub (((b4.mul bb).mul bb).mul bb)).sub ((b27.mul bc).mul bc))
          exact Nat.le_trans this (by decide)
        refine ⟨_, rfl, toldOf [c, b, a, 1], rfl, ?_, fun r hr_ => ?_, fun no => ?_⟩
        · unfold Bd at bt; omega
        · have e := rootZ_of hr_
          refine ⟨rfl, _, rfl, ?_⟩
          refine ite2 (fun hd => nomatch of_decide_eq_true hd) (fun _ => ?_)
          refine ⟨_, rfl, k _ _ (s6.trans s7) ⟨m, [.ref t], rfl, s7 _ _ upd_same, ?_⟩⟩
          unfold rows3
          rw [ew]
          show RowsIn K H3 [.ref t] ((3, [(0 - c, 1), (0 - b, 1), (0 - a, 1)]) :: (if rootZ (toldOf [c, b, a, 1]) = none then _ else []))
          rw [e, if_neg (by intro z; cases z)]
          exact .cons (row.mono s7) .nil
        · have e := rootZ_no no
          refine ⟨rfl, _, rfl, ?_⟩
          refine ite2 (fun _ => ?_) (fun hd => absurd (decide_eq_true rfl) hd)
          refine ⟨_, rfl, .inl ⟨rfl, _, SqL.of (s7 _ _ upd_same)⟩, _, rfl, toldOf [c, b, a, 1], rfl, t0, Nat.le_trans bt (by decide), fun n hn => ⟨sz2, fun ta hta => ⟨sz2, fun tb htb => ⟨sz2, fun tc htc => ⟨sz3, fun ld hld => ⟨sz2, fun te hte => ?_⟩⟩⟩⟩⟩⟩
          have en := bareZ_of t0 hn
          have u1 := same_new (o := .tup [V.int n, V.int 1]) hta
          have u2 := same_new (o := .tup [V.int 0, V.int 1]) htb
          have u3 := same_new (o := .tup [V.int 0, V.int 1]) htc
          have u4 := same_new (o := .lst [V.ref ta, V.ref tb, V.ref tc]) hld
          have u5 := same_new (o := .tup [V.int 2, V.ref ld]) hte
          have hm' := u5 _ _ (u4 _ _ (u3 _ _ (u2 _ _ (u1 _ _ (s7 _ _ (upd_same (H := upd H2 t (.tup [V.int 3, V.ref D])) (a := m) (o := .lst [V.ref t])))))))
          refine ⟨m, _, _, rfl, rfl, hm', (show 1 < sizeLine by decide), ?_⟩
          have hmn : H m = none := (s3.trans s4).free hm
          have sD : Same H2 (upd (upd (upd (upd (upd H3 ta (.tup [V.int n, V.int 1])) tb (.tup [V.int 0, V.int 1])) tc (.tup [V.int 0, V.int 1])) ld (.lst [V.ref ta, V.ref tb, V.ref tc])) te (.tup [V.int 2, V.ref ld])) := (((((s4.trans s5).trans s7).trans u1).trans u2).trans u3).trans (u4.trans u5)
          have Dm : D ≠ m := ne_of_none (s4 _ _ hD') hm
          have lm : ld ≠ m := fun z => by rw [z] at hld; rw [(u3 _ _ (u2 _ _ (u1 _ _ (s7 _ _ (upd_same (H := upd H2 t (.tup [V.int 3, V.ref D])) (a := m) (o := .lst [V.ref t])))))) ] at hld; cases hld
          have tm : ∀ {x : Addr} {ys : List V} {H8 : Hp}, H8 m = some (.lst [V.ref t]) → H8 x = some (.tup ys) → x ≠ m := fun h1 h2 z => by rw [z, h1] at h2; cases h2
          have ht8 := (s5.trans s7) _ _ (upd_same (H := H2) (a := t) (o := .tup [V.int 3, V.ref D]))
          have ht9 := u5 _ _ (u4 _ _ (u3 _ _ (u2 _ _ (u1 _ _ ht8))))
          refine ⟨_, rfl, k _ _ (same_upd hmn (((((((s6.trans s7).trans u1).trans u2).trans u3).trans u4).trans u5))) ⟨m, [.ref t, .ref te], rfl, upd_same, ?_⟩⟩
          unfold rows3
          rw [ew]
          show RowsIn K _ [.ref t, .ref te] ((3, [(0 - c, 1), (0 - b, 1), (0 - a, 1)]) :: (if rootZ (toldOf [c, b, a, 1]) = none then _ else []))
          rw [e, if_pos rfl, en]
          refine .cons ⟨t, D, us, rfl, ?_, ?_, (hf.mono sD).updL hm'⟩ (.cons ⟨te, ld, [.ref ta, .ref tb, .ref tc], rfl, ?_, ?_, ?_⟩ .nil)
          · rw [upd_ne (tm hm' ht9)]; exact ht9
          · rw [upd_ne Dm]; exact sD _ _ hD'
          · rw [upd_ne (tm hm' upd_same)]; exact upd_same
          · rw [upd_ne lm]; exact u5 _ _ upd_same
          · refine FrsAt.updL hm' (.cons ⟨ta, rfl, u5 _ _ (u4 _ _ (u3 _ _ (u2 _ _ upd_same)))⟩ (.cons ⟨tb, rfl, u5 _ _ (u4 _ _ (u3 _ _ upd_same))⟩ (.cons ⟨tc, rfl, u5 _ _ (u4 _ _ upd_same)⟩ .nil)))
end
end My

namespace My
open PySem PySem.Spec PyProof.Rows L2
open C8 (Cal pe_c pe_gc)
theorem halves_even {m a b : Int} (h : m * m = a * a - 4 * b) : ∃ x y, 0 - a - m = 2 * x ∧ m - a = 2 * y ∧ x * y = b := by
  have e : (m + a) % 2 = 0 := by
    rcases Int.emod_two_eq (m + a) with z | z
    · exact z
    · exfalso
      obtain ⟨k, hk⟩ : ∃ k, m + a = 2 * k + 1 := ⟨(m + a) / 2, by omega⟩
      have hm : m = 2 * k + 1 - a := by omega
      subst hm
      have key : 4 * (k * k + k - a * k + b) = 2 * a - 1 := by grind
      omega
  obtain ⟨k, hk⟩ : ∃ k, m + a = 2 * k := ⟨(m + a) / 2, by omega⟩
  have hm : m = 2 * k - a := by omega
  subst hm
  refine ⟨-k, k - a, by omega, by omega, ?_⟩
  have key : 4 * (-k * (k - a)) = 4 * b := by grind
  omega
theorem halves_ne {b a x y : Int} (h : halvesZ b a = some (x, y)) (b0 : b ≠ 0) : x ≠ 0 ∧ y ≠ 0 ∧ x * y = b := by
  unfold halvesZ at h
  cases e : rootZ (a * a - 4 * b) with
  | none => rw [e] at h; cases h
  | some m =>
    rw [e] at h
    obtain ⟨u, v, h1, h2, h3⟩ := halves_even (rootZ_is e).symm
    have hp := Option.some.inj h
    have hx : x = u := by
      have : Int.fdiv (0 - a - (m : Int)) 2 = x := congrArg Prod.fst hp
      rw [h1, Int.mul_fdiv_cancel_left _ (by decide)] at this
      exact this.symm
    have hy : y = v := by
      have : Int.fdiv ((m : Int) - a) 2 = y := congrArg Prod.snd hp
      rw [h2, Int.mul_fdiv_cancel_left _ (by decide)] at this
      exact this.symm
    subst hx hy
    refine ⟨fun z => b0 ?_, fun z => b0 ?_, h3⟩
    · rw [← h3, z, Int.zero_mul]
    · rw [← h3, z, Int.mul_zero]
def numsOf : List Int → List Int
  | [p, q] => if p = q then [p] else [p, q]
  | l => l
noncomputable def numsZ (x y : Int) : List Int := numsOf ([bareZ x, bareZ y].filter (fun n => decide (n ≠ 1)))
def rowsOn : Nat → List Int → List Rw
  | _, [] => []
  | i, n :: r => (2, (n, 1) :: List.replicate i (0, 1)) :: rowsOn (i + 1) r
theorem rowsOn_len : ∀ (ms : List Int) (k : Nat), (rowsOn k ms).length = ms.length
  | [], _ => rfl
  | _ :: r, k => congrArg Nat.succ (rowsOn_len r (k + 1))
theorem rowsOn_at : ∀ {ms : List Int} {k i : Nat} {z : Int}, ms[i]? = some z → (rowsOn k ms)[i]? = some (2, (z, 1) :: List.replicate (k + i) (0, 1))
  | [], k, i, z, h => by simp at h
  | n :: r, k, 0, z, h => by
    have e : n = z := Option.some.inj h
    subst e
    rfl
  | n :: r, k, i + 1, z, h => by
    have ih := rowsOn_at (ms := r) (k := k + 1) (i := i) h
    show (rowsOn (k + 1) r)[i]? = _
    rw [ih, Nat.add_right_comm, Nat.add_assoc]
noncomputable def manyZ (b a : Int) : Int := ((rootZ ((a * a - 4 * b).fdiv (bareZ (a * a - 4 * b)))).getD 0 : Nat)
noncomputable def rows4 (b a : Int) : List Rw := match halvesZ b a with
  | some (x, y) => rowsOn 0 (numsZ x y)
  | none => (2, [(bareZ (a * a - 4 * b), 1)]) :: (if withinZ b a = none then (2, [low (0 - a, 2), low (manyZ b a, 2)]) :: (if rootZ b = none ∧ rootZ (b * bareZ (a * a - 4 * b)) = none then [(2, (bareZ b, 1) :: List.replicate 3 (0, 1))] else []) else [])
section
variable {c : Cs} {P : Program} {w : World} {K : PySem.W.Frag} {mg : Str → Option Value} {base : Heap}
/-- a row whose power does not stand at m -/
def RowNe (K : PySem.W.Frag) (H : Hp) (m : Addr) (v : V) (r : Rw) : Prop := ∃ (p l : Addr) (us : List V), v = .ref p ∧ l ≠ m ∧ H p = some (.tup [.int r.1, .ref l]) ∧ H l = some (.lst us) ∧ FrsAt K H us r.2
theorem RowNe.mono {H H' : Hp} {m : Addr} {v : V} {r : Rw} (h : RowNe K H m v r) (s : Same H H') : RowNe K H' m v r := by
  obtain ⟨p, l, us, e, n, h1, h2, h3⟩ := h
  exact ⟨p, l, us, e, n, s _ _ h1, s _ _ h2, h3.mono s⟩
theorem RowNe.row {H : Hp} {m : Addr} {v : V} {r : Rw} (h : RowNe K H m v r) : RowAt K H v r := by
  obtain ⟨p, l, us, e, n, h1, h2, h3⟩ := h
  exact ⟨p, l, us, e, h1, h2, h3⟩
theorem RowNe.upd {H : Hp} {m : Addr} {v : V} {r : Rw} {xs ys : List V} (hm : H m = some (.lst xs)) (h : RowNe K H m v r) : RowNe K (L2.upd H m (.lst ys)) m v r := by
  obtain ⟨p, l, us, e, n, h1, h2, h3⟩ := h
  refine ⟨p, l, us, e, n, ?_, ?_, h3.updL hm⟩
  · rw [upd_ne (fun z => by rw [z, hm] at h1; cases h1)]; exact h1
  · rw [upd_ne n]; exact h2
def RowsNe (K : PySem.W.Frag) (H : Hp) (m : Addr) (us : List V) (rs : List Rw) : Prop := Paired (RowNe K H m) us rs
theorem RowsNe.mono {H H' : Hp} {m : Addr} {us : List V} {rs : List Rw} (h : RowsNe K H m us rs) (s : Same H H') : RowsNe K H' m us rs := Paired.imp (fun _ _ x => x.mono s) h
theorem RowsNe.more {H : Hp} {m : Addr} {us : List V} {rs : List Rw} {u : V} {r : Rw} (h : RowsNe K H m us rs) (hm : H m = some (.lst us)) (x : RowNe K H m u r) : RowsNe K (L2.upd H m (.lst (us ++ [u]))) m (us ++ [u]) (rs ++ [r]) :=
  Paired.snoc (Paired.imp (fun _ _ z => z.upd hm) h) (x.upd hm)
theorem RowsNe.rows {H : Hp} {m : Addr} {us : List V} {rs : List Rw} (h : RowsNe K H m us rs) : RowsIn K H us rs := Paired.imp (fun _ _ x => x.row) h
theorem sz1 {a : V} : [a].length ≤ sizeLine := by show 1 ≤ sizeLine; decide
abbrev s_rows_by_four : Stmt := top 56
abbrev N_rows_by_four : List Str := ["polynomial", "some", "rows", "b", "a", "numbers", "number", "many", "at"]
abbrev P_rows_by_four : List Str := ["polynomial"]
theorem sc_rows_by_four : FnScope N_rows_by_four ["polynomial"] (defScope s_rows_by_four) := ⟨rfl, rfl, rfl, by decide +kernel, rfl, by decide +kernel, by decide +kernel⟩

def sp_rows_by_four (K : PySem.W.Frag) : Sp := fun vs H Q _ => ∃ (l : Addr) (b a : Int), vs = [.ref l] ∧ SqL K H l ([b, 0, a, 0, 1].map V.int) ∧ Bd 100 b ∧ Bd 100 a ∧ b ≠ 0 ∧ a * a - 4 * b ≠ 0 ∧ ∀ H' v, Same H H' → RowsAt K H' v (rows4 b a) → Q v H'
theorem ok_rows_by_four (T : Txt K mg c) {f : Addr} {fd : FuncData} (F : L2.Fun K "rows_by_four" "rows_by_four" s_rows_by_four f fd) (h_root_whole : Cal P w K mg base 1 "root_whole" sp_root []) (h_bare_of : Cal P w K mg base 2 "bare_of" sp_bare_of []) (h_halves : Cal P w K mg base 2 "halves" (sp_halves K) [])
    (h_nought : Cal P w K mg base 1 "nought" (sp_nought K) []) (h_by_squares : Cal P w K mg base 3 "by_squares" (sp_by_squares K) []) (h_root_within : Cal P w K mg base 2 "root_within" (sp_root_within K) []) (h_lowest : Cal P w K mg base 2 "lowest" (sp_lowest K) []) : FnOk P w K mg base CX0 4 f fd P_rows_by_four (sp_rows_by_four K) := by
  refine F.ok sc_rows_by_four (fun vs H Q E h => ?_) (fun cdv A outer s H vs Q E hr h => ?_)
  · obtain ⟨l, b, a, rfl, _⟩ := h
    rfl
  · obtain ⟨l, b, a, rfl, hS, bb, ba, b0, d0, k⟩ := h
    refine ⟨_, (pss_cons (ps_par (i := 3) (j := 4) (by rfl) sc_rows_by_four.nd rfl rfl (by decide) rfl rfl (pa_cons (pe_ix ix_list (pv 0) pe_int (fun _ _ => rfl)) (pa_cons (pe_ix ix_list (pv 0) pe_int (fun _ _ => rfl)) pa_nil)) (by rfl))
      (pss_cons (ps_set (i := 1) sc_rows_by_four.nd rfl (by first | exact Or.inl rfl | exact Or.inr rfl) (pe_c h_halves hr (by decide) rfl (pa_cons (pv 0) pa_nil)))
      (pss_cons (ps_if (pt_cmpR op_notN (pv 1) pe_non (nomark _)) (pss_cons (ps_setLc (i := 5) (own := [("number", 6)]) (g := gName 6) (by rfl) sc_rows_by_four.nd rfl rfl (sw_true rfl rfl rfl (by decide +kernel)) (pi_list (pe_lst (pa_cons (pe_c h_bare_of hr (by decide) rfl (pa_cons (pe_ix ix_list (pv 1) pe_int (fun _ _ => rfl)) pa_nil)) (pa_cons (pe_c h_bare_of hr (by decide) rfl (pa_cons (pe_ix ix_list (pv 1) pe_int (fun _ _ => rfl)) pa_nil)) pa_nil)))) (blkOk_by (own := [("number", 6)]) (N := N_rows_by_four) (sc := defScope s_rows_by_four) (by decide +kernel)) (fun _ _ _ _ _ => (pg_name (i := 6) sc_rows_by_four.nd rfl (by first | exact Or.inl rfl | exact Or.inr rfl))) (fun _ _ _ _ _ => (pts_one (pt_cmpR op_ne (pv 6) pe_int (nomark _)))) (fun _ _ _ _ _ => (pv 6)))
      (pss_cons (ps_if (pt_cmpR op_lt (pe_lenSetD rfl T.z_len rfl T.z_set (pv 5)) (pe_callB call_len_seq (by rfl) T.z_len (by decide +kernel) (pa_cons (pv 5) pa_nil)) (nomark _)) (pss_one (ps_set (i := 5) sc_rows_by_four.nd rfl (by first | exact Or.inl rfl | exact Or.inr rfl) (pe_slice sl_list (pv 5) po_none (po_some pe_int)))) pss_nil)
      (pss_one (ps_ret (pe_lc (own := [("at", 8), ("number", 6)]) (g := gTup K 2 (gCons (gName 8) (gCons (gName 6) gNil))) (by rfl) sc_rows_by_four.nd (pi_enum (by rfl) T.z_enumerate (pa_cons (pv 5) pa_nil)) (blkOk_by (own := [("at", 8), ("number", 6)]) (N := N_rows_by_four) (sc := defScope s_rows_by_four) (by decide +kernel)) (fun _ _ _ _ _ => (pg_tup rfl (pgs_cons (pg_name (i := 8) sc_rows_by_four.nd rfl (by first | exact Or.inl rfl | exact Or.inr rfl)) (pgs_cons (pg_name (i := 6) sc_rows_by_four.nd rfl (by first | exact Or.inl rfl | exact Or.inr rfl)) pgs_nil)))) (fun _ _ _ _ _ => pts_nil) (fun _ _ _ _ _ => (pe_tup (pa_cons pe_int (pa_cons (pe_op op_cat (pe_lst (pa_cons (pe_tup (pa_cons (pv 6) (pa_cons pe_int pa_nil))) pa_nil)) (pe_c h_nought hr (by decide) rfl (pa_cons (pv 8) pa_nil))) pa_nil))))))))) pss_nil)
      (pss_cons (ps_asg (pe_c h_by_squares hr (by decide) rfl (pa_cons (pv 0) pa_nil)) (pg_tup rfl (pgs_cons (pg_name (i := 6) sc_rows_by_four.nd rfl (by first | exact Or.inl rfl | exact Or.inr rfl)) (pgs_cons (pg_name (i := 7) sc_rows_by_four.nd rfl (by first | exact Or.inl rfl | exact Or.inr rfl)) pgs_nil))))
      (pss_cons (ps_set (i := 2) sc_rows_by_four.nd rfl (by first | exact Or.inl rfl | exact Or.inr rfl) (pe_lst (pa_cons (pe_tup (pa_cons pe_int (pa_cons (pe_lst (pa_cons (pe_tup (pa_cons (pv 6) (pa_cons pe_int pa_nil))) pa_nil)) pa_nil))) pa_nil)))
      (pss_cons (ps_if (pt_cmpR op_notN (pe_c h_root_within hr (by decide) rfl (pa_cons (pv 0) pa_nil)) pe_non (nomark _)) (pss_one (ps_ret (pv 2))) pss_nil)
      (pss_cons (ps_expr (pe_bm PySem.F.plainAttrs_list PySem.F.slot_list_append PySem.F.type_list_append mt_append (pv 2) (pa_cons (pe_tup (pa_cons pe_int (pa_cons (pe_lst (pa_cons (pe_c h_lowest hr (by decide) rfl (pa_cons (pe_op op_sub pe_int (pv 4)) (pa_cons pe_int pa_nil))) (pa_cons (pe_c h_lowest hr (by decide) rfl (pa_cons (pv 7) (pa_cons pe_int pa_nil))) pa_nil))) pa_nil))) pa_nil)))
      (pss_cons (ps_if (PW.pt (pw_and (pt_cmpR op_isN (pe_c h_root_whole hr (by decide) rfl (pa_cons (pv 3) pa_nil)) pe_non (nomark _)) (pw_and1 (pt_cmpR op_isN (pe_c h_root_whole hr (by decide) rfl (pa_cons (pe_op op_mulW (pv 3) (pv 6)) pa_nil)) pe_non (nomark _))))) (pss_one (ps_expr (pe_bm PySem.F.plainAttrs_list PySem.F.slot_list_append PySem.F.type_list_append mt_append (pv 2) (pa_cons (pe_tup (pa_cons pe_int (pa_cons (pe_op op_cat (pe_lst (pa_cons (pe_tup (pa_cons (pe_c h_bare_of hr (by decide) rfl (pa_cons (pv 3) pa_nil)) (pa_cons pe_int pa_nil))) pa_nil)) (pe_c h_nought hr (by decide) rfl (pa_cons pe_int pa_nil))) pa_nil))) pa_nil)))) pss_nil)
      (pss_one (ps_ret (pv 2))))))))))), ?_⟩
    refine ⟨_, rfl, l, _, _, _, rfl, rfl, hS, rfl, _, rfl, l, _, _, _, rfl, rfl, hS, rfl, _, _, rfl, ?_⟩
    refine ⟨_, rfl, l, _, b, a, rfl, hS, ⟨0, 0, 1, rfl⟩, bb, ba, fun en => ?_, fun x y es H1 p1 s1 hn1 hp1 => ?_⟩
    · refine ⟨_, rfl, rfl, _, rfl, ?_⟩
      refine ite2 (fun hd => nomatch hd) (fun _ => ?_)
      refine ⟨_, rfl, l, _, b, a, rfl, hS, ⟨0, 0, 1, rfl⟩, bb, ba, d0, fun n m H1 p e1 hn hD s1 hp => ?_⟩
      refine ⟨p, _, rfl, SqT.of hp, rfl, _, _, rfl, _, _, rfl, rfl, ?_⟩
      have em : manyZ b a = m := by
        unfold manyZ
        rw [← e1, hD, Int.mul_fdiv_cancel_left _ hn.1, rootZ_of rfl]; rfl
      have bm : m ≤ 102 := by
        have bD : Bd 10400 (a * a - 4 * b) := (ba.mul ba).sub ((bd_lit (n := 4)).mul bb)
        have e := congrArg Int.natAbs hD
        rw [Int.natAbs_mul, Int.natAbs_mul] at e
        have p0 : 0 < n.natAbs := Int.natAbs_pos.mpr hn.1
        have := Nat.le_mul_of_pos_left (m * m) p0
        have e' : (a * a - 4 * b).natAbs = n.natAbs * (m * m) := e
        unfold Bd at bD
        refine Nat.le_of_not_lt fun z => ?_
        have : 103 * 103 ≤ m * m := Nat.mul_le_mul z z
        omega
      have bn : Bd 10400 n := by
        have bD : Bd 10400 (a * a - 4 * b) := (ba.mul ba).sub ((bd_lit (n := 4)).mul bb)
        have e := congrArg Int.natAbs hD
        rw [Int.natAbs_mul] at e
        have p0 : 0 < ((m : Int) * m).natAbs := Int.natAbs_pos.mpr fun z => d0 (by rw [hD, z, Int.mul_zero])
        have := Nat.le_mul_of_pos_right n.natAbs p0
        unfold Bd at bD ⊢
        omega
      refine ⟨_, rfl, sz2, fun t1 ht1 => ⟨sz1, fun l1 hl1 => ⟨sz2, fun t2 ht2 => ⟨sz1, fun mm hmm => ?_⟩⟩⟩⟩
      have u1 := same_new (o := .tup [V.int n, V.int 1]) ht1
      have u2 := same_new (o := .lst [V.ref t1]) hl1
      have u3 := same_new (o := .tup [V.int 2, V.ref l1]) ht2
      have u4 := same_new (o := .lst [V.ref t2]) hmm
      have sA := ((s1.trans u1).trans u2).trans u3
      have sB := sA.trans u4
      have hmn : H mm = none := sA.free hmm
      have l1m : l1 ≠ mm := ne_of_none (u3 _ _ upd_same) hmm
      have row1 := RowsNe.mono (K := K) (m := mm) (us := [.ref t2]) (rs := [(2, [(n, 1)])]) (H' := _) (.cons ⟨t2, l1, [.ref t1], rfl, l1m, upd_same, u3 _ _ upd_same, .cons ⟨t1, rfl, u3 _ _ (u2 _ _ upd_same)⟩ .nil⟩ .nil) u4
      have hm1 := upd_same (H := upd (upd (upd H1 t1 (.tup [V.int n, V.int 1])) l1 (.lst [V.ref t1])) t2 (.tup [V.int 2, V.ref l1])) (a := mm) (o := .lst [V.ref t2])
      refine ⟨_, rfl, l, _, b, a, rfl, sB.seq hS, ⟨0, 0, 1, rfl⟩, bb, ba, fun H2 s2 => ?_⟩
      have sC := sB.trans s2
      have fin : ∀ (H' : Hp) (us : List V) (rs : List Rw), Same H H' → H' mm = some (.lst us) → RowsNe K H' mm us rs → rs = rows4 b a → Q (.ref mm) H' := fun H' us rs s h1 h2 h3 => k H' _ s ⟨mm, us, rfl, h1, by rw [← h3]; exact h2.rows⟩
      cases ew : withinZ b a with
      | some r =>
        refine ⟨rfl, _, rfl, ?_⟩
        refine ite2 (fun _ => ?_) (fun hd => absurd rfl hd)
        refine ⟨_, rfl, fin H2 _ _ sC (s2 _ _ hm1) (row1.mono s2) ?_⟩
        unfold rows4
        rw [en, ← e1]
        show _ = (2, [(n, 1)]) :: (if withinZ b a = none then _ else [])
        rw [ew, if_neg (by intro z; cases z)]
      | none =>
        refine ⟨rfl, _, rfl, ?_⟩
        refine ite2 (fun hd => nomatch hd) (fun _ => ?_)
        refine ⟨_, rfl, .inl ⟨rfl, _, SqL.of (s2 _ _ hm1)⟩, _, rfl, _, _, rfl, rfl, (0 - a, 2), rfl, (by show (2 : Int) ≠ 0; decide), (by show Sz 8000 2; exact Sz.mono (n := 2) (by unfold Sz; decide) (by decide)), fun H3 pa s3 hpa _ => ⟨_, rfl, ((m : Int), 2), rfl, (by show (2 : Int) ≠ 0; decide), (by show Sz 8000 2; exact Sz.mono (n := 2) (by unfold Sz; decide) (by decide)), fun H4 pb s4 hpb _ => ⟨sz2, fun l2 hl2 => ⟨sz2, fun t3 ht3 => ?_⟩⟩⟩⟩
        have v1 := same_new (o := .lst [V.ref pa, V.ref pb]) hl2
        have v2 := same_new (o := .tup [V.int 2, V.ref l2]) ht3
        have s24 := (s3.trans s4).trans (v1.trans v2)
        have hm2 := s24 _ _ (s2 _ _ hm1)
        refine ⟨mm, _, _, rfl, rfl, hm2, (show 1 < sizeLine by decide), ?_⟩
        have l2m : l2 ≠ mm := fun z => by rw [z] at hl2; rw [s4 _ _ (s3 _ _ (s2 _ _ hm1))] at hl2; cases hl2
        have row2 := (row1.mono (s2.trans s24)).more hm2 (u := .ref t3) (r := (2, [low (0 - a, 2), low ((m : Int), 2)])) ⟨t3, l2, [.ref pa, .ref pb], rfl, l2m, upd_same, v2 _ _ upd_same, .cons ⟨pa, rfl, v2 _ _ (v1 _ _ (s4 _ _ hpa))⟩ (.cons ⟨pb, rfl, v2 _ _ (v1 _ _ hpb)⟩ .nil)⟩
        have sD := same_upd (o := .lst ([V.ref t2] ++ [V.ref t3])) hmn (sC.trans s24)
        have base_ : rows4 b a = [(2, [(n, 1)])] ++ [(2, [low (0 - a, 2), low ((m : Int), 2)])] ++ (if rootZ b = none ∧ rootZ (b * n) = none then [(2, (bareZ b, 1) :: List.replicate 3 (0, 1))] else []) := by
          unfold rows4
          rw [en, ← e1, em]
          show (2, [(n, 1)]) :: (if withinZ b a = none then _ else []) = _
          rw [ew, if_pos rfl]; rfl
        refine ⟨_, rfl, b, rfl, ?_, fun r hr_ => ?_, fun no => ?_⟩
        · unfold Bd at bb; omega
        · refine ⟨rfl, _, rfl, ?_⟩
          refine ite2 (fun hd => nomatch of_decide_eq_true hd) (fun _ => ?_)
          refine ⟨_, rfl, fin _ _ _ sD upd_same row2 ?_⟩
          rw [base_, rootZ_of hr_, if_neg (fun z => by cases z.1)]; rfl
        · have eb := rootZ_no no
          refine ⟨rfl, _, rfl, ?_⟩
          refine ite2 (fun _ => ?_) (fun hd => absurd (decide_eq_true rfl) hd)
          refine ⟨_, rfl, _, rfl, _, _, rfl, rfl, bb.cm bn, b * n, rfl, ?_, fun r hr_ => ?_, fun no2 => ?_⟩
          · have := bb.mul bn
            unfold Bd at this
            omega
          · refine ⟨rfl, _, rfl, ?_⟩
            refine ite2 (fun hd => nomatch of_decide_eq_true hd) (fun _ => ?_)
            refine ⟨_, rfl, fin _ _ _ sD upd_same row2 ?_⟩
            rw [base_, rootZ_of hr_, if_neg (fun z => by cases z.2)]; rfl
          · have ebn := rootZ_no no2
            refine ⟨rfl, _, rfl, ?_⟩
            refine ite2 (fun _ => ?_) (fun hd => absurd (decide_eq_true rfl) hd)
            refine ⟨_, rfl, .inl ⟨rfl, _, SqL.of upd_same⟩, _, rfl, b, rfl, b0, Nat.le_trans bb (by decide), fun nb hnb => ⟨sz2, fun tq htq => ⟨sz1, fun lq hlq => ⟨3, rfl, by decide, fun H5 pn usn s5 hpn0 hpn hfn => ⟨lq, pn, _, _, rfl, rfl, s5 _ _ upd_same, hpn, ?_, fun pc hpc => ⟨sz2, fun t5 ht5 => ?_⟩⟩⟩⟩⟩⟩
            · have := Paired.length hfn
              show 1 + usn.length ≤ sizeLine
              rw [this]
              show 4 ≤ sizeLine
              decide
            have w1 := same_new (o := .tup [V.int nb, V.int 1]) htq
            have w2 := same_new (o := .lst [V.ref tq]) hlq
            have w3 := same_new (o := .lst ([V.ref tq] ++ usn)) hpc
            have w4 := same_new (o := .tup [V.int 2, V.ref pc]) ht5
            have sE := ((w1.trans w2).trans s5).trans (w3.trans w4)
            have hm3 := sE _ _ (upd_same (H := upd (upd H4 l2 (.lst [V.ref pa, V.ref pb])) t3 (.tup [V.int 2, V.ref l2])) (a := mm) (o := .lst ([V.ref t2] ++ [V.ref t3])))
            refine ⟨mm, _, _, rfl, rfl, hm3, (show 2 < sizeLine by decide), ?_⟩
            have hm5 := ((w1.trans w2).trans s5) _ _ (upd_same (H := upd (upd H4 l2 (.lst [V.ref pa, V.ref pb])) t3 (.tup [V.int 2, V.ref l2])) (a := mm) (o := .lst ([V.ref t2] ++ [V.ref t3])))
            have pcm : pc ≠ mm := fun z => by rw [z] at hpc; rw [hm5] at hpc; cases hpc
            have row3 := (row2.mono sE).more hm3 (u := .ref t5) (r := (2, (nb, 1) :: List.replicate 3 (0, 1))) ⟨t5, pc, _, rfl, pcm, upd_same, w4 _ _ upd_same, .cons ⟨tq, rfl, w4 _ _ (w3 _ _ (s5 _ _ (w2 _ _ upd_same)))⟩ (hfn.mono (w3.trans w4))⟩
            refine ⟨_, rfl, fin _ _ _ (same_upd hmn (sD.trans sE)) upd_same row3 ?_⟩
            rw [base_, eb, ebn, if_pos ⟨rfl, rfl⟩, bareZ_of b0 hnb]
    · refine ⟨_, rfl, rfl, _, rfl, ?_⟩
      refine ite2 (fun _ => ?_) (fun hd => absurd rfl hd)
      obtain ⟨x0, y0, exy⟩ := halves_ne es b0
      have bx : Bd 100 x := by
        have e := congrArg Int.natAbs exy
        rw [Int.natAbs_mul] at e
        have p0 : 0 < y.natAbs := Int.natAbs_pos.mpr y0
        have := Nat.le_mul_of_pos_right x.natAbs p0
        unfold Bd at bb ⊢
        omega
      have by' : Bd 100 y := by
        have e := congrArg Int.natAbs exy
        rw [Int.natAbs_mul] at e
        have p0 : 0 < x.natAbs := Int.natAbs_pos.mpr x0
        have := Nat.le_mul_of_pos_left y.natAbs p0
        unfold Bd at bb ⊢
        omega
      have loop : ∀ (H' : Hp) (D2 : Addr) (ms : List Int) (o1 o2 o6 o7 o8 : Option V) (v5 : Option V), Same H H' → H' D2 = some (.lst (ms.map V.int)) → ms = numsZ x y → ms.length ≤ 2 → v5 = some (.ref D2) →
          tLc (iEnum K (tCons (tVar 5) tNil)) (gTup K 2 (gCons (gName 8) (gCons (gName 6) gNil))) tYes (tTup (tCons (tC (V.int 2)) (tCons (tOp rCat (tLst (tCons (tTup (tCons (tVar 6) (tCons (tC (V.int 1)) tNil))) tNil)) (tCall (sp_nought K) [] C8.E0 (tCons (tVar 8) tNil))) tNil))) [8, 6]
            [some (.ref l), o1, o2, some (.int b), some (.int a), v5, o6, o7, o8] H' Q := by
        rintro H' D2 ms o1 o2 o6 o7 o8 v5 sH hD2 hms hl2 rfl
        refine ⟨_, rfl, D2, _, rfl, SqL.of hD2, fun E hE => lc_it walk_enum (fun i H'' => ∃ us, H'' E = some (.lst us) ∧ us.length = i ∧ RowsNe K H'' E us ((rowsOn 0 ms).take i) ∧ Same H' H'') ⟨[], upd_same, rfl, .nil, same_new hE⟩ (fun i H'' _ ⟨_, _, _, _, sm⟩ => SqL.of (sm _ _ hD2)) ?_ ?_⟩
        · rintro i v H1 H2 hi ⟨us, hE', hlen, hr_, sm⟩ ⟨t, y1, y2, rfl, hn, rfl, hy1, hy2⟩
          cases hy1
          obtain ⟨z, hz, rfl⟩ := item_of hy2
          refine ⟨t, _, rfl, SqT.of upd_same, rfl, _, _, rfl, _, _, rfl, rfl, rfl, ?_⟩
          have hi2 : i < 2 := Nat.lt_of_lt_of_le (List.getElem?_eq_some_iff.mp hz).1 hl2
          have w0 := same_new (o := .tup [V.int (i : Nat), V.int z]) hn
          refine ⟨_, rfl, sz2, fun ta hta => ⟨sz1, fun la hla => ⟨_, rfl, i, rfl, by omega, fun H5 pn usn s5 hn0 hpn hfn => ⟨la, pn, _, _, rfl, rfl, s5 _ _ upd_same, hpn, ?_, fun pc hpc => ⟨sz2, fun t5 ht5 => ?_⟩⟩⟩⟩⟩
          · have := Paired.length hfn
            rw [List.length_replicate] at this
            show 1 + usn.length ≤ sizeLine
            exact Nat.le_of_lt (small1000 (by omega))
          have w1 := same_new (o := .tup [V.int z, V.int 1]) hta
          have w2 := same_new (o := .lst [V.ref ta]) hla
          have w3 := same_new (o := .lst ([V.ref ta] ++ usn)) hpc
          have w4 := same_new (o := .tup [V.int 2, V.ref pc]) ht5
          have wA := ((w0.trans w1).trans w2).trans s5
          have wB := wA.trans (w3.trans w4)
          have hE5 := wB _ _ hE'
          have pcE : pc ≠ E := fun z => by rw [z] at hpc; rw [wA _ _ hE'] at hpc; cases hpc
          refine ⟨us, hE5, small1000 (by omega), us ++ [.ref t5], upd_same, by rw [List.length_append, hlen]; rfl, ?_, same_upd hE (sm.trans wB)⟩
          have ra := rowsOn_at (k := 0) hz
          rw [Nat.zero_add] at ra
          rw [take_more ra]
          exact (hr_.mono wB).more hE5 ⟨t5, pc, _, rfl, pcE, upd_same, w4 _ _ upd_same, .cons ⟨ta, rfl, w4 _ _ (w3 _ _ (s5 _ _ (w2 _ _ upd_same)))⟩ (hfn.mono (w3.trans w4))⟩
        · rintro H'' ⟨us, hE', hlen, hr_, sm⟩
          rw [List.length_map, ← rowsOn_len ms 0, List.take_length] at hr_
          refine k _ _ (sH.trans sm) ⟨E, us, rfl, hE', ?_⟩
          unfold rows4
          rw [es]
          show RowsIn K H'' us (rowsOn 0 (numsZ x y))
          rw [← hms]
          exact hr_.rows
      refine ⟨_, rfl, p1, _, _, _, rfl, rfl, SqL.of hp1, rfl, x, rfl, x0, Nat.le_trans bx (by decide), fun ux hux => ⟨_, rfl, p1, _, _, _, rfl, rfl, SqL.of hp1, rfl, y, rfl, y0, Nat.le_trans by' (by decide), fun uy huy => ⟨sz2, fun lx hlx => ⟨lx, rfl, ⟨_, SqL.of upd_same⟩, fun D hD => lc_list (K := K) (a := lx) (xs := [ux, uy].map V.int) (fun i H' => H' D = some (.lst ((([ux, uy].take i).filter (fun n => decide (n ≠ 1))).map V.int)) ∧ Same (upd H1 lx (.lst [V.int ux, V.int uy])) H') ⟨upd_same, same_new hD⟩ (fun i H' _ ⟨_, sm⟩ => SqL.of (sm _ _ upd_same)) ?_ ?_⟩⟩⟩⟩
      · rintro i z H' hi ⟨hD', sm⟩
        obtain ⟨z, hz, rfl⟩ := item_of hi
        refine ⟨rfl, _, rfl, rfl, _, rfl, ?_⟩
        refine ite2 (fun hc => ?_) (fun hc => ?_)
        · have z1 : z ≠ 1 := fun e => by rw [e] at hc; cases hc
          refine ⟨_, rfl, _, hD', ?_, ?_, same_upd hD sm⟩
          · rw [List.length_map]
            exact Nat.lt_of_le_of_lt (List.length_filter_le _ _) (Nat.lt_of_le_of_lt (List.length_take_le _ _) (small1000 (by have := (List.getElem?_eq_some_iff.mp hz).1; simp at this; omega)))
          · rw [upd_same, take_more hz, List.filter_append, List.map_append]
            have : List.filter (fun n => decide (n ≠ 1)) [z] = [z] := by simp [z1]
            rw [this]; rfl
        · have z1 : z = 1 := by
            refine Classical.byContradiction fun q => hc ?_
            have : ¬ (V.int z = V.int 1) := fun w => q (by injection w)
            rw [decide_eq_false this]; rfl
          refine ⟨?_, sm⟩
          rw [take_more hz, List.filter_append]
          have : List.filter (fun n => decide (n ≠ 1)) [z] = [] := by simp [z1]
          rw [this, List.append_nil]; exact hD'
      · rintro H2 ⟨hD', sm⟩
        have s2 := (s1.trans (same_new hlx)).trans sm
        rw [← bareZ_of x0 hux, ← bareZ_of y0 huy] at hD'
        have hD'' : H2 D = some (.lst (([bareZ x, bareZ y].filter (fun n => decide (n ≠ 1))).map V.int)) := hD'
        obtain ⟨ns, hns⟩ : ∃ ns, ns = [bareZ x, bareZ y].filter (fun n => decide (n ≠ 1)) := ⟨_, rfl⟩
        rw [← hns] at hD''
        have nl : ns.length ≤ 2 := by rw [hns]; exact List.length_filter_le _ _
        refine ⟨_, rfl, D, ns, rfl, SqL.of hD'', by omega, _, rfl, D, _, rfl, .inl (SqL.of hD''), _, _, rfl, rfl, _, rfl, ?_⟩
        have en : numsZ x y = numsOf ns := by
          unfold numsZ
          rw [← hns]
        have s2x := s2
        rcases ns with _ | ⟨p, _ | ⟨q, _ | ⟨r, ns⟩⟩⟩
        · refine ite2 (fun hc => absurd hc (by decide)) (fun _ => ?_)
          exact loop H2 D [] _ _ _ _ _ _ s2 hD'' en.symm (by decide) rfl
        · refine ite2 (fun hc => absurd hc (by rw [show (PyProof.Rows.firstMet (fun i => [p].getD i 0) [p].length).length = 1 from fm1 p]; show ¬ (decide (((1 : Nat) : Int) < ((1 : Nat) : Int)) = true); decide)) (fun _ => ?_)
          exact loop H2 D [p] _ _ _ _ _ _ s2 hD'' en.symm (by show 1 ≤ 2; decide) rfl
        · have ef : (PyProof.Rows.firstMet (fun i => [p, q].getD i 0) [p, q].length).length = if p = q then 1 else 2 := fm2 p q
          by_cases e : p = q
          · refine ite2 (fun _ => ?_) (fun hc => absurd (by rw [ef, if_pos e]; rfl) hc)
            refine ⟨_, rfl, _, rfl, D, _, rfl, SqL.of hD'', fun D2 hD2 => ?_⟩
            have en' : [p] = numsZ x y := by
              rw [en]
              exact (if_pos e).symm
            exact loop _ D2 [p] _ _ _ _ _ _ (s2.trans (same_new hD2)) upd_same en' (by show 1 ≤ 2; decide) rfl
          · refine ite2 (fun hc => absurd hc (by rw [ef, if_neg e]; show ¬ (decide (((2 : Nat) : Int) < ((2 : Nat) : Int)) = true); decide)) (fun _ => ?_)
            have en' : [p, q] = numsZ x y := by
              rw [en]
              exact (if_neg e).symm
            exact loop H2 D [p, q] _ _ _ _ _ _ s2 hD'' en' (by show 2 ≤ 2; decide) rfl
        · simp at nl
end
end My

namespace My
open PySem PySem.Spec PyProof.Rows L2
open C8 (Cal pe_c pe_gc)
noncomputable def rowsZ : List Int → List Rw
  | [q, p, _] => rows2 p q
  | [c, b, a, _] => rows3 c b a
  | [b, _, a, _, _] => rows4 b a
  | _ => []
def waysStep (found : List (List Int)) (r : Rw) : List (List Int) := ((List.range r.1.toNat).map fun o => found.map fun p => p ++ [((o : Nat) : Int)]).flatten
def waysOf (rs : List Rw) : List (List Int) := rs.foldl waysStep [[]]
def wPart (found : List (List Int)) (n : Nat) : List (List Int) := ((List.range n).map fun o => found.map fun p => p ++ [((o : Nat) : Int)]).flatten
theorem wPart_more (found : List (List Int)) (n : Nat) : wPart found (n + 1) = wPart found n ++ found.map fun p => p ++ [((n : Nat) : Int)] := by
  unfold wPart
  rw [List.range_succ, List.map_append, List.flatten_append]
  simp
theorem wPart_ok {found : List (List Int)} {m : Nat} (h : ∀ p ∈ found, p.length ≤ m) : ∀ n : Nat, (wPart found n).length = n * found.length ∧ ∀ p ∈ wPart found n, p.length ≤ m + 1
  | 0 => ⟨by rw [Nat.zero_mul]; rfl, fun p hp => by cases hp⟩
  | n + 1 => by
    obtain ⟨a, b⟩ := wPart_ok h n
    rw [wPart_more]
    refine ⟨by rw [List.length_append, a, List.length_map, Nat.add_mul, Nat.one_mul], fun p hp => ?_⟩
    rcases List.mem_append.mp hp with q | q
    · exact b p q
    · obtain ⟨z, hz, rfl⟩ := List.mem_map.mp q
      have := h z hz
      rw [List.length_append]
      show z.length + 1 ≤ m + 1
      omega
theorem ways_ok : ∀ (rs : List Rw) (ws : List (List Int)) (n m : Nat), ws.length ≤ n → (∀ p ∈ ws, p.length ≤ m) → (∀ r ∈ rs, r.1 = 2 ∨ r.1 = 3) → (rs.foldl waysStep ws).length ≤ n * 3 ^ rs.length ∧ ∀ p ∈ rs.foldl waysStep ws, p.length ≤ m + rs.length
  | [], ws, n, m, h1, h2, _ => ⟨by simpa using h1, h2⟩
  | r :: rs, ws, n, m, h1, h2, h3 => by
    obtain ⟨a, b⟩ := wPart_ok h2 r.1.toNat
    have hr := h3 r (List.mem_cons_self ..)
    have hn : r.1.toNat ≤ 3 := by omega
    have l : (waysStep ws r).length ≤ 3 * n := by
      have e : (waysStep ws r).length = r.1.toNat * ws.length := a
      rw [e]
      exact Nat.mul_le_mul hn h1
    obtain ⟨x, y⟩ := ways_ok rs (waysStep ws r) (3 * n) (m + 1) l b fun q hq => h3 q (List.mem_cons_of_mem _ hq)
    refine ⟨Nat.le_trans x ?_, fun p hp => ?_⟩
    · show 3 * n * 3 ^ rs.length ≤ n * 3 ^ (rs.length + 1)
      rw [Nat.pow_succ, Nat.mul_comm 3 n, Nat.mul_assoc, Nat.mul_comm 3]
      exact Nat.le_refl _
    · have := y p hp
      show p.length ≤ m + (rs.length + 1)
      omega
/-- a list of whole numbers that does not stand at m -/
def LNe (H : Hp) (m : Addr) (u : V) (ws : List Int) : Prop := ∃ a, u = .ref a ∧ a ≠ m ∧ H a = some (.lst (ws.map V.int))
def LsNe (H : Hp) (m : Addr) (us : List V) (wss : List (List Int)) : Prop := Paired (LNe H m) us wss
def LAt (H : Hp) (u : V) (ws : List Int) : Prop := ∃ a, u = .ref a ∧ H a = some (.lst (ws.map V.int))
def LsIn (H : Hp) (us : List V) (wss : List (List Int)) : Prop := Paired (LAt H) us wss
theorem LsIn.mono {H H' : Hp} {us : List V} {wss : List (List Int)} (h : LsIn H us wss) (s : Same H H') : LsIn H' us wss := Paired.imp (fun _ _ ⟨a, e, x⟩ => ⟨a, e, s _ _ x⟩) h
theorem LsNe.mono {H H' : Hp} {m : Addr} {us : List V} {wss : List (List Int)} (h : LsNe H m us wss) (s : Same H H') : LsNe H' m us wss := Paired.imp (fun _ _ ⟨a, e, n, x⟩ => ⟨a, e, n, s _ _ x⟩) h
theorem LsNe.upd {H : Hp} {m : Addr} {us : List V} {wss : List (List Int)} {o : HO} (h : LsNe H m us wss) : LsNe (L2.upd H m o) m us wss := Paired.imp (fun _ _ ⟨a, e, n, x⟩ => ⟨a, e, n, by rw [upd_ne n]; exact x⟩) h
theorem LsNe.ins {H : Hp} {m : Addr} {us : List V} {wss : List (List Int)} (h : LsNe H m us wss) : LsIn H us wss := Paired.imp (fun _ _ ⟨a, e, _, x⟩ => ⟨a, e, x⟩) h
theorem LsIn.ne {H : Hp} {m : Addr} {us : List V} {wss : List (List Int)} (h : LsIn H us wss) (hm : H m = none) : LsNe H m us wss := Paired.imp (fun _ _ ⟨a, e, x⟩ => ⟨a, e, ne_of_none x hm, x⟩) h
theorem Paired.imp2 {α β : Type} {F G R : α → β → Prop} (f : ∀ a b, F a b → G a b → R a b) : ∀ {l : List α} {m : List β}, Paired F l m → Paired G l m → Paired R l m
  | _, _, .nil, _ => .nil
  | _, _, .cons h t, .cons h' t' => .cons (f _ _ h h') (Paired.imp2 f t t')
theorem Paired.app {α β : Type} {F : α → β → Prop} : ∀ {l l' : List α} {m m' : List β}, Paired F l m → Paired F l' m' → Paired F (l ++ l') (m ++ m')
  | _, _, _, _, .nil, h => h
  | _, _, _, _, .cons x t, h => .cons x (Paired.app t h)
theorem Paired.at {α β : Type} {F : α → β → Prop} : ∀ {l : List α} {m : List β} {i : Nat} {x : α}, Paired F l m → l[i]? = some x → ∃ y, m[i]? = some y ∧ F x y
  | _, _, i, x, .nil, h => by simp at h
  | _, _, 0, x, .cons f t, h => by
    cases h
    exact ⟨_, rfl, f⟩
  | _, _, i + 1, x, .cons f t, h => Paired.at (i := i) t h
section
variable {c : Cs} {P : Program} {w : World} {K : PySem.W.Frag} {mg : Str → Option Value} {base : Heap}
abbrev s_rows_of : Stmt := top 57
abbrev N_rows_of : List Str := ["polynomial"]
abbrev P_rows_of : List Str := ["polynomial"]
theorem sc_rows_of : FnScope N_rows_of ["polynomial"] (defScope s_rows_of) := ⟨rfl, rfl, rfl, by decide +kernel, rfl, by decide +kernel, by decide +kernel⟩

def sp_rows_of (K : PySem.W.Frag) : Sp := fun vs H Q _ => ∃ (l : Addr) (ns : List Int), vs = [.ref l] ∧ SqL K H l (ns.map V.int) ∧ GoodP ns ∧ ∀ H' v, Same H H' → RowsAt K H' v (rowsZ ns) → Q v H'
theorem ok_rows_of (T : Txt K mg c) {f : Addr} {fd : FuncData} (F : L2.Fun K "rows_of" "rows_of" s_rows_of f fd) (h_rows_by_two : Cal P w K mg base 3 "rows_by_two" (sp_rows_by_two K) []) (h_rows_by_three : Cal P w K mg base 4 "rows_by_three" (sp_rows_by_three K) []) (h_rows_by_four : Cal P w K mg base 4 "rows_by_four" (sp_rows_by_four K) []) : FnOk P w K mg base CX0 5 f fd P_rows_of (sp_rows_of K) := by
  refine F.ok sc_rows_of (fun vs H Q E h => ?_) (fun cdv A outer s H vs Q E hr h => ?_)
  · obtain ⟨l, ns, rfl, _⟩ := h
    rfl
  · obtain ⟨l, ns, rfl, hS, G, k⟩ := h
    refine ⟨_, (pss_cons (ps_if (pt_cmpR op_eq (pe_callB call_len_seq (by rfl) T.z_len (by decide +kernel) (pa_cons (pv 0) pa_nil)) pe_int (nomark _)) (pss_one (ps_ret (pe_lst pa_nil))) pss_nil)
      (pss_cons (ps_if (pt_cmpR op_eq (pe_callB call_len_seq (by rfl) T.z_len (by decide +kernel) (pa_cons (pv 0) pa_nil)) pe_int (nomark _)) (pss_one (ps_ret (pe_c h_rows_by_two hr (by decide) rfl (pa_cons (pe_ix ix_list (pv 0) pe_int (fun _ _ => rfl)) (pa_cons (pe_ix ix_list (pv 0) pe_int (fun _ _ => rfl)) pa_nil))))) pss_nil)
      (pss_cons (ps_if (pt_cmpR op_eq (pe_callB call_len_seq (by rfl) T.z_len (by decide +kernel) (pa_cons (pv 0) pa_nil)) pe_int (nomark _)) (pss_one (ps_ret (pe_c h_rows_by_three hr (by decide) rfl (pa_cons (pv 0) pa_nil)))) pss_nil)
      (pss_one (ps_ret (pe_c h_rows_by_four hr (by decide) rfl (pa_cons (pv 0) pa_nil))))))), ?_⟩
    refine ⟨_, rfl, l, _, rfl, .inl hS, rfl, _, rfl, ?_⟩
    have l2 := G.l2
    have l5 := G.l5
    have gl := G.last
    have g1 := G.mid1
    have g3 := G.mid3
    have gt := G.told
    rcases ns with _ | ⟨n0, _ | ⟨n1, _ | ⟨n2, _ | ⟨n3, _ | ⟨n4, _ | ⟨n5, r⟩⟩⟩⟩⟩⟩
    · simp at l2
    · simp at l2
    · refine ite2 (fun hc => ?_) (fun hc => absurd (by simp) hc)
      exact ⟨(show 0 ≤ sizeLine by decide), fun p hp => k _ _ (same_new hp) ⟨p, [], rfl, upd_same, .nil⟩⟩
    · refine ite2 (fun hc => absurd hc (by simp)) (fun hc => ?_)
      refine ⟨_, rfl, l, _, rfl, .inl hS, rfl, _, rfl, ?_⟩
      refine ite2 (fun hc => ?_) (fun hc => absurd (by simp) hc)
      have bq : Bd 100 n0 := G.sm _ (by simp)
      have bp : Bd 100 n1 := G.sm _ (by simp)
      exact ⟨_, rfl, l, _, _, _, rfl, rfl, hS, rfl, _, rfl, l, _, _, _, rfl, rfl, hS, rfl, n1, n0, rfl, Nat.le_trans bp (by decide), Nat.le_trans bq (by decide), gt, k⟩
    · refine ite2 (fun hc => absurd hc (by simp)) (fun hc => ?_)
      refine ⟨_, rfl, l, _, rfl, .inl hS, rfl, _, rfl, ?_⟩
      refine ite2 (fun hc => absurd hc (by simp)) (fun hc => ?_)
      refine ⟨_, rfl, l, _, rfl, .inl hS, rfl, _, rfl, ?_⟩
      refine ite2 (fun hc => ?_) (fun hc => absurd (by simp) hc)
      have e3 : n3 = 1 := Option.some.inj gl
      subst e3
      exact ⟨_, rfl, l, _, n0, n1, n2, rfl, hS, rfl, G.sm _ (by simp), G.sm _ (by simp), G.sm _ (by simp), gt, k⟩
    · refine ite2 (fun hc => absurd hc (by simp)) (fun hc => ?_)
      refine ⟨_, rfl, l, _, rfl, .inl hS, rfl, _, rfl, ?_⟩
      refine ite2 (fun hc => absurd hc (by simp)) (fun hc => ?_)
      refine ⟨_, rfl, l, _, rfl, .inl hS, rfl, _, rfl, ?_⟩
      refine ite2 (fun hc => absurd hc (by simp)) (fun hc => ?_)
      have e4 : n4 = 1 := Option.some.inj gl
      have e1 : n1 = 0 := Option.some.inj (g1 rfl)
      have e3 : n3 = 0 := Option.some.inj (g3 rfl)
      subst e4 e1 e3
      have gt' : n0 * (n2 * n2 - 4 * n0) ≠ 0 := gt
      exact ⟨_, rfl, l, n0, n2, rfl, hS, G.sm _ (by simp), G.sm _ (by simp), fun z => gt' (by rw [z, Int.zero_mul]), fun z => gt' (by rw [z, Int.mul_zero]), k⟩
    · simp at l5
abbrev s_ways_of : Stmt := top 43
abbrev N_ways_of : List Str := ["rows", "found", "degree", "power", "longer", "often", "powers"]
abbrev P_ways_of : List Str := ["rows"]
theorem sc_ways_of : FnScope N_ways_of ["rows"] (defScope s_ways_of) := ⟨rfl, rfl, rfl, by decide +kernel, rfl, by decide +kernel, by decide +kernel⟩

def sp_ways_of (K : PySem.W.Frag) : Sp := fun vs H Q _ => ∃ (v : V) (rs : List Rw), vs = [v] ∧ RowsAt K H v rs ∧ rs.length ≤ 3 ∧ (∀ r ∈ rs, r.1 = 2 ∨ r.1 = 3) ∧ ∀ H' p us, Same H H' → H p = none → H' p = some (.lst us) → LsIn H' us (waysOf rs) → Q (.ref p) H'
theorem ok_ways_of (T : Txt K mg c) {f : Addr} {fd : FuncData} (F : L2.Fun K "ways_of" "ways_of" s_ways_of f fd) : FnOk P w K mg base CX0 1 f fd P_ways_of (sp_ways_of K) := by
  refine F.ok sc_ways_of (fun vs H Q E h => ?_) (fun cdv A outer s H vs Q E hr h => ?_)
  · obtain ⟨v, rs, rfl, _⟩ := h
    rfl
  · obtain ⟨v, rs, rfl, ⟨l, urs, rfl, hl, hrs⟩, l3, dg, k⟩ := h
    refine ⟨_, (pss_cons (ps_set (i := 1) sc_ways_of.nd rfl (by first | exact Or.inl rfl | exact Or.inr rfl) (pe_lst (pa_cons (pe_lst pa_nil) pa_nil)))
      (pss_cons (ps_for PassesOwn.never rfl (pi_list (pv 0)) (pg_tup rfl (pgs_cons (pg_name (i := 2) sc_ways_of.nd rfl (by first | exact Or.inl rfl | exact Or.inr rfl)) (pgs_cons (pg_name (i := 3) sc_ways_of.nd rfl (by first | exact Or.inl rfl | exact Or.inr rfl)) pgs_nil))) (pss_cons (ps_set (i := 4) sc_ways_of.nd rfl (by first | exact Or.inl rfl | exact Or.inr rfl) (pe_lst pa_nil))
      (pss_cons (ps_for PassesOwn.never rfl (pi_range1 rfl T.z_range (pa_cons (pv 2) pa_nil)) (pg_name (i := 5) sc_ways_of.nd rfl (by first | exact Or.inl rfl | exact Or.inr rfl)) (pss_one (ps_aug (i := 4) sc_ways_of.nd rfl (by first | exact Or.inl rfl | exact Or.inr rfl) (pe_lc (own := [("powers", 6)]) (g := gName 6) (by rfl) sc_ways_of.nd (pi_list (pv 1)) (blkOk_by (own := [("powers", 6)]) (N := N_ways_of) (sc := defScope s_ways_of) (by decide +kernel)) (fun _ _ _ _ _ => (pg_name (i := 6) sc_ways_of.nd rfl (by first | exact Or.inl rfl | exact Or.inr rfl))) (fun _ _ _ _ _ => pts_nil) (fun _ _ _ _ _ => (pe_op op_cat (pv 6) (pe_lst (pa_cons (pv 5) pa_nil))))) iop_ext)))
      (pss_one (ps_set (i := 1) sc_ways_of.nd rfl (by first | exact Or.inl rfl | exact Or.inr rfl) (pv 4))))))
      (pss_one (ps_ret (pv 1))))), ?_⟩
    refine ⟨(show 0 ≤ sizeLine by decide), fun e he => ⟨sz1, fun f0 hf0 => ?_⟩⟩
    have s0 := (same_new (o := .lst []) he).trans (same_new (o := .lst [V.ref e]) hf0)
    have len := Paired.length hrs
    refine ⟨_, rfl, l, rfl, ⟨_, SqL.of (s0 _ _ hl)⟩, for_list (K := K) (a := l) (xs := urs) (fun i σ H' => ∃ (f : Addr) (us : List V) (o2 o3 o4 o5 o6 : Option V), σ = [some (.ref l), some (.ref f), o2, o3, o4, o5, o6] ∧ H' f = some (.lst us) ∧ H f = none ∧ LsIn H' us (waysOf (rs.take i)) ∧ Same H H') ⟨f0, [.ref e], _, _, _, _, _, rfl, upd_same, (same_new (o := .lst []) he).free hf0, .cons ⟨e, rfl, ?_⟩ .nil, s0⟩ (fun i σ H' _ ⟨_, _, _, _, _, _, _, _, _, _, _, sm⟩ => SqL.of (sm _ _ hl)) ?_ ?_⟩
    · rw [upd_ne (ne_of_none upd_same hf0)]
      exact upd_same
    · rintro i x σ H' hi ⟨f, us, o2, o3, o4, o5, o6, rfl, hf, hfn, hus, sm⟩
      obtain ⟨r, hri, ⟨p, lp, up, rfl, hp, hlp, _⟩⟩ := Paired.at hrs hi
      have hd := dg r (List.mem_of_getElem? hri)
      have i3 : i < 3 := Nat.lt_of_lt_of_le (List.getElem?_eq_some_iff.mp hri).1 l3
      obtain ⟨W, hW⟩ : ∃ W, W = waysOf (rs.take i) := ⟨_, rfl⟩
      have wok := ways_ok (rs.take i) [[]] 1 0 (by decide) (fun p hp => by rw [List.mem_singleton.mp hp]; decide) (fun r hr => dg r (List.mem_of_mem_take hr))
      have tl : (rs.take i).length ≤ 2 := by rw [List.length_take]; omega
      have Wl : W.length ≤ 9 := by
        rw [hW]
        refine Nat.le_trans wok.1 ?_
        rw [Nat.one_mul]
        exact Nat.le_trans (Nat.pow_le_pow_right (by decide) tl) (by decide)
      have Wp : ∀ p ∈ W, p.length ≤ 2 := fun p hp => by
        rw [hW] at hp
        have := wok.2 p hp
        omega
      rw [← hW] at hus
      have ul := Paired.length hus
      refine ⟨p, _, rfl, SqT.of (sm _ _ hp), rfl, _, _, rfl, _, _, rfl, rfl, ?_⟩
      refine ⟨(show 0 ≤ sizeLine by decide), fun L hL => ?_⟩
      refine ⟨_, rfl, r.1, rfl, by omega, by omega, for_range (lo := 0) (n := r.1.toNat) (fun o σ H2 => (∃ (o5 o6 : Option V), σ = [some (.ref l), some (.ref f), some (.int r.1), some (.ref lp), some (.ref L), o5, o6]) ∧ ∃ xs, H2 L = some (.lst xs) ∧ LsNe H2 L xs (wPart W o) ∧ Same H' H2) ⟨⟨_, _, rfl⟩, [], upd_same, .nil, same_new hL⟩ ?_ ?_⟩
      · rintro o σ H2 ho ⟨⟨q5, q6, rfl⟩, xs, hLx, hxs, s2⟩
        have o3' : o < 3 := by omega
        have xl := Paired.length hxs
        have pl := (wPart_ok Wp o).1
        have pl27 : (wPart W o).length ≤ 27 := by
          rw [pl]
          exact Nat.mul_le_mul (show o ≤ 3 by omega) Wl
        refine ⟨_, rfl, _, rfl, f, rfl, ⟨_, SqL.of (s2 _ _ hf)⟩, fun E hE => lc_list (K := K) (a := f) (xs := us) (fun j H3 => ∃ ys, H3 E = some (.lst ys) ∧ ys.length = j ∧ LsNe H3 E ys ((W.take j).map fun p => p ++ [((o : Nat) : Int)]) ∧ LsNe H3 L ys ((W.take j).map fun p => p ++ [((o : Nat) : Int)]) ∧ Same H2 H3) ⟨[], upd_same, rfl, .nil, .nil, same_new hE⟩ (fun j H3 _ ⟨_, _, _, _, _, s3⟩ => SqL.of (s3 _ _ (s2 _ _ hf))) ?_ ?_⟩
        · rintro j x H3 hj ⟨ys, hEy, yl, yE, yL, s3⟩
          obtain ⟨ws, hws, ⟨a, rfl, ha⟩⟩ := Paired.at hus hj
          have wl := Wp ws (List.mem_of_getElem? hws)
          have ha3 := s3 _ _ (s2 _ _ ha)
          refine ⟨rfl, _, rfl, _, rfl, sz1, fun t ht => ?_⟩
          have w1 := same_new (o := .lst [V.int (0 + (o : Int))]) ht
          refine ⟨a, t, _, _, rfl, rfl, w1 _ _ ha3, upd_same, ?_, fun q hq => ?_⟩
          · rw [List.length_map]
            show ws.length + 1 ≤ sizeLine
            exact Nat.le_of_lt (small1000 (by omega))
          have w2 := same_new (o := .lst (ws.map V.int ++ [V.int (0 + (o : Int))])) hq
          have w12 := w1.trans w2
          have hE3 := w12 _ _ hEy
          have jl : j < 9 := Nat.lt_of_lt_of_le (List.getElem?_eq_some_iff.mp hws).1 Wl
          have qE : q ≠ E := fun z => by rw [z] at hq; rw [w1 _ _ hEy] at hq; cases hq
          have qL : q ≠ L := fun z => by rw [z] at hq; rw [w1 _ _ (s3 _ _ hLx)] at hq; cases hq
          have LE : L ≠ E := ne_of_none hLx hE
          have ewq : (ws.map V.int ++ [V.int (0 + (o : Int))]) = (ws ++ [((o : Nat) : Int)]).map V.int := by
            rw [List.map_append, Int.zero_add]; rfl
          refine ⟨ys, hE3, small1000 (by omega), ys ++ [.ref q], upd_same, by rw [List.length_append, yl]; rfl, ?_, ?_, same_upd hE (s3.trans w12)⟩
          · rw [take_more hws, List.map_append]
            exact Paired.app (yE.mono w12).upd (.cons ⟨q, rfl, qE, by rw [upd_ne qE, upd_same, ewq]⟩ .nil)
          · rw [take_more hws, List.map_append]
            have keep : ∀ {u : V} {z : List Int}, LNe H3 E u z → LNe H3 L u z → LNe (upd (upd (upd H3 t (.lst [V.int (0 + (o : Int))])) q (.lst (ws.map V.int ++ [V.int (0 + (o : Int))]))) E (.lst (ys ++ [V.ref q]))) L u z := fun ⟨a1, e1, n1, x1⟩ ⟨a2, e2, n2, x2⟩ => by
              subst e1
              cases e2
              exact ⟨a1, rfl, n2, by rw [upd_ne n1]; exact w12 _ _ x1⟩
            exact Paired.app (Paired.imp2 (fun _ _ => keep) yE yL) (.cons ⟨q, rfl, qL, by rw [upd_ne qE, upd_same, ewq]⟩ .nil)
        · rintro H3 ⟨ys, hEy, yl, yE, yL, s3⟩
          rw [ul, List.take_length] at yE yL
          refine ⟨L, E, xs, ys, rfl, rfl, s3 _ _ hLx, hEy, ?_, ?_⟩
          · exact Nat.le_of_lt (small1000 (by omega))
          · refine ⟨⟨_, _, rfl⟩, xs ++ ys, upd_same, ?_, same_upd hL (s2.trans s3)⟩
            rw [wPart_more]
            exact Paired.app (hxs.mono s3).upd yL.upd
      · rintro σ H2 ⟨⟨q5, q6, rfl⟩, xs, hLx, hxs, s2⟩
        refine ⟨_, rfl, L, xs, _, _, _, _, _, rfl, hLx, sm.free hL, ?_, sm.trans s2⟩
        rw [take_more hri]
        unfold waysOf
        rw [List.foldl_append]
        show LsIn H2 xs (waysStep (waysOf (rs.take i)) r)
        rw [← hW]
        exact hxs.ins
    · rintro σ H' ⟨f, us, o2, o3, o4, o5, o6, rfl, hf, hfn, hus, sm⟩
      rw [len, List.take_length] at hus
      exact ⟨_, rfl, k _ _ _ sm hfn hf hus⟩
end
end My

namespace My
open PySem PySem.Spec PyProof.Rows L2
open C8 (Cal pe_c pe_gc)
theorem rows2_ok (p q : Int) : (rows2 p q).length ≤ 1 ∧ ∀ r ∈ rows2 p q, r.1 = 2 ∨ r.1 = 3 := by
  unfold rows2
  split
  · exact ⟨Nat.zero_le _, fun r hr => by cases hr⟩
  · exact ⟨Nat.le_refl _, fun r hr => by rw [List.mem_singleton.mp hr]; exact .inl rfl⟩
theorem rows3_ok (c b a : Int) : (rows3 c b a).length ≤ 2 ∧ ∀ r ∈ rows3 c b a, r.1 = 2 ∨ r.1 = 3 := by
  unfold rows3
  cases wholeZ c b a with
  | some r =>
    have := rows2_ok (a + r) (b + r * (a + r))
    exact ⟨by have := this.1; show (rows2 (a + r) (b + r * (a + r))).length ≤ 2; omega, this.2⟩
  | none =>
    dsimp only
    split
    · refine ⟨Nat.le_refl _, fun r hr => ?_⟩
      rcases List.mem_cons.mp hr with e | hr
      · rw [e]; exact .inr rfl
      · rw [List.mem_singleton.mp hr]; exact .inl rfl
    · refine ⟨(show 1 ≤ 2 by decide), fun r hr => ?_⟩
      rw [List.mem_singleton.mp hr]; exact .inr rfl
theorem rowsOn_ok : ∀ (ms : List Int) (k : Nat), ∀ r ∈ rowsOn k ms, r.1 = 2 ∨ r.1 = 3
  | [], _, r, h => by cases h
  | n :: ms, k, r, h => by
    rcases List.mem_cons.mp h with e | h
    · rw [e]; exact .inl rfl
    · exact rowsOn_ok ms (k + 1) r h
theorem numsOf_len {l : List Int} (h : l.length ≤ 2) : (numsOf l).length ≤ 2 := by
  unfold numsOf
  split
  · split
    · show 1 ≤ 2; decide
    · show 2 ≤ 2; decide
  · exact h
theorem rows4_ok (b a : Int) : (rows4 b a).length ≤ 3 ∧ ∀ r ∈ rows4 b a, r.1 = 2 ∨ r.1 = 3 := by
  unfold rows4
  cases halvesZ b a with
  | some p =>
    obtain ⟨x, y⟩ := p
    refine ⟨?_, rowsOn_ok _ 0⟩
    show (rowsOn 0 (numsZ x y)).length ≤ 3
    rw [rowsOn_len]
    have : (numsZ x y).length ≤ 2 := numsOf_len (List.length_filter_le _ _)
    omega
  | none =>
    dsimp only
    split
    · split
      · refine ⟨Nat.le_refl _, fun r hr => ?_⟩
        rcases List.mem_cons.mp hr with e | hr
        · rw [e]; exact .inl rfl
        · rcases List.mem_cons.mp hr with e | hr
          · rw [e]; exact .inl rfl
          · rw [List.mem_singleton.mp hr]; exact .inl rfl
      · refine ⟨(show 2 ≤ 3 by decide), fun r hr => ?_⟩
        rcases List.mem_cons.mp hr with e | hr
        · rw [e]; exact .inl rfl
        · rw [List.mem_singleton.mp hr]; exact .inl rfl
    · refine ⟨(show 1 ≤ 3 by decide), fun r hr => ?_⟩
      rw [List.mem_singleton.mp hr]; exact .inl rfl
theorem rowsZ_ok (ns : List Int) : (rowsZ ns).length ≤ 3 ∧ ∀ r ∈ rowsZ ns, r.1 = 2 ∨ r.1 = 3 := by
  unfold rowsZ
  split
  · rename_i q p _
    have := rows2_ok p q
    exact ⟨by omega, this.2⟩
  · rename_i c b a _
    have := rows3_ok c b a
    exact ⟨by omega, this.2⟩
  · exact rows4_ok _ _
  · exact ⟨Nat.zero_le _, fun r hr => by cases hr⟩
/-- what the text says of the class House -/
structure HsOk (K : PySem.W.Frag) (C : Addr) : Prop where
  cls : Cls K C
  poly : NoAttr K C "poly"
  rows : NoAttr K C "rows"
  ways : NoAttr K C "ways"
  known : NoAttr K C "known"
  moved : NoAttr K C "moved"
section
variable {c : Cs} {CH : Addr} {P : Program} {w : World} {K : PySem.W.Frag} {mg : Str → Option Value} {base : Heap}
theorem FrAt.xt {H H' : Hp} {a C dx : Addr} {fs : List (Str × V)} {v : V} {q : Int × Int} (h : FrAt K H v q) (ha : H a = some (.ins C dx fs)) (x : Xt a H H') : FrAt K H' v q := by
  obtain ⟨p, rfl, hp⟩ := h
  exact ⟨p, rfl, x _ _ (fun z => by rw [z, ha] at hp; cases hp) hp⟩
theorem RowAt.xt {H H' : Hp} {a C dx : Addr} {fs : List (Str × V)} {v : V} {r : Rw} (h : RowAt K H v r) (ha : H a = some (.ins C dx fs)) (x : Xt a H H') : RowAt K H' v r := by
  obtain ⟨p, l, us, e, h1, h2, h3⟩ := h
  exact ⟨p, l, us, e, x _ _ (fun z => by rw [z, ha] at h1; cases h1) h1, x _ _ (fun z => by rw [z, ha] at h2; cases h2) h2, Paired.imp (fun _ _ y => y.xt ha x) h3⟩
theorem RowsAt.xt {H H' : Hp} {a C dx : Addr} {fs : List (Str × V)} {v : V} {rs : List Rw} (h : RowsAt K H v rs) (ha : H a = some (.ins C dx fs)) (x : Xt a H H') : RowsAt K H' v rs := by
  obtain ⟨l, us, e, h1, h2⟩ := h
  exact ⟨l, us, e, x _ _ (fun z => by rw [z, ha] at h1; cases h1) h1, Paired.imp (fun _ _ y => y.xt ha x) h2⟩
theorem LsIn.xt {H H' : Hp} {a C dx : Addr} {fs : List (Str × V)} {us : List V} {wss : List (List Int)} (h : LsIn H us wss) (ha : H a = some (.ins C dx fs)) (x : Xt a H H') : LsIn H' us wss := Paired.imp (fun _ _ ⟨b, e, y⟩ => ⟨b, e, x _ _ (fun z => by rw [z, ha] at y; cases y) y⟩) h
theorem putF_len (f : Str) (v : V) : ∀ fs : List (Str × V), (putF f v fs).length ≤ fs.length + 1
  | [] => Nat.le_refl _
  | (g, x) :: r => by
    show (if g = f then (g, v) :: r else (g, x) :: putF f v r).length ≤ _
    have := putF_len f v r
    split
    · show r.length + 1 ≤ r.length + 1 + 1
      omega
    · show (putF f v r).length + 1 ≤ r.length + 1 + 1
      omega
def houseF (l : Addr) (v : V) (p : Addr) : List (Str × V) := putF "moved" .non (putF "known" .non (putF "ways" (.ref p) (putF "rows" v (putF "poly" (.ref l) []))))
abbrev s_House_init : Stmt := inClass (top 45) 0
abbrev N_House_init : List Str := ["self", "poly", "rows"]
abbrev P_House_init : List Str := ["self", "poly", "rows"]
theorem sc_House_init : FnScope N_House_init ["self", "poly", "rows"] (defScope s_House_init) := ⟨rfl, rfl, rfl, by decide +kernel, rfl, by decide +kernel, by decide +kernel⟩

def sp_House_init (K : PySem.W.Frag) : Sp := fun vs H Q _ => ∃ (a C dx l : Addr) (v : V) (rs : List Rw), vs = [.ref a, .ref l, v] ∧ H a = some (.ins C dx []) ∧ HsOk K C ∧ RowsAt K H v rs ∧ rs.length ≤ 3 ∧ (∀ r ∈ rs, r.1 = 2 ∨ r.1 = 3) ∧
  ∀ H' p us, Xt a H H' → H' a = some (.ins C dx (houseF l v p)) → H' p = some (.lst us) → H p = none → LsIn H' us (waysOf rs) → Q .non H'
theorem ok_House_init (T : Txt K mg c) {f : Addr} {fd : FuncData} (F : L2.Fun K "__init__" "House.__init__" s_House_init f fd) (h_ways_of : Cal P w K mg base 1 "ways_of" (sp_ways_of K) []) : FnOk P w K mg base CX0 2 f fd P_House_init (sp_House_init K) := by
  refine F.ok sc_House_init (fun vs H Q E h => ?_) (fun cdv A outer s H vs Q E hr h => ?_)
  · obtain ⟨a, C, dx, l, v, rs, rfl, _⟩ := h
    rfl
  · obtain ⟨a, C, dx, l, v, rs, rfl, ha, hC, hrs, l3, dg, k⟩ := h
    refine ⟨_, (pss_cons (ps_fld (pv 0) (pv 1) rfl)
      (pss_cons (ps_fld (pv 0) (pv 2) rfl)
      (pss_cons (ps_fld (pv 0) (pe_c h_ways_of hr (by decide) rfl (pa_cons (pv 2) pa_nil)) rfl)
      (pss_cons (ps_fld (pv 0) pe_non rfl)
      (pss_one (ps_fld (pv 0) pe_non rfl)))))), ?_⟩
    have z1 := putF_len "poly" (.ref l) []
    have z2 := putF_len "rows" v (putF "poly" (.ref l) [])
    have x1 : Xt a H (upd H a (.ins C dx (putF "poly" (.ref l) []))) := Xt.upd
    refine ⟨_, rfl, _, rfl, a, C, dx, _, rfl, ha, hC.cls, hC.poly, (show 0 < 1000 by decide), ?_⟩
    refine ⟨_, rfl, _, rfl, a, C, dx, _, rfl, upd_same, hC.cls, hC.rows, (by show (putF "poly" (.ref l) []).length < 1000; have : ([] : List (Str × V)).length = 0 := rfl; omega), ?_⟩
    have x2 : Xt a H (upd (upd H a (.ins C dx (putF "poly" (.ref l) []))) a (.ins C dx (putF "rows" v (putF "poly" (.ref l) [])))) := x1.trans Xt.upd
    refine ⟨_, rfl, v, rs, rfl, hrs.xt ha x2, l3, dg, fun H1 p us s1 hp0 hp hus => ?_⟩
    have z3 := putF_len "ways" (.ref p) (putF "rows" v (putF "poly" (.ref l) []))
    have z4 := putF_len "known" .non (putF "ways" (.ref p) (putF "rows" v (putF "poly" (.ref l) [])))
    have ha1 := s1 _ _ (upd_same (H := upd H a (.ins C dx (putF "poly" (.ref l) []))) (a := a) (o := .ins C dx (putF "rows" v (putF "poly" (.ref l) []))))
    have z0 : ([] : List (Str × V)).length = 0 := rfl
    have x3 : Xt a H H1 := x2.trans (Xt.of s1)
    have pa : p ≠ a := fun z => by rw [z, ha1] at hp; cases hp
    refine ⟨_, rfl, a, C, dx, _, rfl, ha1, hC.cls, hC.ways, by omega, ?_⟩
    refine ⟨_, rfl, a, C, dx, _, rfl, upd_same, hC.cls, hC.known, by omega, ?_⟩
    refine ⟨_, rfl, a, C, dx, _, rfl, upd_same, hC.cls, hC.moved, by omega, ?_⟩
    have x4 : Xt a H1 (upd (upd (upd H1 a (.ins C dx (putF "ways" (.ref p) (putF "rows" v (putF "poly" (.ref l) []))))) a (.ins C dx (putF "known" .non (putF "ways" (.ref p) (putF "rows" v (putF "poly" (.ref l) [])))))) a (.ins C dx (houseF l v p))) := (Xt.upd.trans Xt.upd).trans Xt.upd
    refine k _ p us (x3.trans x4) upd_same (x4 _ _ pa hp) ?_ (hus.xt ha1 x4)
    rw [upd_ne pa, upd_ne pa] at hp0
    exact hp0
/-- a house that stands at h, of the polynomial ns -/
def HouseAt (K : PySem.W.Frag) (C : Addr) (H : Hp) (h : Addr) (ns : List Int) : Prop := ∃ (dx l : Addr) (v : V) (p : Addr) (us : List V), H h = some (.ins C dx (houseF l v p)) ∧ H l = some (.lst (ns.map V.int)) ∧ RowsAt K H v (rowsZ ns) ∧ H p = some (.lst us) ∧ LsIn H us (waysOf (rowsZ ns))
abbrev s_house_of : Stmt := top 58
abbrev N_house_of : List Str := ["polynomial"]
abbrev P_house_of : List Str := ["polynomial"]
theorem sc_house_of : FnScope N_house_of ["polynomial"] (defScope s_house_of) := ⟨rfl, rfl, rfl, by decide +kernel, rfl, by decide +kernel, by decide +kernel⟩

def sp_house_of (K : PySem.W.Frag) (c : Cs) (CH : Addr) : Sp := fun vs H Q E => ∃ (a : Addr) (ns : List Int), vs = [.ref a] ∧ SqL K H a (ns.map V.int) ∧
  ((faultOf ns).1 = false → ∀ d H', Same H H' → H d = none → H' d = some (.xd [("at", atV (faultOf ns).2)]) → E (.ref c.NoPoly) (some d) H') ∧
  ((faultOf ns).1 = true → ∀ H' h, Same H H' → H h = none → HouseAt K CH H' h ns → Q (.ref h) H')
theorem ok_house_of (T : Txt K mg c) (hH : HsOk K CH) {f : Addr} {fd : FuncData} (F : L2.Fun K "house_of" "house_of" s_house_of f fd) (h_must_poly : CalX P w K mg base 3 "must_poly" (sp_must_poly K c)) (h_rows_of : Cal P w K mg base 5 "rows_of" (sp_rows_of K) []) (m_House : C8.Mak P w K mg base 2 "House" CH (sp_House_init K) []) : FnOk P w K mg base (L2.CX P w) 6 f fd P_house_of (sp_house_of K c CH) := by
  refine F.okX sc_house_of (fun vs H Q E h => ?_) (fun cdv A outer s H vs Q E hr h => ?_)
  · obtain ⟨a, ns, rfl, _⟩ := h
    rfl
  · obtain ⟨a, ns, rfl, hS, kx, k⟩ := h
    refine ⟨_, (pss_cons (ps_expr (pe_cS h_must_poly hr (by decide) rfl (fun σ => passAt (takes_of rfl rfl rfl rfl) σ) (pa_cons (pv 0) pa_nil)))
      (pss_one (ps_ret (C8.pe_mk m_House hr (by decide) rfl (pa_cons (pe_callTy call_list_of (by rfl) T.z_list (by decide +kernel) (pa_cons (pv 0) pa_nil)) (pa_cons (pe_c h_rows_of hr (by decide) rfl (pa_cons (pv 0) pa_nil)) pa_nil)))))), ?_⟩
    refine ⟨_, rfl, a, ns, rfl, hS, fun g H1 s1 => ?_, fun g d H1 s1 n hd => kx g d H1 s1 n hd⟩
    have G := good_of g
    refine ⟨_, rfl, a, _, rfl, .inl (s1.seq hS), fun l hl => ?_⟩
    have s2 := s1.trans (same_new (o := .lst (ns.map V.int)) hl)
    refine ⟨_, rfl, a, ns, rfl, s2.seq hS, G, fun H2 v s3 hv => fun x dx hx hdx ne => ?_⟩
    have u1 := same_new (o := .own x) hdx
    have hx1 : upd H2 dx (.own x) x = none := by rw [upd_ne (Ne.symm ne)]; exact hx
    have u2 := u1.trans (same_new (o := .ins CH dx []) hx1)
    have rk := rowsZ_ok ns
    refine ⟨x, CH, dx, l, v, rowsZ ns, rfl, upd_same, hH, hv.mono u2, rk.1, rk.2, fun H3 p us x3 h3 hp hpn hus => ⟨rfl, ?_⟩⟩
    have hxn : H x = none := (s2.trans s3).free hx
    have s4 : Same H H3 := fun b o hb => x3 _ _ (ne_of_none hb hxn) (u2 _ _ (s3 _ _ (s2 _ _ hb)))
    have hl2 := s3 _ _ (upd_same (H := H1) (a := l) (o := .lst (ns.map V.int)))
    have lx : l ≠ x := ne_of_none hl2 hx
    exact k g H3 x s4 hxn ⟨dx, l, v, p, us, h3, x3 _ _ lx (u2 _ _ hl2), (hv.mono u2).xt upd_same x3, hp, hus⟩
end
end My

/-! ### zip(a, b, strict=True) of two lists of one length (the library carries zip without strict) -/
namespace PySem
section
variable {prog : Program} {w : World} {A : Around} {E : Value → Shared → Prop} {s : Shared}
/-- the record of a strict zip -/
abbrev ZipS (h : Heap) (z TI TO : Addr) (f0 : Value) : Prop :=
  h.get? z = some { cls := .type "zip", dict := none, data := .fields #[f0, .bool false, .bool true, .ref TI, .ref TO], slots := #[] }
theorem nextOrEnd_item {it l : Addr} {i : Nat} {items : Array Value} {x : Value} {Q : Option Value → Shared → Prop} (hit : s.heap.IsListIter it l i) (hl : s.heap.IsList l items) (hx : items[i]? = some x)
    (hQ : ∀ h', h'.IsListIter it l (i + 1) → Heap.SameBut it s.heap h' → Q (some x) { s with heap := h' }) : wpAny (model prog w) A (Builtin.SmallTypes.nextOrEnd (.ref it)) Q E s := by
  unfold Builtin.SmallTypes.nextOrEnd
  exact wpAny_bind (wpAny_attempt (wpAny_nextOf_list_item hit hl hx fun h' q1 q2 => wpAny_pure (hQ h' q1 q2)))
theorem nextOrEnd_end {it l : Addr} {i : Nat} {items : Array Value} {Q : Option Value → Shared → Prop} (hh : A.handled = none) (hit : s.heap.IsListIter it l i) (hl : s.heap.IsList l items) (hx : items[i]? = none)
    (hQ : ∀ h', Heap.ExtBut it s.heap h' → Q none { s with heap := h' }) : wpAny (model prog w) A (Builtin.SmallTypes.nextOrEnd (.ref it)) Q E s := by
  unfold Builtin.SmallTypes.nextOrEnd
  refine wpAny_bind (wpAny_attempt (wpAny_nextOf_list_end hh hit hl hx fun h' e q1 ⟨o, ho, hc⟩ => ?_))
  exact wpAny_bind (wpAny_isInstance (T := "StopIteration") (b := true) ⟨o, ho, hc⟩ isSubtype_stop (wpAny_pure (hQ h' q1)))
/-- what stays of a turn -/
abbrev ZKeep (z TO i1 i2 : Addr) (h h' : Heap) : Prop := ∀ c o, c ≠ z → c ≠ TO → c ≠ i1 → c ≠ i2 → h.get? c = some o → h'.get? c = some o
theorem zipS_item {z TI TO i1 i2 l1 l2 : Addr} {k1 k2 : Nat} {xs ys : Array Value} {x y a b : Value} {Q : Value → Shared → Prop} (D : ZipApart z TI TO i1 i2 l1 l2)
    (hz : ZipS s.heap z TI TO .none) (hTI : IsPair s.heap TI (.ref i1) (.ref i2)) (hTO : IsPair s.heap TO a b) (h1 : s.heap.IsListIter i1 l1 k1) (h2 : s.heap.IsListIter i2 l2 k2) (hl1 : s.heap.IsList l1 xs) (hl2 : s.heap.IsList l2 ys) (hx : xs[k1]? = some x) (hy : ys[k2]? = some y)
    (hQ : ∀ h', ZipS h' z TI TO (rawInt s.heap.objs.size) → IsPair h' TO x y → h'.IsListIter i1 l1 (k1 + 1) → h'.IsListIter i2 l2 (k2 + 1) → IsPair h' s.heap.objs.size x y → h'.objs.size = s.heap.objs.size + 1 → ZKeep z TO i1 i2 s.heap h' → Q (.ref s.heap.objs.size) { s with heap := h' }) :
    wpAny (model prog w) A (Builtin.«zip.__next__» ⟨[.ref z], []⟩) (fun fin s' => ∃ v, fin = .done (.ret v) ∧ Q v s') E s := by
  show wpAny _ _ (field (.ref z) 2 >>= _) _ _ _
  refine wpAny_bind (wpAny_field hz rfl (x := .bool true) rfl ?_)
  show wpAny _ _ (field (.ref z) 3 >>= _) _ _ _
  refine wpAny_bind (wpAny_field hz rfl (x := .ref TI) rfl (wpAny_bind (wpAny_seqItems hTI rfl ?_)))
  show wpAny _ _ (Builtin.SmallTypes.ownedTupleIsFree (.ref z) >>= _) _ _ _
  refine wpAny_bind ?_
  unfold Builtin.SmallTypes.ownedTupleIsFree
  refine wpAny_bind (wpAny_field hz rfl (x := .none) rfl (wpAny_pure ?_))
  simp only [if_true]
  refine wpAny_bind (wpAny_rule (wpAny_bind (wpAny_field hz rfl (x := .ref TO) rfl (wpAny_bind (wpAny_setField_rec hz (by simp) fun g1 gz g1s => ?_)))))
  have hz1 : ZipS g1 z TI TO .ellipsis := gz
  refine wpAny_bind ?_
  simp only [List.zipIdx_cons, List.zipIdx_nil, List.forIn_cons, List.forIn_nil]
  refine wpAny_bind (wpAny_bind (wpAny_onRaise ?_))
  show wpAny _ _ (Builtin.SmallTypes.nextOrEnd (.ref i1)) _ _ _
  refine nextOrEnd_item (h1.extBut g1s.extBut D.i1z) (hl1.extBut g1s.extBut D.l1z) hx fun g2 i12 g2s => ?_
  have hTO2 : IsPair g2 TO a b := g2s.extBut _ _ D.TOi1 (g1s.extBut _ _ D.TOz hTO)
  refine wpAny_bind (wpAny_seqItems hTO2 rfl (wpAny_bind (wpAny_updateSeq_pair hTO2 fun g3 t3 g3s => ?_)))
  have hTO3 : IsPair g3 TO x b := t3
  refine wpAny_bind (wpAny_letGo (wpAny_pure ?_))
  refine wpAny_bind (wpAny_bind (wpAny_onRaise ?_))
  show wpAny _ _ (Builtin.SmallTypes.nextOrEnd (.ref i2)) _ _ _
  refine nextOrEnd_item (((h2.extBut g1s.extBut D.i2z).extBut g2s.extBut D.i12.symm).extBut g3s.extBut D.TOi2.symm) (((hl2.extBut g1s.extBut D.l2z).extBut g2s.extBut D.l2i1).extBut g3s.extBut D.l2TO) hy fun g4 i24 g4s => ?_
  have hTO4 : IsPair g4 TO x b := g4s.extBut _ _ D.TOi2 hTO3
  refine wpAny_bind (wpAny_seqItems hTO4 rfl (wpAny_bind (wpAny_updateSeq_pair hTO4 fun g5 t5 g5s => ?_)))
  have hTO5 : IsPair g5 TO x y := t5
  refine wpAny_bind (wpAny_letGo (wpAny_pure (wpAny_pure (wpAny_bind (wpAny_seqItems hTO5 rfl (wpAny_bind (wpAny_newTuple ?_)))))))
  have sz : g5.objs.size = s.heap.objs.size := by rw [g5s.1, g4s.1, g3s.1, g2s.1, g1s.1]
  have kp : ZKeep z TO i1 i2 s.heap g5 := fun c o c1 c2 c3 c4 e => g5s.extBut _ _ c2 (g4s.extBut _ _ c4 (g3s.extBut _ _ c2 (g2s.extBut _ _ c3 (g1s.extBut _ _ c1 e))))
  have hz5 : ZipS g5 z TI TO .ellipsis := g5s.extBut _ _ D.TOz.symm (g4s.extBut _ _ D.i2z.symm (g3s.extBut _ _ D.TOz.symm (g2s.extBut _ _ D.i1z.symm hz1)))
  have i15 : g5.IsListIter i1 l1 (k1 + 1) := ((i12.extBut g3s.extBut D.TOi1.symm).extBut g4s.extBut D.i12).extBut g5s.extBut D.TOi1.symm
  have i25 : g5.IsListIter i2 l2 (k2 + 1) := i24.extBut g5s.extBut D.TOi2.symm
  have zlt : z < g5.objs.size := Heap.lt_size hz5
  show wpAny _ _ (Builtin.SmallTypes.ownedTupleHandOut (.ref z) (.ref g5.objs.size) >>= _) _ _ _
  refine wpAny_bind ?_
  unfold Builtin.SmallTypes.ownedTupleHandOut
  have hz6 : ZipS (g5.push { cls := .type "tuple", data := .seq #[x, y] }) z TI TO .ellipsis := Heap.get?_push_of_some _ hz5
  refine wpAny_bind (wpAny_setField_rec hz6 (by simp) fun g7 z7 g7s => ?_)
  have hz7 : ZipS g7 z TI TO (rawInt g5.objs.size) := z7
  refine wpAny_setField_rec hz7 (by simp) fun g8 z8 g8s => ?_
  have hz8 : ZipS g8 z TI TO (rawInt g5.objs.size) := z8
  have up : ∀ c o, c ≠ z → g5.get? c = some o → g8.get? c = some o := fun c o c1 e => g8s.extBut _ _ c1 (g7s.extBut _ _ c1 (Heap.get?_push_of_some _ e))
  have T8 : IsPair g8 g5.objs.size x y := g8s.extBut _ _ (Nat.ne_of_gt zlt) (g7s.extBut _ _ (Nat.ne_of_gt zlt) (Heap.get?_push_size _ rfl))
  have s8 : g8.objs.size = g5.objs.size + 1 := by rw [g8s.1, g7s.1, Heap.size_push]
  rw [sz] at hz8 T8 s8
  refine wpAny_pure ⟨_, rfl, ?_⟩
  show Q (.ref g5.objs.size) _
  rw [sz]
  exact hQ g8 hz8 (up _ _ D.TOz hTO5) (i15.at fun o e => up _ o D.i1z e) (i25.at fun o e => up _ o D.i2z e) T8 s8 fun c o c1 c2 c3 c4 e => up c o c1 (kp c o c1 c2 c3 c4 e)
theorem zipS_end {z TI TO i1 i2 l1 l2 : Addr} {k1 k2 : Nat} {xs ys : Array Value} {a b : Value} {Q : Fin → Shared → Prop} (hh : A.handled = none) (D : ZipApart z TI TO i1 i2 l1 l2)
    (hz : ZipS s.heap z TI TO .none) (hTI : IsPair s.heap TI (.ref i1) (.ref i2)) (hTO : IsPair s.heap TO a b) (h1 : s.heap.IsListIter i1 l1 k1) (h2 : s.heap.IsListIter i2 l2 k2) (hl1 : s.heap.IsList l1 xs) (hl2 : s.heap.IsList l2 ys) (hx : xs[k1]? = none) (hy : ys[k2]? = none)
    (hE : ∀ h' e, ZKeep z TO i1 i2 s.heap h' → (∃ o, h'.get? e = some o ∧ o.cls = .type "StopIteration") → E (.ref e) { s with heap := h' }) :
    wpAny (model prog w) A (Builtin.«zip.__next__» ⟨[.ref z], []⟩) Q E s := by
  show wpAny _ _ (field (.ref z) 2 >>= _) _ _ _
  refine wpAny_bind (wpAny_field hz rfl (x := .bool true) rfl ?_)
  show wpAny _ _ (field (.ref z) 3 >>= _) _ _ _
  refine wpAny_bind (wpAny_field hz rfl (x := .ref TI) rfl (wpAny_bind (wpAny_seqItems hTI rfl ?_)))
  show wpAny _ _ (Builtin.SmallTypes.ownedTupleIsFree (.ref z) >>= _) _ _ _
  refine wpAny_bind ?_
  unfold Builtin.SmallTypes.ownedTupleIsFree
  refine wpAny_bind (wpAny_field hz rfl (x := .none) rfl (wpAny_pure ?_))
  simp only [if_true]
  refine wpAny_bind (wpAny_rule (wpAny_bind (wpAny_field hz rfl (x := .ref TO) rfl (wpAny_bind (wpAny_setField_rec hz (by simp) fun g1 gz g1s => ?_)))))
  have hz1 : ZipS g1 z TI TO .ellipsis := gz
  refine wpAny_bind ?_
  simp only [List.zipIdx_cons, List.zipIdx_nil, List.forIn_cons, List.forIn_nil]
  refine wpAny_bind (wpAny_bind (wpAny_onRaise ?_))
  show wpAny _ _ (Builtin.SmallTypes.nextOrEnd (.ref i1)) _ _ _
  refine nextOrEnd_end hh (h1.extBut g1s.extBut D.i1z) (hl1.extBut g1s.extBut D.l1z) hx fun g2 g2s => ?_
  have hz2 : ZipS g2 z TI TO .ellipsis := g2s _ _ D.i1z.symm hz1
  have h2x : ∀ {g3 : Heap}, Heap.ExtBut i1 g1 g2 → Heap.SameBut z g2 g3 → g3.IsListIter i2 l2 k2 := fun q1 q2 => ((h2.extBut g1s.extBut D.i2z).extBut q1 D.i12.symm).extBut q2.extBut D.i2z
  have hl2x : ∀ {g3 : Heap}, Heap.ExtBut i1 g1 g2 → Heap.SameBut z g2 g3 → g3.IsList l2 ys := fun q1 q2 => ((hl2.extBut g1s.extBut D.l2z).extBut q1 D.l2i1).extBut q2.extBut D.l2z
  refine wpAny_bind (wpAny_setField_rec hz2 (by simp) fun g3 _ g3s => ?_)
  refine wpAny_bind ?_
  show wpAny _ _ (((Builtin.SmallTypes.nextOrEnd (.ref i2) >>= _) >>= _) >>= _) _ _ _
  refine wpAny_bind (wpAny_bind (wpAny_bind (nextOrEnd_end hh (h2x g2s g3s) (hl2x g2s g3s) hy fun g4 g4s => ?_)))
  refine wpAny_pure ?_
  refine wpAny_pure ?_
  refine wpAny_bind (wpAny_rule ?_)
  unfold Builtin.SmallTypes.stopIteration
  refine wpAny_bind ?_
  simp only [newExc, newTuple]
  refine wpAny_bind (wpAny_newObj_type (wpAny_bind (m := firstArgMember _ _) (wpAny_of_eq (a := Value.none) (by first | rfl | (simp only [firstArgMember]; rfl)) (wpAny_newObj_type ?_ (by size_fits)))) (by size_fits))
  simp only [raiseNew]
  refine wpAny_bind (wpAny_handled ?_)
  first | rw [show A.in1.handled = none from hh] | rw [hh]
  exact wpAny_bind (wpAny_pure (wpAny_throw (hE _ _ (fun c o c1 c2 c3 c4 q => Heap.get?_push_of_some _ (Heap.get?_push_of_some _ (g4s _ _ c4 (g3s.extBut _ _ c1 (g2s _ _ c3 (g1s.extBut _ _ c1 q)))))) ⟨_, Heap.get?_push_size _ rfl, rfl⟩)))
end
end PySem
namespace PySem
section
variable {prog : Program} {w : World} {A : Around} {E : Value → Shared → Prop} {s : Shared}
theorem pyNext_zipS_item {z TI TO i1 i2 l1 l2 : Addr} {k1 k2 : Nat} {xs ys : Array Value} {x y a b : Value} {Q : Option Value → Shared → Prop} (D : ZipApart z TI TO i1 i2 l1 l2)
    (hz : ZipS s.heap z TI TO .none) (hTI : IsPair s.heap TI (.ref i1) (.ref i2)) (hTO : IsPair s.heap TO a b) (h1 : s.heap.IsListIter i1 l1 k1) (h2 : s.heap.IsListIter i2 l2 k2) (hl1 : s.heap.IsList l1 xs) (hl2 : s.heap.IsList l2 ys) (hx : xs[k1]? = some x) (hy : ys[k2]? = some y)
    (hQ : ∀ h', ZipS h' z TI TO (rawInt s.heap.objs.size) → IsPair h' TO x y → h'.IsListIter i1 l1 (k1 + 1) → h'.IsListIter i2 l2 (k2 + 1) → IsPair h' s.heap.objs.size x y → h'.objs.size = s.heap.objs.size + 1 → ZKeep z TO i1 i2 s.heap h' → Q (some (.ref s.heap.objs.size)) { s with heap := h' }) :
    wpAny (model prog w) A (pyNext (.ref z)) Q E s := by
  have ty : s.TypeIs (.ref z) "zip" := ⟨_, hz, rfl⟩
  have step := zipS_item (prog := prog) (w := w) (A := A.in1) (E := fun e s' => E e s') (Q := fun v s' => Q (some v) s') D hz hTI hTO h1 h2 hl1 hl2 hx hy hQ
  unfold pyNext
  exact wpAny_bind (wpAny_attempt (wpAny_callSpecial?_slot (name := Str.ofString "__next__") ty F.slot_zip_next (wpAny_call_entry F.slot_zip_next ty F.entry_zip_next
    (zipS_item D hz hTI hTO h1 h2 hl1 hl2 hx hy fun h' q1 q2 q3 q4 q5 q6 q7 => wpAny_pure (hQ h' q1 q2 q3 q4 q5 q6 q7)) (F.args_zip_next_1 _))))
theorem pyNext_zipS_end {z TI TO i1 i2 l1 l2 : Addr} {k1 k2 : Nat} {xs ys : Array Value} {a b : Value} {Q : Option Value → Shared → Prop} (hh : A.handled = none) (D : ZipApart z TI TO i1 i2 l1 l2)
    (hz : ZipS s.heap z TI TO .none) (hTI : IsPair s.heap TI (.ref i1) (.ref i2)) (hTO : IsPair s.heap TO a b) (h1 : s.heap.IsListIter i1 l1 k1) (h2 : s.heap.IsListIter i2 l2 k2) (hl1 : s.heap.IsList l1 xs) (hl2 : s.heap.IsList l2 ys) (hx : xs[k1]? = none) (hy : ys[k2]? = none)
    (hQ : ∀ h', ZKeep z TO i1 i2 s.heap h' → Q none { s with heap := h' }) : wpAny (model prog w) A (pyNext (.ref z)) Q E s := by
  have ty : s.TypeIs (.ref z) "zip" := ⟨_, hz, rfl⟩
  unfold pyNext
  refine wpAny_bind (wpAny_attempt (wpAny_callSpecial?_slot (name := Str.ofString "__next__") ty F.slot_zip_next (wpAny_call_entry F.slot_zip_next ty F.entry_zip_next
    (zipS_end hh D hz hTI hTO h1 h2 hl1 hl2 hx hy fun h' e hk ⟨o, ho, hc⟩ => ?_) (F.args_zip_next_1 _))))
  exact wpAny_bind (wpAny_isInstance (T := "StopIteration") (b := true) ⟨o, ho, hc⟩ isSubtype_stop (wpAny_pure (hQ _ hk)))
theorem goZipS {elts : List Expr} {x1} {pos : Pos} {z TI TO T : Addr} {Q : Unit → Shared → Prop} (hz : ZipS s.heap z TI TO (rawInt T)) (hQ : ∀ h', ZipS h' z TI TO .none → Heap.SameBut z s.heap h' → Q () { s with heap := h' }) :
    wpAny (model prog w) A (letOwnedTupleGo (.Tuple elts x1 pos) (.ref z) (.ref T)) Q E s := by
  unfold letOwnedTupleGo
  refine wpAny_bind (wpAny_load hz ?_)
  show wpAny _ _ (if (["enumerate", "zip", "dict_itemiterator", "dict_reverseitemiterator", "odict_iterator", "itertools.zip_longest", "itertools.pairwise"].contains "zip" && (#[rawInt T, .bool false, .bool true, .ref TI, .ref TO] : Array Value)[0]? == some (rawInt T)) = true then _ else _) Q E s
  rw [if_pos (by simp)]
  refine wpAny_bind (wpAny_rule ?_)
  show wpAny _ _ (setField (.ref z) 0 .none) Q E s
  exact wpAny_setField_rec hz (by simp) fun h' q1 q2 => hQ h' q1 q2
theorem pyIter_zipS {z TI TO : Addr} {f0 : Value} {Q : Value → Shared → Prop} (hz : ZipS s.heap z TI TO f0) (h : Q (.ref z) s) : wpAny (model prog w) A (pyIter (.ref z)) Q E s := by
  have ty : s.TypeIs (.ref z) "zip" := ⟨_, hz, rfl⟩
  refine wpAny_pyIter_slot ty F.slot_zip_iter (wpAny_call_entry F.slot_zip_iter ty F.entry_zip_iter (show wpAny _ _ (ret (.ref z)) _ _ s from ?_) (F.args_zip_iter_1 _))
  exact wpAny_pure ⟨_, rfl, "zip", _, ty, F.slot_zip_next.lookup, h⟩
/-! the making, by a built-in class called with keywords -/
theorem callType_kw {T newId initId : String} {Bn Bi : Builtin} {args : List Value} {kw : List (Str × Value)} {S : Spec} {Q Q₁ : Value → Shared → Prop} (ft : TypeCalled T newId initId)
    (hct : checkTypeCall T ⟨args, kw⟩ = pure ()) (hcn : checkBuiltinCall newId ⟨.type T :: args, kw⟩ = pure ()) (eN : entryFor table newId = some Bn) (eI : entryFor table initId = some Bi) (g : Meets (Bn ⟨.type T :: args, kw⟩) S) (h : S A.in1 (wants Q₁ E) s)
    (nx : ∀ obj s₁, Q₁ obj s₁ → s₁.TypeIs obj T ∧ argsOk initId ⟨obj :: args, kw⟩ ∧ ∃ Si, Meets (Bi ⟨obj :: args, kw⟩) Si ∧ Si A.in1 (wants (fun r s₂ => r = .none ∧ Q obj s₂) E) s₁) :
    wpAny (model prog w) A (call (.type T) args kw) Q E s := by
  obtain ⟨c, tl, hmro⟩ := ft.mro
  have hmade := ft.made; have hsub := ft.sub
  refine wpAny_call (codeAny_of_tree (show wpAny _ _ (callAny (.type T) _) _ _ _ from ?_))
  refine wpAny_pure ⟨Code.quiet_builtin _ (by decide +kernel), codeAny_builtin F.entry_type_call ?_⟩
  rw [Around.under_plain (weight_type_call_type T args kw) (units_type_call_type T args kw)]
  have h1 := ft.notType; have h2 := ft.canCreate
  repeat any_goals (first | assumption | wp_step)
  refine codeAny_mono (codeAny_call_builtin ft.plain eN (wpAny_of_eq hcn (g prog w A.in1 _ s h))) fun r s₁ hr => ?_
  cases r with
  | error e => exact hr
  | ok fl =>
    cases fl with
    | ret obj =>
      obtain ⟨hT, hok, Si, gi, hsi⟩ := nx _ _ hr
      have hli := ft.init.lookup; have hbi := ft.init.bind obj
      repeat any_goals (first | assumption | wp_step)
      refine codeAny_mono (codeAny_call_builtin ft.init.plain eI (ft.init.check _ _ _ _ _ _ _ _ hT hok (gi prog w A.in1 _ s₁ hsi))) fun r₂ s₂ hr₂ => ?_
      cases r₂ with
      | error e => exact hr₂
      | ok fl₂ =>
        cases fl₂ with
        | ret r =>
          obtain ⟨rfl, hq⟩ := hr₂
          repeat any_goals (first | assumption | wp_step)
        | _ => exact hr₂.elim
    | _ => exact hr.elim
theorem object_init_kw {T newId : String} {self a : Value} {rest : List Value} {kw : List (Str × Value)} (hl : typeLookup (.type T) "__init__" = pure (some (.builtin "object.__init__"))) (hm : Bind.madeBy (.type T) = pure (some newId)) (hne : (some newId != some "object.__new__") = true) :
    Meets (Builtin.«object.__init__» ⟨self :: a :: rest, kw⟩) (fun _ R s => s.TypeIs self T ∧ R (.ok (.ret .none)) s) := by
  refine Meets.of_wp fun prog w A R s ⟨hT, hq⟩ => ?_
  repeat any_goals (first | assumption | wp_step)
  exact ⟨_, rfl, hq⟩
/-- strict=True -/
abbrev kwS : List (Str × Value) := [("strict", .bool true)]
abbrev zsH (h : Heap) (l1 l2 : Addr) : Heap := (zipH4 h l1 l2).push { cls := .type "zip", data := .fields #[.none, .bool false, .bool true, .ref (zipH2 h l1 l2).objs.size, .ref (zipH3 h l1 l2).objs.size] }
theorem meets_zipS_new (l1 l2 : Addr) (xs ys : Array Value) :
    Meets (Builtin.«zip.__new__» ⟨[.type "zip", .ref l1, .ref l2], kwS⟩) (fun _ R s => s.heap.IsList l1 xs ∧ s.heap.IsList l2 ys ∧ R (.ok (.ret (.ref (zipH4 s.heap l1 l2).objs.size))) { s with heap := zsH s.heap l1 l2 }) :=
  .of_wp fun prog w A R s h => by
    obtain ⟨hp, g, d, tk, os⟩ := s; obtain ⟨q1, q2, h⟩ := h
    have hsub := sub_zip
    have hL1 : Heap.IsList (Shared.heap ⟨hp, g, d, tk, os⟩) l1 xs := q1
    have hL2 : Heap.IsList (Shared.heap ⟨hp.push { cls := .type "list_iterator", data := .fields #[.ref l1, .int 0 0] }, g, d, tk, os⟩) l2 ys := Heap.IsList.push q2 _
    wp_walk using wpAny_pyIter_list hL1, wpAny_pyIter_list hL2
    exact ⟨_, rfl, h⟩
theorem call_zipS {l1 l2 : Addr} {xs ys : Array Value} {Q : Value → Shared → Prop} (hl1 : s.heap.IsList l1 xs) (hl2 : s.heap.IsList l2 ys)
    (h : ∀ h', ZipS h' (s.heap.objs.size + 4) (s.heap.objs.size + 2) (s.heap.objs.size + 3) .none → IsPair h' (s.heap.objs.size + 2) (.ref s.heap.objs.size) (.ref (s.heap.objs.size + 1)) → IsPair h' (s.heap.objs.size + 3) .none .none →
      h'.IsListIter s.heap.objs.size l1 0 → h'.IsListIter (s.heap.objs.size + 1) l2 0 → h'.objs.size = s.heap.objs.size + 5 → (∀ c o, s.heap.get? c = some o → h'.get? c = some o) → Q (.ref (s.heap.objs.size + 4)) { s with heap := h' }) :
    wpAny (model prog w) A (call (.type "zip") [.ref l1, .ref l2] kwS) Q E s := by
  have ok : ∀ obj : Value, argsOk "object.__init__" ⟨[obj, .ref l1, .ref l2], kwS⟩ := fun obj => by
    unfold argsOk; rw [signature?_of (id := "object.__init__") (n := ['_', '_', 't', 'i', 'n', 'i', '_', '_']) (o := ['t', 'c', 'e', 'j', 'b', 'o']) (by kernel_rfl) F.owner_object]; kernel_rfl
  refine callType_kw F.called_zip (by kernel_rfl) (by kernel_rfl) F.entry_zip_new F.entry_object_init (meets_zipS_new l1 l2 xs ys) (Q₁ := fun obj s₁ => s₁.TypeIs obj "zip" ∧ Q obj s₁) ⟨hl1, hl2, ?_⟩ fun obj s₁ hq => ⟨hq.1, ok obj, _, object_init_kw F.called_zip.init.lookup F.called_zip.made (by decide), hq.1, rfl, hq.2⟩
  obtain ⟨z1, z2, z3, z4, z5⟩ : (zipH1 s.heap l1).objs.size = s.heap.objs.size + 1 ∧ (zipH2 s.heap l1 l2).objs.size = s.heap.objs.size + 2 ∧ (zipH3 s.heap l1 l2).objs.size = s.heap.objs.size + 3 ∧ (zipH4 s.heap l1 l2).objs.size = s.heap.objs.size + 4 ∧ (zsH s.heap l1 l2).objs.size = s.heap.objs.size + 5 := by
    refine ⟨?_, ?_, ?_, ?_, ?_⟩ <;> simp only [Heap.size_push]
  have up : ∀ {h : Heap} {c : Addr} {o o' : Obj}, h.get? c = some o → (h.push o').get? c = some o := fun e => Heap.get?_push_of_some _ e
  have g5 : (zsH s.heap l1 l2).get? (zipH4 s.heap l1 l2).objs.size = some _ := Heap.get?_push_size _ rfl
  have g4 : (zsH s.heap l1 l2).get? (zipH3 s.heap l1 l2).objs.size = some _ := up (Heap.get?_push_size _ rfl)
  have g3 : (zsH s.heap l1 l2).get? (zipH2 s.heap l1 l2).objs.size = some _ := up (up (Heap.get?_push_size _ rfl))
  have g2 : (zsH s.heap l1 l2).get? (zipH1 s.heap l1).objs.size = some _ := up (up (up (Heap.get?_push_size _ rfl)))
  have g1 : (zsH s.heap l1 l2).get? s.heap.objs.size = some _ := up (up (up (up (Heap.get?_push_size _ rfl))))
  show _ ∧ _
  rw [z2, z3, z4] at g5
  rw [z1, z2] at g3
  rw [z3] at g4
  rw [z1] at g2
  rw [z4]
  exact ⟨⟨_, g5, rfl⟩, h _ g5 g3 g4 ⟨_, g1, rfl, rfl⟩ ⟨_, g2, rfl, rfl⟩ z5 fun c o x => up (up (up (up (up x))))⟩
end
end PySem

/-! ### the walk over a strict zip of two lists of one length -/
namespace My
open PySem PySem.Spec PyProof.Rows L2
/-- as the library's walk over zip; it ends where both end -/
def ItzS (K : PySem.W.Frag) (a b : Addr) : It :=
  ⟨(Itz K a b).go, (Itz K a b).yld, fun i H => ∃ xs ys : List V, SqL K H a xs ∧ SqL K H b ys ∧ xs.length ≤ i ∧ ys.length ≤ i⟩
theorem turn_zipS {P : Program} {w : World} {K : PySem.W.Frag} {elts : List Expr} {kk : Nat} {tpos : Pos} {a b z TI TO i1 i2 : Addr} (D : ZipApart z TI TO i1 i2 a b) :
    Turn P w K (.Tuple elts kk tpos) (ItzS K a b) [z, TI, TO, i1, i2] z (fun i h => ZipS h z TI TO .none ∧ IsPair h TI (.ref i1) (.ref i2) ∧ (∃ x y, IsPair h TO x y) ∧ h.IsListIter i1 a i ∧ h.IsListIter i2 b i) := by
  have five : ∀ {c : Addr}, c ∈ [z, TI, TO, i1, i2] → c = z ∨ c = TI ∨ c = TO ∨ c = i1 ∨ c = i2 := fun h => by simpa using h
  refine ⟨by simp, fun i h ⟨hz, hTI, ⟨x, y, hTO⟩, ⟨o1, e1, _, d1⟩, ⟨o2, e2, _, d2⟩⟩ c hc => ?_, fun i h h' ⟨hz, hTI, ⟨x, y, hTO⟩, h1, h2⟩ k => ⟨k z (by simp) _ hz, k TI (by simp) _ hTI, ⟨x, y, k TO (by simp) _ hTO⟩, h1.at fun o q => k i1 (by simp) o q, h2.at fun o q => k i2 (by simp) o q⟩, ?_, ?_, fun A i s Q E st h => pyIter_zipS st.1 h⟩
  · rcases five hc with q | q | q | q | q <;> subst q
    · exact ⟨_, hz, fun v q => nomatch q⟩
    · exact ⟨_, hTI, fun v q => nomatch q⟩
    · exact ⟨_, hTO, fun v q => nomatch q⟩
    · exact ⟨o1, e1, fun v q => by rw [d1] at q; cases q⟩
    · exact ⟨o2, e2, fun v q => by rw [d2] at q; cases q⟩
  · intro X hP hw hK hc i pins s σ H E I hf ⟨hz, hTI, ⟨x0, y0, hTO⟩, h1, h2⟩ hg
    subst hP hw hK
    obtain ⟨xs, ys, x, y, hqx, hqy, hx, hy⟩ := hg
    obtain ⟨its, rv, p, _⟩ := I.list hqx
    obtain ⟨its2, rv2, p2, _⟩ := I.list hqy
    obtain ⟨u, hu, ru⟩ := rv.get hx
    obtain ⟨u2, hu2, ru2⟩ := rv2.get hy
    have zl : z < s.heap.objs.size := Heap.lt_size hz
    refine pyNext_zipS_item D hz hTI hTO h1 h2 p.isList p2.isList (x := u) (y := u2) (by simpa using hu) (by simpa using hu2) fun h' z' TO' a1 a2 hT hsz hk => ?_
    refine ⟨_, rfl, goZipS (s := { s with heap := h' }) z' fun h'' z'' sb => ?_⟩
    have hT2 : h''.get? s.heap.objs.size = some { cls := .type "tuple", data := .seq #[u, u2] } := (sb.2 _ (Nat.ne_of_gt zl)).trans hT
    have new : ObjOk X.prog X.w (upd H s.heap.objs.size (.tup [x, y])) h'' s.heap.objs.size (.tup [x, y]) := ⟨by show 2 ≤ sizeLine; decide, [u, u2], .cons ru (.cons ru2 .nil), ⟨_, hT2, rfl, _, rfl⟩⟩
    have I1 : Inv X pins σ (upd H s.heap.objs.size (.tup [x, y])) { s with heap := h'' } :=
      I.turnedNew (t' := s.toks) (ch := [z, TI, TO, i1, i2]) (fun c o hb q => (sb.2 c (fun q' => hb (by simp [q']))).trans (hk c o (fun q' => hb (by simp [q'])) (fun q' => hb (by simp [q'])) (fun q' => hb (by simp [q'])) (fun q' => hb (by simp [q'])) q)) hf (Nat.le_refl _) new
    refine ⟨.ref s.heap.objs.size, _, I1, rfl, ⟨_, x, y, rfl, I.hok.fresh (Nat.le_refl _), rfl, fun l hl => by rw [I.list_inj hl hqx]; exact hx, fun l hl => by rw [I.list_inj hl hqy]; exact hy⟩, ⟨z'', (sb.2 _ D.TIz).trans (hk _ _ D.TIz D.TITO D.TIi1 D.TIi2 hTI), ⟨u, u2, (sb.2 _ D.TOz).trans TO'⟩, a1.at fun o q => (sb.2 _ D.i1z).trans q, a2.at fun o q => (sb.2 _ D.i2z).trans q⟩, fun c hcm => ?_⟩
    have hlt : c < s.heap.objs.size := by
      rcases five hcm with q | q | q | q | q <;> subst q
      · exact zl
      · exact Heap.lt_size hTI
      · exact Heap.lt_size hTO
      · obtain ⟨_, e1, _⟩ := h1; exact Heap.lt_size e1
      · obtain ⟨_, e2, _⟩ := h2; exact Heap.lt_size e2
    rw [upd_ne (Nat.ne_of_lt hlt)]
    exact (hf c hcm).1
  · intro X hP hw hK hc i pins s σ H E I hf ⟨hz, hTI, ⟨x0, y0, hTO⟩, h1, h2⟩ hg
    subst hP hw hK
    obtain ⟨xs, ys, hqx, hqy, le1, le2⟩ := hg
    obtain ⟨its, rv, p, _⟩ := I.list hqx
    obtain ⟨its2, rv2, p2, _⟩ := I.list hqy
    have l1 := rv.length
    have l2 := rv2.length
    exact pyNext_zipS_end (I.ok.hd hc) D hz hTI hTO h1 h2 p.isList p2.isList (by simp; omega) (by simp; omega) fun h' hk => ⟨rfl, I.turnedL (t' := s.toks) (ch := [z, TI, TO, i1, i2]) (fun c o hb q =>
      hk c o (fun q' => hb (by simp [q'])) (fun q' => hb (by simp [q'])) (fun q' => hb (by simp [q'])) (fun q' => hb (by simp [q'])) q) hf⟩
theorem callWith_typeK {M : Model} {A : Around} {E : Value → Shared → Prop} {s : Shared} {env : Env} {pos : Pos} {T : String} {e : Expr} {rest : List Expr} {kws : List Keyword} {Q : Value → Shared → Prop}
    (h : wpAny M A (spliced (backTo pos (starEach (e :: rest) env))) (fun vs s₁ => wpAny M A (evalAll ((backToKw pos (keywordEach kws env)).map (·.2))) (fun ks s₂ => wpAny M A (call (.type T) vs (((backToKw pos (keywordEach kws env)).filterMap (·.1)).zip ks)) Q E s₂) E s₁) E s)
    (he : backTo pos (starEach (e :: rest) env) = (false, eval e env) :: backTo pos (starEach rest env)) (hpl : (backTo pos (starEach (e :: rest) env)).any (·.1) = false) (hall : (backToKw pos (keywordEach kws env)).all (·.1.isSome) = true) (hkw : (backToKw pos (keywordEach kws env)).any (·.1.isNone) = false) :
    wpAny M A (callWith pos (.type T) [] (backTo pos (starEach (e :: rest) env)) (backToKw pos (keywordEach kws env))) Q E s := by
  have ev : wpAny M A (evalArgs (.type T) true (backTo pos (starEach (e :: rest) env)) (backToKw pos (keywordEach kws env))) (fun a s₁ => wpAny M A (call (.type T) ([] ++ a.pos) a.kw) Q E s₁) E s := by
    rw [he] at h ⊢
    exact evalArgs_kwB hall h
  unfold callWith
  refine wpAny_bind (wpAny_holding (wpAny_mono ev (fun a s₁ h₁ => wpAny_bind (wpAny_standAt ?_)) fun _ _ x => x))
  rw [hpl, hkw]
  exact wpAny_bind (wpAny_pure (wpAny_bind (wpAny_mono h₁ (fun r s₂ hr => wpAny_bind (wpAny_holding (wpAny_point (wpAny_pure hr)))) fun _ _ x => x)))
def iZipS (K : PySem.W.Frag) (ta : TA) : TI := fun σ H R => ta σ H fun vs H1 => ∃ a b xs ys, vs = [.ref a, .ref b] ∧ SqL K H1 a xs ∧ SqL K H1 b ys ∧ R (ItzS K a b) H1
theorem pi_zipS {X : Cx} {e e2 : Expr} {ta : TA} {p pos tpos : Pos} {elts : List Expr} {kk : Nat} {kws : List Keyword} (hg : Gl X "zip") (hm : X.mg "zip" = none) (ha : PA X [e, e2] ta) (hk : PK X kws (tCons (tC (.bl true)) tNil))
    (he : backTo pos (starEach [e, e2] X.env) = (false, eval e X.env) :: backTo pos (starEach [e2] X.env) := by rfl) (hpl : (backTo pos (starEach [e, e2] X.env)).any (·.1) = false := by rfl)
    (hall : (backToKw pos (keywordEach kws X.env)).all (·.1.isSome) = true := by rfl) (hnone : (backToKw pos (keywordEach kws X.env)).any (·.1.isNone) = false := by rfl) (hks : (backToKw pos (keywordEach kws X.env)).filterMap (·.1) = [Str.ofString "strict"] := by rfl) :
    PI X (.Tuple elts kk tpos) (.Call (.Name "zip" p) [e, e2] kws pos) (iZipS X.K ta) := by
  refine ⟨fun pins s σ H R I h => ?_⟩
  refine wpAny_Call_Name_kw (ld_blt I hg hm PyProof.Rows.boot_zip ?_ (by decide) (by decide))
  refine callWith_typeK (thn (ha.run pos pins s σ H _ I h) fun us s1 ⟨vs, H1, I1, r1, q1⟩ => thn (hk.run pos pins s1 σ H1 (fun zs H2 => zs = [.bl true] ∧ H2 = H1) I1 ⟨rfl, rfl⟩) fun ws s2 ⟨zs, H2, I2, r2, e1, e2⟩ => ?_) he hpl hall hnone
  subst e1 e2
  rw [hks]
  obtain ⟨w1, rfl, rw1⟩ := vals1 r2
  cases rw1
  obtain ⟨a, b, xs, ys, ex, hqx, hqy, q⟩ := q1
  subst ex
  obtain ⟨u1, u2, rfl, ra, rb⟩ := vals2 r1
  cases ra
  cases rb
  obtain ⟨its, rv, p1, _⟩ := I2.list hqx
  obtain ⟨its2, rv2, p2, _⟩ := I2.list hqy
  refine call_zipS p1.isList p2.isList fun h' hz hTI hTO h1 h2 hsz hk => pyIter_zipS hz ?_
  have I3 : Inv X pins σ H2 { s2 with heap := h' } := I2.kept (t' := s2.toks) hk
  refine ⟨s2.heap.objs.size + 4, [s2.heap.objs.size + 4, s2.heap.objs.size + 2, s2.heap.objs.size + 3, s2.heap.objs.size, s2.heap.objs.size + 1], _, _, H2, rfl, I3, turn_zipS (PySem.W.ktu_apart s2.heap.objs.size a b p1.lt p2.lt), ⟨hz, hTI, ⟨_, _, hTO⟩, h1, h2⟩, fun c hcm => ?_, q⟩
  have hle : s2.heap.objs.size ≤ c := by
    have : c = s2.heap.objs.size + 4 ∨ c = s2.heap.objs.size + 2 ∨ c = s2.heap.objs.size + 3 ∨ c = s2.heap.objs.size ∨ c = s2.heap.objs.size + 1 := by simpa using hcm
    rcases this with q | q | q | q | q <;> subst q
    · exact Nat.le_add_right _ _
    · exact Nat.le_add_right _ _
    · exact Nat.le_add_right _ _
    · exact Nat.le_refl _
    · exact Nat.le_add_right _ _
  exact I2.fpOk hle (I2.hok.fresh hle)
end My

/-! ### a layer of data over the hand layer: what a def does, told without the heap -/
namespace My
open PySem PySem.Spec PyProof.Rows L2
open C8 (Cal pe_c pe_gc)
/-- data -/
inductive Dat where
  | non | bl (b : Bool) | int (i : Int) | str (x : Str) | lst (ds : List Dat) | tup (ds : List Dat) | ins (C : Addr) (fs : List (Str × Dat)) | exc (C : Addr) (fs : List (Str × Dat))
/-- a field that may be filled later -/
def cachF (f : Str) : Bool := f == "known" || f == "moved"
mutual
inductive Rp (H : Hp) : V → Dat → Prop
  | non : Rp H .non .non
  | bl (b : Bool) : Rp H (.bl b) (.bl b)
  | int (i : Int) : Rp H (.int i) (.int i)
  | str (x : Str) : Rp H (.str x) (.str x)
  | lst {a : Addr} {xs : List V} {ds : List Dat} : H a = some (.lst xs) → RpL H xs ds → Rp H (.ref a) (.lst ds)
  | tup {a : Addr} {xs : List V} {ds : List Dat} : H a = some (.tup xs) → RpL H xs ds → Rp H (.ref a) (.tup ds)
  | ins {a C dx : Addr} {fvs : List (Str × V)} {fs : List (Str × Dat)} : H a = some (.ins C dx fvs) → RpF H fvs fs → (∀ f, cachF f = false → fs.lookup f = none → fvs.lookup f = none) → Rp H (.ref a) (.ins C fs)
  | exc0 {a C : Addr} : H a = some (ExV (.ref C) none a) → Rp H (.ref a) (.exc C [])
  | exc1 {a C d : Addr} {fvs : List (Str × V)} {fs : List (Str × Dat)} : H a = some (ExV (.ref C) (some d) a) → H d = some (.xd fvs) → RpF H fvs fs → Rp H (.ref a) (.exc C fs)
inductive RpL (H : Hp) : List V → List Dat → Prop
  | nil : RpL H [] []
  | cons {v : V} {d : Dat} {vs : List V} {ds : List Dat} : Rp H v d → RpL H vs ds → RpL H (v :: vs) (d :: ds)
inductive RpF (H : Hp) : List (Str × V) → List (Str × Dat) → Prop
  | nil {fvs : List (Str × V)} : RpF H fvs []
  | cons {fvs : List (Str × V)} {f : Str} {v : V} {d : Dat} {fs : List (Str × Dat)} : cachF f = false → fvs.lookup f = some v → Rp H v d → RpF H fvs fs → RpF H fvs ((f, d) :: fs)
end
/-- what becomes of an object: it stays, but for the fields that may be filled -/
structure Kp (fs fs' : List (Str × V)) : Prop where
  look : ∀ f, cachF f = false → fs'.lookup f = fs.lookup f
  keys : fs'.map Prod.fst = fs.map Prod.fst
def Lo (o : HO) (o' : Option HO) : Prop := o' = some o ∨ ∃ C dx fs fs', o = .ins C dx fs ∧ o' = some (.ins C dx fs') ∧ Kp fs fs'
theorem Lo.trans {o o' : HO} {x : Option HO} (a : Lo o (some o')) (b : Lo o' x) : Lo o x := by
  rcases a with a | ⟨C, dx, fs, fs', rfl, a, h⟩
  · cases a; exact b
  · cases a
    rcases b with b | ⟨C', dx', gs, gs', e, b, h'⟩
    · exact .inr ⟨C, dx, fs, fs', rfl, b, h⟩
    · cases e; exact .inr ⟨C, dx, fs, gs', rfl, b, ⟨fun f hf => (h'.look f hf).trans (h.look f hf), h'.keys.trans h.keys⟩⟩
def Le (H H' : Hp) : Prop := ∀ b o, H b = some o → Lo o (H' b)
def LeX (P : List Addr) (H H' : Hp) : Prop := ∀ b o, b ∉ P → H b = some o → Lo o (H' b)
theorem Lo.refl (o : HO) : Lo o (some o) := .inl rfl
theorem Lo.get {o : HO} {x : Option HO} (h : Lo o x) : ∃ o', x = some o' := by
  rcases h with h | ⟨C, dx, fs, fs', _, h, _⟩ <;> exact ⟨_, h⟩
theorem Le.refl (H : Hp) : Le H H := fun b o h => .inl h
theorem LeX.refl (P : List Addr) (H : Hp) : LeX P H H := fun b o _ h => .inl h
theorem Le.trans {H H1 H2 : Hp} (a : Le H H1) (b : Le H1 H2) : Le H H2 := fun c o h => by
  obtain ⟨o', h1⟩ := (a c o h).get
  have := a c o h
  rw [h1] at this
  exact this.trans (b c o' h1)
theorem LeX.trans {P : List Addr} {H H1 H2 : Hp} (a : LeX P H H1) (b : LeX P H1 H2) : LeX P H H2 := fun c o n h => by
  obtain ⟨o', h1⟩ := (a c o n h).get
  have := a c o n h
  rw [h1] at this
  exact this.trans (b c o' n h1)
theorem Le.of {H H' : Hp} (s : Same H H') : Le H H' := fun b o h => .inl (s b o h)
theorem Le.x {P : List Addr} {H H' : Hp} (a : Le H H') : LeX P H H' := fun b o _ h => a b o h
theorem LeX.le {H H' : Hp} (a : LeX [] H H') : Le H H' := fun b o h => a b o (by simp) h
theorem Le.lst {H H' : Hp} (a : Le H H') {p : Addr} {xs : List V} (h : H p = some (.lst xs)) : H' p = some (.lst xs) := by
  rcases a p _ h with h | ⟨_, _, _, _, e, _⟩
  · exact h
  · cases e
theorem Le.tup {H H' : Hp} (a : Le H H') {p : Addr} {xs : List V} (h : H p = some (.tup xs)) : H' p = some (.tup xs) := by
  rcases a p _ h with h | ⟨_, _, _, _, e, _⟩
  · exact h
  · cases e
theorem LeX.lst {P : List Addr} {H H' : Hp} (a : LeX P H H') {p : Addr} {xs : List V} (n : p ∉ P) (h : H p = some (.lst xs)) : H' p = some (.lst xs) := by
  rcases a p _ n h with h | ⟨_, _, _, _, e, _⟩
  · exact h
  · cases e
theorem Le.ext {H H' : Hp} (a : Le H H') {p : Addr} {φ : Heap → Prop} (h : H p = some (.ext φ)) : H' p = some (.ext φ) := by
  rcases a p _ h with h | ⟨_, _, _, _, e, _⟩
  · exact h
  · cases e
theorem Le.xd {H H' : Hp} (a : Le H H') {p : Addr} {fs : List (Str × V)} (h : H p = some (.xd fs)) : H' p = some (.xd fs) := by
  rcases a p _ h with h | ⟨_, _, _, _, e, _⟩
  · exact h
  · cases e
theorem Le.new {H : Hp} {p : Addr} {o : HO} (h : H p = none) : Le H (upd H p o) := .of (same_new h)
theorem Le.free {H H' : Hp} (a : Le H H') {p : Addr} (h : H' p = none) : H p = none := by
  cases e : H p with
  | none => rfl
  | some o => obtain ⟨o', h'⟩ := (a p o e).get; rw [h] at h'; cases h'
mutual
theorem Rp.mono {H H' : Hp} (s : Le H H') : ∀ {v : V} {d : Dat}, Rp H v d → Rp H' v d
  | _, _, .non => .non
  | _, _, .bl b => .bl b
  | _, _, .int i => .int i
  | _, _, .str x => .str x
  | _, _, .lst h r => .lst (s.lst h) (RpL.mono s r)
  | _, _, .tup h r => .tup (by
      rcases s _ _ h with h | ⟨_, _, _, _, e, _⟩
      · exact h
      · cases e) (RpL.mono s r)
  | _, _, .ins (fvs := fvs) h r n => by
      have r' := RpF.mono s r
      rcases s _ _ h with h | ⟨C, dx, fs, fs', e, h', k⟩
      · exact .ins h r' n
      · cases e; exact .ins h' (RpF.re k.look r') fun f c e => (k.look f c).trans (n f c e)
  | _, _, .exc0 h => .exc0 (s.ext h)
  | _, _, .exc1 h h2 r => .exc1 (s.ext h) (s.xd h2) (RpF.mono s r)
theorem RpL.mono {H H' : Hp} (s : Le H H') : ∀ {vs : List V} {ds : List Dat}, RpL H vs ds → RpL H' vs ds
  | _, _, .nil => .nil
  | _, _, .cons r t => .cons (Rp.mono s r) (RpL.mono s t)
theorem RpF.mono {H H' : Hp} (s : Le H H') : ∀ {fvs : List (Str × V)} {fs : List (Str × Dat)}, RpF H fvs fs → RpF H' fvs fs
  | _, _, .nil => .nil
  | _, _, .cons c l r t => .cons c l (Rp.mono s r) (RpF.mono s t)
theorem RpF.re {H : Hp} {fvs fvs' : List (Str × V)} (k : ∀ f, cachF f = false → fvs'.lookup f = fvs.lookup f) : ∀ {fs : List (Str × Dat)}, RpF H fvs fs → RpF H fvs' fs
  | _, .nil => .nil
  | _, .cons c l r t => .cons c ((k _ c).trans l) r (RpF.re k t)
end
end My

namespace My
open PySem PySem.Spec PyProof.Rows L2
open C8 (Cal pe_c pe_gc)
/-- the heap without some -/
def hid (O : List Addr) (H : Hp) : Hp := fun b => if b ∈ O then none else H b
theorem hid_in {O : List Addr} {H : Hp} {b : Addr} (h : b ∈ O) : hid O H b = none := if_pos h
theorem hid_out {O : List Addr} {H : Hp} {b : Addr} (h : b ∉ O) : hid O H b = H b := if_neg h
theorem hid_some {O : List Addr} {H : Hp} {b : Addr} {o : HO} (h : hid O H b = some o) : b ∉ O ∧ H b = some o := by
  unfold hid at h
  by_cases e : b ∈ O
  · rw [if_pos e] at h; cases h
  · rw [if_neg e] at h; exact ⟨e, h⟩
theorem hid_le (O : List Addr) (H : Hp) : Le (hid O H) H := fun b o h => .inl (hid_some h).2
theorem LeX.hid {P O : List Addr} {H H' : Hp} (a : LeX P H H') (p : ∀ b ∈ P, b ∈ O) : Le (hid O H) (My.hid O H') := fun b o h => by
  obtain ⟨n, h⟩ := hid_some h
  rw [hid_out n]
  exact a b o (fun z => n (p b z)) h
theorem Le.hid {O : List Addr} {H H' : Hp} (a : Le H H') : Le (hid O H) (My.hid O H') := LeX.hid (P := []) a.x (by simp)
/-- one more hidden that was not there -/
theorem hid_more {O : List Addr} {H H' : Hp} {p : Addr} (a : Le (hid O H) (hid O H')) (h : H p = none) : Le (hid O H) (hid (p :: O) H') := fun b o hb => by
  have n : b ≠ p := fun e => by subst e; rw [(hid_some hb).2] at h; cases h
  have := a b o hb
  have e : hid (p :: O) H' b = hid O H' b := by
    unfold My.hid
    by_cases z : b ∈ O
    · rw [if_pos z, if_pos (List.mem_cons_of_mem _ z)]
    · rw [if_neg z, if_neg (fun y => (List.mem_cons.mp y).elim n z)]
  rw [e]; exact this
theorem hid_sub {O O' : List Addr} {H : Hp} (h : ∀ p ∈ O', p ∈ O) : Le (hid O H) (hid O' H) := fun b o hb => by
  obtain ⟨n, hb⟩ := hid_some hb
  exact .inl (by rw [hid_out fun z => n (h b z)]; exact hb)
theorem hid_upd {O : List Addr} {H : Hp} {p : Addr} {o : HO} (h : p ∈ O) : hid O (upd H p o) = hid O H := by
  funext b
  unfold hid
  by_cases z : b ∈ O
  · rw [if_pos z, if_pos z]
  · rw [if_neg z, if_neg z, upd_ne (fun e => z (by rw [e]; exact h))]
/-- what a slot holds: nothing known, data, a list of the def's own, the purse -/
inductive Sl where
  | un | dt (d : Dat) | ow (ds : List Dat) | pu | raw (v : V)
/-- what does not change: G hidden from the def's data, P the purses, B the heap as the def was entered -/
structure Cz where
  G : List Addr
  P : List Addr
  B : Hp
def SlOk (z : Cz) (O : List Addr) (H : Hp) (o : Option (Option V)) : Sl → Prop
  | .un => True
  | .dt d => ∃ v, o = some (some v) ∧ Rp (hid O H) v d
  | .ow ds => ∃ p vs, o = some (some (.ref p)) ∧ p ∈ O ∧ p ∉ z.G ∧ H p = some (.lst vs) ∧ RpL (hid O H) vs ds
  | .pu => ∃ a, z.P = [a] ∧ o = some (some (.ref a))
  | .raw v => o = some (some v)
structure Real (z : Cz) (O : List Addr) (g : List Sl) (m : Nat) (σ : L2.St) (H : Hp) : Prop where
  dom : ∀ p ∈ O, ∃ o, H p = some o
  sub : ∀ p ∈ z.G, p ∈ O
  new : ∀ p ∈ O, p ∈ z.G ∨ z.B p = none
  pg : ∀ p ∈ z.P, p ∈ z.G
  pur : ∀ b ∈ z.P, Pur H b m
  le : LeX z.P z.B H
  len : σ.length = g.length
  sl : ∀ (i : Nat) (x : Sl), g[i]? = some x → SlOk z O H σ[i]? x
  inj : ∀ (i j : Nat) (p : Addr) (ds es : List Dat), g[i]? = some (.ow ds) → g[j]? = some (.ow es) → σ[i]? = some (some (.ref p)) → σ[j]? = some (some (.ref p)) → i = j
section
variable {z : Cz} {O : List Addr} {g : List Sl} {m m' : Nat} {σ : L2.St} {H H' : Hp}
theorem Real.po (r : Real z O g m σ H) : ∀ p ∈ z.P, p ∈ O := fun p h => r.sub p (r.pg p h)
/-- the heap grows, the purses are drawn from -/
theorem Real.lift (r : Real z O g m σ H) (a : LeX z.P H H') (hp : ∀ b ∈ z.P, Pur H' b m') : Real z O g m' σ H' where
  dom := fun p h => by
    by_cases e : p ∈ z.P
    · exact (hp p e).at
    · obtain ⟨o, ho⟩ := r.dom p h
      exact (a p o e ho).get
  sub := r.sub
  new := r.new
  pg := r.pg
  pur := hp
  le := r.le.trans a
  len := r.len
  sl := fun i x h => by
    have q := r.sl i x h
    have lh := a.hid r.po
    cases x with
    | un => trivial
    | dt d => obtain ⟨v, e, q⟩ := q; exact ⟨v, e, q.mono lh⟩
    | ow ds =>
      obtain ⟨p, vs, e, po, pg, hp', q⟩ := q
      exact ⟨p, vs, e, po, pg, a.lst (fun n => pg (r.pg p n)) hp', q.mono lh⟩
    | pu => exact q
    | raw v => exact q
  inj := r.inj
theorem Real.up (r : Real z O g m σ H) (a : Le H H') : Real z O g m σ H' := r.lift a.x fun b hb => by
  obtain ⟨d, c, k, h, q⟩ := r.pur b hb
  exact ⟨d, c, k, a.lst h, q⟩
/-- a slot gets data -/
theorem Real.set (r : Real z O g m σ H) {v : V} {d : Dat} (i : Nat) (h : Rp (hid O H) v d) : Real z O (g.set i (.dt d)) m (σ.set i (some v)) H where
  dom := r.dom
  sub := r.sub
  new := r.new
  pg := r.pg
  pur := r.pur
  le := r.le
  len := by rw [List.length_set, List.length_set]; exact r.len
  sl := fun j x hj => by
    by_cases e : i = j
    · subst e
      by_cases l : i < g.length
      · rw [List.getElem?_set_self l] at hj
        cases hj
        exact ⟨v, by rw [List.getElem?_set_self (by rw [r.len]; exact l)], h⟩
      · rw [List.getElem?_eq_none (by rw [List.length_set]; omega)] at hj; cases hj
    · rw [List.getElem?_set_ne e] at hj
      rw [List.getElem?_set_ne e]
      exact r.sl j x hj
  inj := fun j k p ds es hj hk sj sk => by
    have f : ∀ {n : Nat} {ds : List Dat}, (g.set i (.dt d))[n]? = some (.ow ds) → i ≠ n ∧ g[n]? = some (.ow ds) := fun {n ds} h => by
      by_cases e : i = n
      · subst e
        by_cases l : i < g.length
        · rw [List.getElem?_set_self l] at h; cases h
        · rw [List.getElem?_eq_none (by rw [List.length_set]; omega)] at h; cases h
      · rw [List.getElem?_set_ne e] at h; exact ⟨e, h⟩
    obtain ⟨n1, h1⟩ := f hj
    obtain ⟨n2, h2⟩ := f hk
    rw [List.getElem?_set_ne n1] at sj
    rw [List.getElem?_set_ne n2] at sk
    exact r.inj j k p ds es h1 h2 sj sk
/-- a slot is forgotten, or wiped -/
theorem Real.un (r : Real z O g m σ H) (i : Nat) (o : Option V) : Real z O (g.set i .un) m (σ.set i o) H where
  dom := r.dom
  sub := r.sub
  new := r.new
  pg := r.pg
  pur := r.pur
  le := r.le
  len := by rw [List.length_set, List.length_set]; exact r.len
  sl := fun j x hj => by
    by_cases e : i = j
    · subst e
      by_cases l : i < g.length
      · rw [List.getElem?_set_self l] at hj
        cases hj
        trivial
      · rw [List.getElem?_eq_none (by rw [List.length_set]; omega)] at hj; cases hj
    · rw [List.getElem?_set_ne e] at hj
      rw [List.getElem?_set_ne e]
      exact r.sl j x hj
  inj := fun j k p ds es hj hk sj sk => by
    have f : ∀ {n : Nat} {ds : List Dat}, (g.set i .un)[n]? = some (.ow ds) → i ≠ n ∧ g[n]? = some (.ow ds) := fun {n ds} h => by
      by_cases e : i = n
      · subst e
        by_cases l : i < g.length
        · rw [List.getElem?_set_self l] at h; cases h
        · rw [List.getElem?_eq_none (by rw [List.length_set]; omega)] at h; cases h
      · rw [List.getElem?_set_ne e] at h; exact ⟨e, h⟩
    obtain ⟨n1, h1⟩ := f hj
    obtain ⟨n2, h2⟩ := f hk
    rw [List.getElem?_set_ne n1] at sj
    rw [List.getElem?_set_ne n2] at sk
    exact r.inj j k p ds es h1 h2 sj sk
/-- a list that was made anew, and is not looked at: the rest of the heap -/
structure Fresh (z : Cz) (O : List Addr) (H H' : Hp) (p : Addr) (ds : List Dat) : Prop where
  no : p ∉ O
  nb : z.B p = none
  ne : H p = none
  at_ : ∃ vs, H' p = some (.lst vs) ∧ RpL (hid O (hid [p] H')) vs ds
theorem hid1_le (H : Hp) (p : Addr) : Le (hid [p] H) H := hid_le [p] H
theorem hid_hid1 {O : List Addr} {H : Hp} {p : Addr} : hid O (hid [p] H) = hid (p :: O) H := by
  funext b
  unfold hid
  by_cases z : b ∈ O
  · rw [if_pos z, if_pos (List.mem_cons_of_mem _ z)]
  · rw [if_neg z]
    by_cases e : b = p
    · subst e; rw [if_pos (by simp), if_pos (by simp)]
    · rw [if_neg (by simp [e]), if_neg (fun y => (List.mem_cons.mp y).elim e z)]
/-- a slot takes a new list for its own -/
theorem Real.own {p : Addr} {ds : List Dat} {H0 : Hp} (r : Real z O g m σ (hid [p] H')) (f : Fresh z O H0 H' p ds) (i : Nat) : Real z (p :: O) (g.set i (.ow ds)) m (σ.set i (some (.ref p))) H' where
  dom := fun q h => by
    rcases List.mem_cons.mp h with e | h
    · subst e; obtain ⟨vs, h, _⟩ := f.at_; exact ⟨_, h⟩
    · obtain ⟨o, ho⟩ := r.dom q h
      exact ⟨o, (hid_some ho).2⟩
  sub := fun q h => List.mem_cons_of_mem _ (r.sub q h)
  new := fun q h => by
    rcases List.mem_cons.mp h with e | h
    · subst e; exact .inr f.nb
    · exact r.new q h
  pg := r.pg
  pur := fun b hb => by
    obtain ⟨d, c, k, h, q⟩ := r.pur b hb
    exact ⟨d, c, k, (hid_some h).2, q⟩
  le := r.le.trans (hid1_le _ _).x
  len := by rw [List.length_set, List.length_set]; exact r.len
  sl := fun j x hj => by
    by_cases e : i = j
    · subst e
      by_cases l : i < g.length
      · rw [List.getElem?_set_self l] at hj
        cases hj
        obtain ⟨vs, h, q⟩ := f.at_
        refine ⟨p, vs, by rw [List.getElem?_set_self (by rw [r.len]; exact l)], List.mem_cons_self .., fun n => f.no (r.sub p n), h, ?_⟩
        rw [← hid_hid1]; exact q
      · rw [List.getElem?_eq_none (by rw [List.length_set]; omega)] at hj; cases hj
    · rw [List.getElem?_set_ne e] at hj
      rw [List.getElem?_set_ne e]
      have q := r.sl j x hj
      cases x with
      | un => trivial
      | dt d => obtain ⟨v, e, q⟩ := q; exact ⟨v, e, by rw [← hid_hid1]; exact q⟩
      | ow es =>
        obtain ⟨q_, vs, e, po, pg, hp', q⟩ := q
        exact ⟨q_, vs, e, List.mem_cons_of_mem _ po, pg, (hid_some hp').2, by rw [← hid_hid1]; exact q⟩
      | pu => exact q
      | raw v => exact q
  inj := fun j k q es fs hj hk sj sk => by
    have f2 : ∀ {n : Nat} {es : List Dat} {q : Addr}, i ≠ n → (g.set i (.ow ds))[n]? = some (.ow es) → (σ.set i (some (.ref p)))[n]? = some (some (.ref q)) → q ≠ p := fun {n es q} e h s => by
      rw [List.getElem?_set_ne e] at h
      rw [List.getElem?_set_ne e] at s
      obtain ⟨q_, vs, e2, po, _⟩ := r.sl n _ h
      rw [s] at e2; cases e2
      intro z; subst z; exact f.no po
    have f1 : ∀ {n : Nat} {q : Addr} {es : List Dat}, i = n → (g.set i (.ow ds))[n]? = some (.ow es) → (σ.set i (some (.ref p)))[n]? = some (some (.ref q)) → q = p := fun {n q es} e h s => by
      subst e
      by_cases l : i < g.length
      · rw [List.getElem?_set_self (by rw [r.len]; exact l)] at s; cases s; rfl
      · rw [List.getElem?_eq_none (by rw [List.length_set]; omega)] at h; cases h
    by_cases e1 : i = j
    · by_cases e2 : i = k
      · omega
      · exact absurd (f1 e1 hj sj) (f2 e2 hk sk)
    · by_cases e2 : i = k
      · exact absurd (f1 e2 hk sk) (f2 e1 hj sj)
      · rw [List.getElem?_set_ne e1] at hj sj
        rw [List.getElem?_set_ne e2] at hk sk
        exact r.inj j k q es fs hj hk sj sk
/-- an own list gets other items -/
theorem Real.put (r : Real z O g m σ H) {i : Nat} {ds es : List Dat} (hi : g[i]? = some (.ow ds)) {p : Addr} (hs : σ[i]? = some (some (.ref p))) {ws : List V} (h : RpL (hid O H) ws es) : Real z O (g.set i (.ow es)) m σ (upd H p (.lst ws)) := by
  obtain ⟨q, vs, e, po, pG, hp, rq⟩ := r.sl i _ hi
  rw [hs] at e; cases e
  have he : hid O (upd H p (.lst ws)) = hid O H := hid_upd po
  have l : i < g.length := (List.getElem?_eq_some_iff.mp hi).1
  refine ⟨fun b hb => ?_, r.sub, r.new, r.pg, fun b hb => ?_, fun b o n hb => ?_, by rw [List.length_set]; exact r.len, fun j x hj => ?_, fun j k b xs ys hj hk sj sk => ?_⟩
  · by_cases e : b = p
    · subst e; exact ⟨_, upd_same⟩
    · rw [upd_ne e]; exact r.dom b hb
  · obtain ⟨d, c, k, h, q⟩ := r.pur b hb
    exact ⟨d, c, k, by rw [upd_ne (fun y => by subst y; exact pG (r.pg _ hb))]; exact h, q⟩
  · by_cases e : b = p
    · subst e
      rcases r.new b po with n2 | n2
      · exact absurd n2 pG
      · rw [hb] at n2; cases n2
    · rw [upd_ne e]; exact r.le b o n hb
  · by_cases e : i = j
    · subst e
      rw [List.getElem?_set_self l] at hj
      cases hj
      exact ⟨p, ws, hs, po, pG, upd_same, by rw [he]; exact h⟩
    · rw [List.getElem?_set_ne e] at hj
      have q := r.sl j x hj
      cases x with
      | un => trivial
      | dt d => obtain ⟨v, e, q⟩ := q; exact ⟨v, e, by rw [he]; exact q⟩
      | ow zs =>
        obtain ⟨b, us, e2, bo, bg, hb, q⟩ := q
        have n : b ≠ p := fun y => by subst y; exact e (r.inj i j b _ _ hi hj hs e2)
        exact ⟨b, us, e2, bo, bg, by rw [upd_ne n]; exact hb, by rw [he]; exact q⟩
      | pu => exact q
      | raw v => exact q
  · have f : ∀ {n : Nat} {xs : List Dat}, (g.set i (.ow es))[n]? = some (.ow xs) → ∃ ys, g[n]? = some (.ow ys) := fun {n xs} h => by
      by_cases e : i = n
      · subst e; exact ⟨_, hi⟩
      · rw [List.getElem?_set_ne e] at h; exact ⟨_, h⟩
    obtain ⟨_, h1⟩ := f hj
    obtain ⟨_, h2⟩ := f hk
    exact r.inj j k b _ _ h1 h2 sj sk
/-- an own list becomes data: it is not changed any more -/
theorem Real.frzO (r : Real z O g m σ H) {i : Nat} {ds : List Dat} (hi : g[i]? = some (.ow ds)) : ∃ O', Real z O' (g.set i (.dt (.lst ds))) m σ H ∧ ∀ q ∈ O', q ∈ O := by
  obtain ⟨p, vs, e, po, pG, hp, rq⟩ := r.sl i _ hi
  have l : i < g.length := (List.getElem?_eq_some_iff.mp hi).1
  have sub : ∀ q ∈ O.filter (fun b => decide (b ≠ p)), q ∈ O := fun q h => (List.mem_filter.mp h).1
  have le : Le (hid O H) (hid (O.filter fun b => decide (b ≠ p)) H) := hid_sub sub
  have np : p ∉ O.filter (fun b => decide (b ≠ p)) := fun h => by
    have := (List.mem_filter.mp h).2
    simp at this
  refine ⟨O.filter fun b => decide (b ≠ p), ⟨fun b hb => r.dom b (sub b hb), fun b hb => List.mem_filter.mpr ⟨r.sub b hb, decide_eq_true fun y => pG (y ▸ hb)⟩, fun b hb => r.new b (sub b hb), r.pg, r.pur, r.le, by rw [List.length_set]; exact r.len, fun j x hj => ?_, fun j k b xs ys hj hk sj sk => ?_⟩, sub⟩
  · by_cases e1 : i = j
    · subst e1
      rw [List.getElem?_set_self l] at hj
      cases hj
      exact ⟨.ref p, e, .lst (by rw [hid_out np]; exact hp) (rq.mono le)⟩
    · rw [List.getElem?_set_ne e1] at hj
      have q := r.sl j x hj
      cases x with
      | un => trivial
      | dt d => obtain ⟨v, e, q⟩ := q; exact ⟨v, e, q.mono le⟩
      | ow zs =>
        obtain ⟨b, us, e2, bo, bg, hb, q⟩ := q
        have n : b ≠ p := fun y => by subst y; exact e1 (r.inj i j b _ _ hi hj e e2)
        exact ⟨b, us, e2, List.mem_filter.mpr ⟨bo, decide_eq_true n⟩, bg, hb, q.mono le⟩
      | pu => exact q
      | raw v => exact q
  · have f : ∀ {n : Nat} {xs : List Dat}, (g.set i (.dt (.lst ds)))[n]? = some (.ow xs) → g[n]? = some (.ow xs) := fun {n xs} h => by
      by_cases e : i = n
      · subst e
        rw [List.getElem?_set_self l] at h; cases h
      · rw [List.getElem?_set_ne e] at h; exact h
    exact r.inj j k b _ _ (f hj) (f hk) sj sk
/-- an own list is let go: the rest of the heap -/
theorem Real.cut (r : Real z O g m σ H) {i : Nat} {ds : List Dat} (hi : g[i]? = some (.ow ds)) {p : Addr} (hs : σ[i]? = some (some (.ref p))) : ∃ O', Real z O' (g.set i .un) m σ (hid [p] H) ∧ p ∉ O' ∧ (∀ q ∈ O', q ∈ O) ∧ hid O' (hid [p] H) = hid O H := by
  obtain ⟨p', vs, e, po, pG, hp, rq⟩ := r.sl i _ hi
  rw [hs] at e; cases e
  have l : i < g.length := (List.getElem?_eq_some_iff.mp hi).1
  have sub : ∀ q ∈ O.filter (fun b => decide (b ≠ p)), q ∈ O := fun q h => (List.mem_filter.mp h).1
  have np : p ∉ O.filter (fun b => decide (b ≠ p)) := fun h => by
    have := (List.mem_filter.mp h).2
    simp at this
  have nP : p ∉ z.P := fun n => pG (r.pg p n)
  have eh : hid (O.filter fun b => decide (b ≠ p)) (hid [p] H) = hid O H := by
    rw [hid_hid1]
    funext b
    unfold hid
    by_cases h : b ∈ O
    · by_cases q : b = p
      · rw [if_pos (by rw [q]; simp), if_pos h]
      · rw [if_pos (List.mem_cons_of_mem _ (List.mem_filter.mpr ⟨h, decide_eq_true q⟩)), if_pos h]
    · have q : b ≠ p := fun y => h (y ▸ po)
      rw [if_neg (fun y => (List.mem_cons.mp y).elim q fun y => h (sub b y)), if_neg h]
  have h1 : ∀ {b : Addr}, b ≠ p → hid [p] H b = H b := fun {b} n => hid_out (by simp [n])
  refine ⟨O.filter fun b => decide (b ≠ p), ⟨fun b hb => ?_, fun b hb => List.mem_filter.mpr ⟨r.sub b hb, decide_eq_true fun y => pG (y ▸ hb)⟩, fun b hb => r.new b (sub b hb), r.pg, fun b hb => ?_, fun b o n hb => ?_, by rw [List.length_set]; exact r.len, fun j x hj => ?_, fun j k b xs ys hj hk sj sk => ?_⟩, np, sub, eh⟩
  · have n : b ≠ p := fun y => np (y ▸ hb)
    rw [h1 n]; exact r.dom b (sub b hb)
  · obtain ⟨d, c, k, h, q⟩ := r.pur b hb
    exact ⟨d, c, k, by rw [h1 (fun y => by subst y; exact nP hb)]; exact h, q⟩
  · have q : b ≠ p := fun y => by
      subst y
      rcases r.new b po with h | h
      · exact pG h
      · rw [hb] at h; cases h
    rw [h1 q]; exact r.le b o n hb
  · by_cases e1 : i = j
    · subst e1
      rw [List.getElem?_set_self l] at hj
      cases hj
      trivial
    · rw [List.getElem?_set_ne e1] at hj
      have q := r.sl j x hj
      cases x with
      | un => trivial
      | dt d => obtain ⟨v, e, q⟩ := q; exact ⟨v, e, by rw [eh]; exact q⟩
      | ow zs =>
        obtain ⟨b, us, e2, bo, bg, hb, q⟩ := q
        have n : b ≠ p := fun y => by subst y; exact e1 (r.inj i j b _ _ hi hj hs e2)
        exact ⟨b, us, e2, List.mem_filter.mpr ⟨bo, decide_eq_true n⟩, bg, by rw [h1 n]; exact hb, by rw [eh]; exact q⟩
      | pu => exact q
      | raw v => exact q
  · have f : ∀ {n : Nat} {xs : List Dat}, (g.set i .un)[n]? = some (.ow xs) → g[n]? = some (.ow xs) := fun {n xs} h => by
      by_cases e : i = n
      · subst e
        rw [List.getElem?_set_self l] at h; cases h
      · rw [List.getElem?_set_ne e] at h; exact h
    exact r.inj j k b _ _ (f hj) (f hk) sj sk
end
end My

namespace My
open PySem PySem.Spec PyProof.Rows L2
open C8 (Cal pe_c pe_gc)
theorem RpL.length {H : Hp} : ∀ {vs : List V} {ds : List Dat}, RpL H vs ds → vs.length = ds.length
  | _, _, .nil => rfl
  | _, _, .cons _ t => congrArg (· + 1) (RpL.length t)
theorem RpL.get {H : Hp} : ∀ {vs : List V} {ds : List Dat} {i : Nat} {d : Dat}, RpL H vs ds → ds[i]? = some d → ∃ v, vs[i]? = some v ∧ Rp H v d
  | _, _, _, _, .nil, e => by simp at e
  | _, _, 0, _, .cons r _, e => by cases (Option.some.inj e : _ = _); exact ⟨_, rfl, r⟩
  | _, _, i + 1, d, .cons _ t, e => by
    obtain ⟨v, h1, h2⟩ := RpL.get (i := i) (d := d) t (by simpa using e)
    exact ⟨v, by simpa using h1, h2⟩
theorem RpL.append {H : Hp} : ∀ {vs ws : List V} {ds es : List Dat}, RpL H vs ds → RpL H ws es → RpL H (vs ++ ws) (ds ++ es)
  | _, _, _, _, .nil, s => s
  | _, _, _, _, .cons r t, s => .cons r (RpL.append t s)
theorem RpL.take {H : Hp} : ∀ (n : Nat) {vs : List V} {ds : List Dat}, RpL H vs ds → RpL H (vs.take n) (ds.take n)
  | 0, _, _, _ => .nil
  | _ + 1, _, _, .nil => .nil
  | n + 1, _, _, .cons r t => .cons r (RpL.take n t)
theorem RpL.drop {H : Hp} : ∀ (n : Nat) {vs : List V} {ds : List Dat}, RpL H vs ds → RpL H (vs.drop n) (ds.drop n)
  | 0, _, _, r => r
  | _ + 1, _, _, .nil => .nil
  | n + 1, _, _, .cons _ t => RpL.drop n t
theorem RpL.set {H : Hp} {v : V} {d : Dat} (r : Rp H v d) : ∀ (n : Nat) {vs : List V} {ds : List Dat}, RpL H vs ds → RpL H (vs.set n v) (ds.set n d)
  | _, _, _, .nil => .nil
  | 0, _, _, .cons _ t => .cons r t
  | n + 1, _, _, .cons q t => .cons q (RpL.set r n t)
theorem RpL.rev {H : Hp} : ∀ {vs : List V} {ds : List Dat}, RpL H vs ds → RpL H vs.reverse ds.reverse
  | _, _, .nil => .nil
  | _, _, .cons r t => by rw [List.reverse_cons, List.reverse_cons]; exact (RpL.rev t).append (.cons r .nil)
theorem RpL.rep {H : Hp} {vs : List V} {ds : List Dat} (r : RpL H vs ds) : ∀ k : Nat, RpL H (List.replicate k vs).flatten (List.replicate k ds).flatten
  | 0 => .nil
  | k + 1 => by rw [List.replicate_succ, List.replicate_succ, List.flatten_cons, List.flatten_cons]; exact r.append (RpL.rep r k)
theorem RpL.at {H : Hp} {vs : List V} {ds : List Dat} {i : Int} {d : Dat} (r : RpL H vs ds) (h : atI ds i = some d) : ∃ v, atI vs i = some v ∧ Rp H v d := by
  unfold atI at *
  rw [r.length]
  cases e : ixN ds.length i with
  | none => rw [e] at h; cases h
  | some j =>
    rw [e] at h
    exact r.get (i := j) h
def cutD (xs : List Dat) (lo hi : Option Int) : List Dat := (xs.drop (HT.sIx xs.length 0 lo)).take (HT.sIx xs.length xs.length hi - HT.sIx xs.length 0 lo)
theorem RpL.cut {H : Hp} {vs : List V} {ds : List Dat} (r : RpL H vs ds) (lo hi : Option Int) : RpL H (cutV vs lo hi) (cutD ds lo hi) := by
  unfold cutV cutD
  rw [r.length]
  exact (r.drop _).take _
theorem RpF.look {H : Hp} {f : Str} {x : Dat} : ∀ {fvs : List (Str × V)} {fs : List (Str × Dat)}, RpF H fvs fs → fs.lookup f = some x → ∃ u, fvs.lookup f = some u ∧ Rp H u x
  | _, _, .nil, h => by simp at h
  | _, _, .cons (f := f') c l r t, h => by
    rw [List.lookup_cons] at h
    cases e : (f == f') with
    | true =>
      rw [e] at h
      have e2 : f = f' := eq_of_beq e
      cases (Option.some.inj h : _ = _)
      exact ⟨_, by rw [e2]; exact l, r⟩
    | false => rw [e] at h; exact RpF.look t h
theorem RpL.ints {H : Hp} : ∀ ns : List Int, RpL H (ns.map V.int) (ns.map Dat.int)
  | [] => .nil
  | n :: r => .cons (.int n) (RpL.ints r)

def XE (z : Cz) (t : TE) (g : List Sl) (m : Nat) (C : Nat → Dat → Prop) : Prop := ∀ (O : List Addr) (σ : L2.St) (H : Hp), Real z O g m σ H → ∀ Q : VK,
  (∀ m' d v H', C m' d → Real z O g m' σ H' → LeX z.P H H' → Rp (hid O H') v d → Q v H') → t σ H Q
/-- a list made anew -/
def XN (z : Cz) (t : TE) (g : List Sl) (m : Nat) (C : Nat → List Dat → Prop) : Prop := ∀ (O : List Addr) (σ : L2.St) (H : Hp), Real z O g m σ H → ∀ Q : VK,
  (∀ m' ds p H', C m' ds → Real z O g m' σ (hid [p] H') → LeX z.P H (hid [p] H') → Fresh z O H H' p ds → Q (.ref p) H') → t σ H Q
def XA (z : Cz) (t : TA) (g : List Sl) (m : Nat) (C : Nat → List Dat → Prop) : Prop := ∀ (O : List Addr) (σ : L2.St) (H : Hp), Real z O g m σ H → ∀ Q : List V → Hp → Prop,
  (∀ m' ds vs H', C m' ds → Real z O g m' σ H' → LeX z.P H H' → RpL (hid O H') vs ds → Q vs H') → t σ H Q
def XT (z : Cz) (t : TT) (g : List Sl) (m : Nat) (C : Nat → Bool → Prop) : Prop := ∀ (O : List Addr) (σ : L2.St) (H : Hp), Real z O g m σ H → ∀ Q : Bool → Hp → Prop,
  (∀ m' b H', C m' b → Real z O g m' σ H' → LeX z.P H H' → Q b H') → t σ H Q
/-- the rules, told of data -/
def DR2 (r : R2) (rd : Dat → Dat → (Dat → Prop) → Prop) : Prop := ∀ (O : List Addr) (H : Hp) (x y : V) (d e : Dat) (C : Dat → Prop) (Q : VK), (∀ p ∈ O, ∃ o, H p = some o) → Rp (hid O H) x d → Rp (hid O H) y e → rd d e C →
  (∀ d' v H', C d' → Le H H' → Rp (hid O H') v d' → Q v H') → r x y H Q
def DN2 (r : R2) (rd : Dat → Dat → (List Dat → Prop) → Prop) : Prop := ∀ (H : Hp) (x y : V) (d e : Dat) (C : List Dat → Prop) (Q : VK) (G : Hp), Le G H → Rp G x d → Rp G y e → rd d e C →
  (∀ ds vs p, C ds → H p = none → RpL G vs ds → Q (.ref p) (upd H p (.lst vs))) → r x y H Q
def DCB (r : List V → Hp → VK → Prop) (rd : List Dat → (Dat → Prop) → Prop) : Prop := ∀ (O : List Addr) (H : Hp) (xs : List V) (ds : List Dat) (C : Dat → Prop) (Q : VK), (∀ p ∈ O, ∃ o, H p = some o) → RpL (hid O H) xs ds → rd ds C →
  (∀ d' v H', C d' → Le H H' → Rp (hid O H') v d' → Q v H') → r xs H Q
def DNB (r : List V → Hp → VK → Prop) (rd : List Dat → (List Dat → Prop) → Prop) : Prop := ∀ (H : Hp) (xs : List V) (ds : List Dat) (C : List Dat → Prop) (Q : VK) (G : Hp), Le G H → RpL G xs ds → rd ds C →
  (∀ es vs p, C es → H p = none → RpL G vs es → Q (.ref p) (upd H p (.lst vs))) → r xs H Q
def dBl (d : Dat) (C : Bool → Prop) : Prop := ∃ b, d = .bl b ∧ C b
section
variable {z : Cz} {g : List Sl} {m : Nat} {C : Nat → Dat → Prop} {CL : Nat → List Dat → Prop} {CT : Nat → Bool → Prop} {t ta tb tc : TE} {tr : TA} {tt tu : TT} {r r' : R2}
theorem Fresh.of {O : List Addr} {H : Hp} {σ : L2.St} (R : Real z O g m σ H) {p : Addr} {vs : List V} {ds : List Dat} (hp : H p = none) (h : RpL (hid O H) vs ds) : Fresh z O H (upd H p (.lst vs)) p ds ∧ hid [p] (upd H p (.lst vs)) = H := by
  have e : hid [p] (upd H p (.lst vs)) = H := by
    funext b
    unfold hid
    by_cases q : b = p
    · subst q; rw [if_pos (by simp)]; exact hp.symm
    · rw [if_neg (by simp [q]), upd_ne q]
  refine ⟨⟨fun q => ?_, ?_, hp, vs, upd_same, by rw [e]; exact h⟩, e⟩
  · obtain ⟨o, ho⟩ := R.dom p q
    rw [hp] at ho; cases ho
  · cases q : z.B p with
    | none => rfl
    | some o =>
      by_cases n : p ∈ z.P
      · obtain ⟨o', ho⟩ := R.dom p (R.po p n)
        rw [hp] at ho; cases ho
      · obtain ⟨o', ho⟩ := (R.le p o n q).get
        rw [hp] at ho; cases ho
theorem XE.ofN (h : XN z t g m fun m' ds => C m' (.lst ds)) : XE z t g m C := fun O σ H R Q k => h O σ H R Q fun m' ds p H' c R' le f => by
  have l := hid1_le H' p
  obtain ⟨vs, hp, q⟩ := f.at_
  refine k m' _ _ _ c (R'.up l) (le.trans l.x) (.lst (by rw [hid_out f.no]; exact hp) (q.mono l.hid))
theorem XE.var {i : Nat} {d : Dat} (h : g[i]? = some (.dt d)) (c : C m d) : XE z (tVar i) g m C := fun O σ H R Q k => by
  obtain ⟨v, e, q⟩ := R.sl i _ h
  exact ⟨v, e, k m d v H c R (LeX.refl _ _) q⟩
theorem XE.int {i : Int} (c : C m (.int i)) : XE z (tC (.int i)) g m C := fun O σ H R Q k => k m _ _ H c R (LeX.refl _ _) (.int i)
theorem XE.bl {i : Bool} (c : C m (.bl i)) : XE z (tC (.bl i)) g m C := fun O σ H R Q k => k m _ _ H c R (LeX.refl _ _) (.bl i)
theorem XE.str {i : Str} (c : C m (.str i)) : XE z (tC (.str i)) g m C := fun O σ H R Q k => k m _ _ H c R (LeX.refl _ _) (.str i)
theorem XE.non (c : C m .non) : XE z (tC .non) g m C := fun O σ H R Q k => k m _ _ H c R (LeX.refl _ _) .non
theorem XE.op {rd : Dat → Dat → (Dat → Prop) → Prop} (hr : DR2 r rd) (h : XE z ta g m fun m1 d1 => XE z tb g m1 fun m2 d2 => rd d1 d2 (C m2)) : XE z (tOp r ta tb) g m C := fun O σ H R Q k =>
  h O σ H R _ fun m1 d1 x H1 c1 R1 l1 q1 => c1 O σ H1 R1 _ fun m2 d2 y H2 c2 R2 l2 q2 =>
    hr O H2 x y d1 d2 (C m2) Q R2.dom (q1.mono (l2.hid R1.po)) q2 c2 fun d v H3 c3 l3 q3 => k m2 d v H3 c3 (R2.up l3) ((l1.trans l2).trans l3.x) q3
theorem XN.op {rd : Dat → Dat → (List Dat → Prop) → Prop} (hr : DN2 r rd) (h : XE z ta g m fun m1 d1 => XE z tb g m1 fun m2 d2 => rd d1 d2 (CL m2)) : XN z (tOp r ta tb) g m CL := fun O σ H R Q k =>
  h O σ H R _ fun m1 d1 x H1 c1 R1 l1 q1 => c1 O σ H1 R1 _ fun m2 d2 y H2 c2 R2 l2 q2 =>
    hr H2 x y d1 d2 (CL m2) Q (hid O H2) (hid_le O H2) (q1.mono (l2.hid R1.po)) q2 c2 fun ds vs p c3 n q3 => by
      obtain ⟨f, e⟩ := Fresh.of R2 n q3
      have l12 := l1.trans l2
      refine k m2 ds p _ c3 (by rw [e]; exact R2) (by rw [e]; exact l12) ⟨f.no, f.nb, ?_, f.at_⟩
      cases q : H p with
      | none => rfl
      | some o =>
        by_cases y : p ∈ z.P
        · exact absurd (R.po p y) f.no
        · obtain ⟨o', ho⟩ := (l12 p o y q).get
          rw [n] at ho; cases ho
theorem XA.nil (c : CL m []) : XA z tNil g m CL := fun O σ H R Q k => k m [] [] H c R (LeX.refl _ _) .nil
theorem XA.cons (h : XE z ta g m fun m1 d => XA z tr g m1 fun m2 ds => CL m2 (d :: ds)) : XA z (tCons ta tr) g m CL := fun O σ H R Q k =>
  h O σ H R _ fun m1 d1 x H1 c1 R1 l1 q1 => c1 O σ H1 R1 _ fun m2 ds vs H2 c2 R2 l2 q2 => k m2 (d1 :: ds) (x :: vs) H2 c2 R2 (l1.trans l2) (.cons (q1.mono (l2.hid R1.po)) q2)
theorem XE.tup (h : XA z tr g m fun m1 ds => ds.length ≤ 1000 ∧ C m1 (.tup ds)) : XE z (tTup tr) g m C := fun O σ H R Q k =>
  h O σ H R _ fun m1 ds vs H1 ⟨hl, c⟩ R1 l1 q1 => ⟨Nat.le_of_lt (small1000 (by rw [q1.length]; exact hl)), fun p hp => by
    have l : Le H1 (upd H1 p (.tup vs)) := .new hp
    have n : p ∉ O := fun q => by obtain ⟨o, ho⟩ := R1.dom p q; rw [hp] at ho; cases ho
    exact k m1 _ _ _ c (R1.up l) (l1.trans l.x) (.tup (by rw [hid_out n]; exact upd_same) (q1.mono l.hid))⟩
theorem XN.lst (h : XA z tr g m fun m1 ds => ds.length ≤ 1000 ∧ CL m1 ds) : XN z (tLst tr) g m CL := fun O σ H R Q k =>
  h O σ H R _ fun m1 ds vs H1 ⟨hl, c⟩ R1 l1 q1 => ⟨Nat.le_of_lt (small1000 (by rw [q1.length]; exact hl)), fun p hp => by
    obtain ⟨f, e⟩ := Fresh.of R1 hp q1
    refine k m1 ds p _ c (by rw [e]; exact R1) (by rw [e]; exact l1) ⟨f.no, f.nb, ?_, f.at_⟩
    cases q : H p with
    | none => rfl
    | some o =>
      by_cases y : p ∈ z.P
      · exact absurd (R.po p y) f.no
      · obtain ⟨o', ho⟩ := (l1 p o y q).get
        rw [hp] at ho; cases ho⟩
theorem XE.cb {rb : List V → Hp → VK → Prop} {rd : List Dat → (Dat → Prop) → Prop} (hr : DCB rb rd) (h : XA z tr g m fun m1 ds => rd ds (C m1)) : XE z (tCB rb tr) g m C := fun O σ H R Q k =>
  h O σ H R _ fun m1 ds vs H1 c R1 l1 q1 => hr O H1 vs ds (C m1) Q R1.dom q1 c fun d v H2 c2 l2 q2 => k m1 d v H2 c2 (R1.up l2) (l1.trans l2.x) q2
theorem XN.cb {rb : List V → Hp → VK → Prop} {rd : List Dat → (List Dat → Prop) → Prop} (hr : DNB rb rd) (h : XA z tr g m fun m1 ds => rd ds (CL m1)) : XN z (tCB rb tr) g m CL := fun O σ H R Q k =>
  h O σ H R _ fun m1 ds vs H1 c R1 l1 q1 => hr H1 vs ds (CL m1) Q (hid O H1) (hid_le O H1) q1 c fun es us p c3 n q3 => by
      obtain ⟨f, e⟩ := Fresh.of R1 n q3
      refine k m1 es p _ c3 (by rw [e]; exact R1) (by rw [e]; exact l1) ⟨f.no, f.nb, ?_, f.at_⟩
      cases q : H p with
      | none => rfl
      | some o =>
        by_cases y : p ∈ z.P
        · exact absurd (R.po p y) f.no
        · obtain ⟨o', ho⟩ := (l1 p o y q).get
          rw [n] at ho; cases ho
/-! ### tests -/
theorem XT.b (h : XE z t g m fun m1 d => dBl d (CT m1)) : XT z (tB t) g m CT := fun O σ H R Q k => h O σ H R _ fun m1 d v H1 ⟨b, e, c⟩ R1 l1 q1 => by
  subst e; cases q1; exact ⟨b, rfl, k m1 b H1 c R1 l1⟩
theorem XT.test (h : XE z t g m fun m1 d => dBl d (CT m1)) : XT z (tTest t) g m CT := fun O σ H R Q k => h O σ H R _ fun m1 d v H1 ⟨b, e, c⟩ R1 l1 q1 => by
  subst e; cases q1; exact ⟨b, rfl, k m1 b H1 c R1 l1⟩
theorem XT.not (h : XT z tt g m fun m1 b => CT m1 (!b)) : XT z (tNot tt) g m CT := fun O σ H R Q k => h O σ H R _ fun m1 b H1 c R1 l1 => k m1 _ H1 c R1 l1
theorem XT.and (h : XT z tt g m fun m1 b => if b = true then XT z tu g m1 CT else CT m1 false) : XT z (tAnd tt tu) g m CT := fun O σ H R Q k => h O σ H R _ fun m1 b H1 c R1 l1 => by
  cases b with
  | true => exact c O σ H1 R1 Q fun m2 b2 H2 c2 R2 l2 => k m2 b2 H2 c2 R2 (l1.trans l2)
  | false => exact k m1 false H1 c R1 l1
theorem XT.or (h : XT z tt g m fun m1 b => if b = true then CT m1 true else XT z tu g m1 CT) : XT z (tOr tt tu) g m CT := fun O σ H R Q k => h O σ H R _ fun m1 b H1 c R1 l1 => by
  cases b with
  | false => exact c O σ H1 R1 Q fun m2 b2 H2 c2 R2 l2 => k m2 b2 H2 c2 R2 (l1.trans l2)
  | true => exact k m1 true H1 c R1 l1
theorem XT.yes (c : CT m true) : XT z tYes g m CT := fun O σ H R Q k => k m true H c R (LeX.refl _ _)
theorem XE.andV (h : XE z ta g m fun m1 d => dBl d fun b => if b = true then XE z tb g m1 C else C m1 (.bl false)) : XE z (tAndV ta tb) g m C := fun O σ H R Q k => h O σ H R _ fun m1 d v H1 ⟨b, e, c⟩ R1 l1 q1 => by
  subst e; cases q1
  refine ⟨b, rfl, ?_⟩
  cases b with
  | true => exact c O σ H1 R1 Q fun m2 b2 v2 H2 c2 R2 l2 q2 => k m2 b2 v2 H2 c2 R2 (l1.trans l2) q2
  | false => exact k m1 _ _ H1 c R1 l1 (.bl false)
theorem XE.orV (h : XE z ta g m fun m1 d => dBl d fun b => if b = true then C m1 (.bl true) else XE z tb g m1 C) : XE z (tOrV ta tb) g m C := fun O σ H R Q k => h O σ H R _ fun m1 d v H1 ⟨b, e, c⟩ R1 l1 q1 => by
  subst e; cases q1
  refine ⟨b, rfl, ?_⟩
  cases b with
  | false => exact c O σ H1 R1 Q fun m2 b2 v2 H2 c2 R2 l2 q2 => k m2 b2 v2 H2 c2 R2 (l1.trans l2) q2
  | true => exact k m1 _ _ H1 c R1 l1 (.bl true)
theorem XE.notV (h : XE z ta g m fun m1 d => dBl d fun b => C m1 (.bl (!b))) : XE z (tNotV ta) g m C := fun O σ H R Q k => h O σ H R _ fun m1 d v H1 ⟨b, e, c⟩ R1 l1 q1 => by
  subst e; cases q1
  exact ⟨b, rfl, k m1 _ _ H1 c R1 l1 (.bl _)⟩
theorem XE.ifE (h : XT z tt g m fun m1 b => if b = true then XE z ta g m1 C else XE z tb g m1 C) : XE z (tIf tt ta tb) g m C := fun O σ H R Q k => h O σ H R _ fun m1 b H1 c R1 l1 => by
  cases b with
  | true => exact c O σ H1 R1 Q fun m2 b2 v2 H2 c2 R2 l2 q2 => k m2 b2 v2 H2 c2 R2 (l1.trans l2) q2
  | false => exact c O σ H1 R1 Q fun m2 b2 v2 H2 c2 R2 l2 q2 => k m2 b2 v2 H2 c2 R2 (l1.trans l2) q2
theorem XE.chain {rd rd' : Dat → Dat → (Dat → Prop) → Prop} (hr : DR2 r rd) (hr' : DR2 r' rd') (h : XE z ta g m fun m1 d1 => XE z tb g m1 fun m2 d2 => rd d1 d2 fun d3 => dBl d3 fun b => if b = true then XE z tc g m2 fun m4 d4 => rd' d2 d4 (C m4) else C m2 (.bl false)) : XE z (tChain r r' ta tb tc) g m C := fun O σ H R Q k =>
  h O σ H R _ fun m1 d1 x H1 c1 R1 l1 q1 => c1 O σ H1 R1 _ fun m2 d2 y H2 c2 R2 l2 q2 =>
    hr O H2 x y d1 d2 _ _ R2.dom (q1.mono (l2.hid R1.po)) q2 c2 fun d v H3 c3 l3 q3 => by
      obtain ⟨b, e, c3⟩ := c3
      subst e; cases q3
      refine ⟨b, rfl, ?_⟩
      have R3 := R2.up l3
      have l13 := (l1.trans l2).trans l3.x
      cases b with
      | true => exact c3 O σ H3 R3 _ fun m4 d4 w_ H4 c4 R4 l4 q4 => hr' O H4 y w_ d2 d4 (C m4) Q R4.dom ((q2.mono l3.hid).mono (l4.hid R3.po)) q4 c4 fun d5 v5 H5 c5 l5 q5 => k m4 d5 v5 H5 c5 (R4.up l5) ((l13.trans l4).trans l5.x) q5
      | false => exact k m2 _ _ H3 c3 R3 l13 (.bl false)
end
end My

namespace My
open PySem PySem.Spec PyProof.Rows L2
open C8 (Cal pe_c pe_gc)
/-! ### the rules, told of data -/
def simV : V → Bool
  | .non | .bl _ | .int _ | .str _ => true
  | _ => false
def vd : V → Dat
  | .bl b => .bl b
  | .int i => .int i
  | .str x => .str x
  | _ => .non
theorem rp_vd {H : Hp} {v : V} (h : simV v = true) : Rp H v (vd v) := by
  cases v with
  | non => exact .non
  | bl b => exact .bl b
  | int i => exact .int i
  | str x => exact .str x
  | _ => cases h
def dv : Dat → V
  | .bl b => .bl b
  | .int i => .int i
  | .str x => .str x
  | _ => .non
def isSc : Dat → Bool
  | .non | .bl _ | .int _ | .str _ => true
  | _ => false
theorem rp_dv {H : Hp} {v : V} {d : Dat} (h : isSc d = true) (r : Rp H v d) : v = dv d := by
  cases r with
  | non => rfl
  | bl b => rfl
  | int i => rfl
  | str x => rfl
  | lst h1 h2 => cases h
  | tup h1 h2 => cases h
  | ins h1 h2 => cases h
  | exc0 h1 => cases h
  | exc1 h1 h2 h3 => cases h
def dI (cd : Int → Int → Prop) (f : Int → Int → V) : Dat → Dat → (Dat → Prop) → Prop := fun d e C => ∃ i j, d = .int i ∧ e = .int j ∧ cd i j ∧ C (vd (f i j))
def dI0 (f : Int → Int → V) : Dat → Dat → (Dat → Prop) → Prop := fun d e C => ∃ i j, d = .int i ∧ e = .int j ∧ C (vd (f i j))
theorem dr_I {cd : Int → Int → Prop} {f : Int → Int → V} (hs : ∀ i j, simV (f i j) = true := by intros; rfl) : DR2 (rI cd f) (dI cd f) := fun O H x y d e C Q _ rx ry ⟨i, j, e1, e2, hc, c⟩ k => by
  subst e1 e2; cases rx; cases ry
  exact ⟨i, j, rfl, rfl, hc, k _ _ H c (Le.refl H) (rp_vd (hs i j))⟩
theorem dr_I0 {f : Int → Int → V} (hs : ∀ i j, simV (f i j) = true := by intros; rfl) : DR2 (rI0 f) (dI0 f) := fun O H x y d e C Q _ rx ry ⟨i, j, e1, e2, c⟩ k => by
  subst e1 e2; cases rx; cases ry
  exact ⟨i, j, rfl, rfl, k _ _ H c (Le.refl H) (rp_vd (hs i j))⟩
/-- == of simple things -/
def eqS : Dat → Dat → Bool
  | .int i, .int j => decide (i = j)
  | .bl i, .bl j => decide (i = j)
  | .str i, .str j => decide (i = j)
  | .non, .non => true
  | _, _ => false
theorem eqS_ok {d e : Dat} (h1 : isSc d = true) (h2 : isSc e = true) : decide (dv d = dv e) = eqS d e := by
  cases d <;> cases e <;> first | (cases h1; done) | (cases h2; done) | skip
  all_goals first
    | rfl
    | (show decide (V.int _ = V.int _) = decide _; exact decide_eq_decide.mpr ⟨fun h => by injection h, fun h => by rw [h]⟩)
    | (show decide (V.bl _ = V.bl _) = decide _; exact decide_eq_decide.mpr ⟨fun h => by injection h, fun h => by rw [h]⟩)
    | (show decide (V.str _ = V.str _) = decide _; exact decide_eq_decide.mpr ⟨fun h => by injection h, fun h => by rw [h]⟩)
    | exact decide_eq_false (fun h => nomatch h)
def dEq (d e : Dat) (C : Dat → Prop) : Prop := isSc d = true ∧ isSc e = true ∧ scal (dv d) (dv e) = true ∧ C (.bl (eqS d e))
def dNe (d e : Dat) (C : Dat → Prop) : Prop := isSc d = true ∧ isSc e = true ∧ scal (dv d) (dv e) = true ∧ C (.bl (!eqS d e))
theorem dr_eq : DR2 rEq dEq := fun O H x y d e C Q _ rx ry ⟨h1, h2, hs, c⟩ k => by
  have e1 := rp_dv h1 rx
  have e2 := rp_dv h2 ry
  subst e1 e2
  exact ⟨hs, k _ _ H c (Le.refl H) (by rw [eqS_ok h1 h2]; exact .bl _)⟩
theorem dr_ne : DR2 rNe dNe := fun O H x y d e C Q _ rx ry ⟨h1, h2, hs, c⟩ k => by
  have e1 := rp_dv h1 rx
  have e2 := rp_dv h2 ry
  subst e1 e2
  exact ⟨hs, k _ _ H c (Le.refl H) (by rw [eqS_ok h1 h2]; exact .bl _)⟩
def isN : Dat → Bool
  | .non => true
  | _ => false
theorem isN_ok {H : Hp} {v : V} {d : Dat} (r : Rp H v d) : decide (v = .non) = isN d := by
  cases r <;> first | rfl | exact decide_eq_false (fun h => nomatch h)
theorem dr_isN : DR2 (fun x y H Q => y = .non ∧ Q (.bl (decide (x = .non))) H) (fun d e C => e = .non ∧ C (.bl (isN d))) := fun O H x y d e C Q _ rx ry ⟨h1, c⟩ k => by
  subst h1; cases ry
  exact ⟨rfl, k _ _ H c (Le.refl H) (by rw [isN_ok rx]; exact .bl _)⟩
theorem dr_notN : DR2 (fun x y H Q => y = .non ∧ Q (.bl (!decide (x = .non))) H) (fun d e C => e = .non ∧ C (.bl (!isN d))) := fun O H x y d e C Q _ rx ry ⟨h1, c⟩ k => by
  subst h1; cases ry
  exact ⟨rfl, k _ _ H c (Le.refl H) (by rw [isN_ok rx]; exact .bl _)⟩
/-! places -/
def dIx (d e : Dat) (C : Dat → Prop) : Prop := ∃ ds j x, d = .lst ds ∧ e = .int j ∧ atI ds j = some x ∧ C x
def dIxT (d e : Dat) (C : Dat → Prop) : Prop := ∃ ds j x, d = .tup ds ∧ e = .int j ∧ atI ds j = some x ∧ C x
theorem dr_ixL {K : PySem.W.Frag} : DR2 (rIxL K) dIx := fun O H x y d e C Q _ rx ry ⟨ds, j, x', e1, e2, ha, c⟩ k => by
  subst e1 e2; cases ry
  cases rx with
  | lst h r =>
    obtain ⟨v, hv, rv⟩ := r.at ha
    exact ⟨_, _, _, v, rfl, rfl, SqL.of (hid_some h).2, hv, k _ _ H c (Le.refl H) rv⟩
theorem dr_ixT {K : PySem.W.Frag} : DR2 (rIxT K) dIxT := fun O H x y d e C Q _ rx ry ⟨ds, j, x', e1, e2, ha, c⟩ k => by
  subst e1 e2; cases ry
  cases rx with
  | tup h r =>
    obtain ⟨v, hv, rv⟩ := r.at ha
    exact ⟨_, _, _, v, rfl, rfl, SqT.of (hid_some h).2, hv, k _ _ H c (Le.refl H) rv⟩
def dCat (d e : Dat) (C : List Dat → Prop) : Prop := ∃ xs ys, d = .lst xs ∧ e = .lst ys ∧ xs.length + ys.length ≤ 1000 ∧ C (xs ++ ys)
theorem dn_cat : DN2 rCat dCat := fun H x y d e C Q G l rx ry ⟨xs, ys, e1, e2, hl, c⟩ k => by
  subst e1 e2
  cases rx with
  | lst h r =>
    cases ry with
    | lst h' r' =>
      refine ⟨_, _, _, _, rfl, rfl, l.lst h, l.lst h', ?_, fun p hp => k _ _ p c hp (r.append r')⟩
      rw [r.length, r'.length]; exact Nat.le_of_lt (small1000 hl)
def dRep (d e : Dat) (C : List Dat → Prop) : Prop := ∃ xs k, d = .lst xs ∧ e = .int k ∧ -(2 ^ 63) ≤ k ∧ k < 2 ^ 63 ∧ xs.length * k.toNat ≤ 1000 ∧ C (List.replicate k.toNat xs).flatten
theorem dn_rep : DN2 rRep dRep := fun H x y d e C Q G l rx ry ⟨xs, n, e1, e2, h1, h2, hl, c⟩ k => by
  subst e1 e2; cases ry
  cases rx with
  | lst h r =>
    refine ⟨_, _, _, rfl, rfl, l.lst h, h1, h2, ?_, fun p hp => k _ _ p c hp (r.rep _)⟩
    rw [r.length]; exact Nat.le_of_lt (small1000 hl)
/-! data that is compared at any depth -/
mutual
def toP : Dat → PyData
  | .non => .none
  | .bl b => .bool b
  | .int i => .int i
  | .str x => .str x
  | .lst ds => .list (toPs ds)
  | .tup ds => .tuple (toPs ds)
  | .ins _ _ => .none
  | .exc _ _ => .none
def toPs : List Dat → List PyData
  | [] => []
  | d :: ds => toP d :: toPs ds
end
mutual
def plain : Dat → Bool
  | .ins _ _ => false
  | .exc _ _ => false
  | .str x => PyData.strOk x
  | .lst ds => plains ds
  | .tup ds => plains ds
  | _ => true
def plains : List Dat → Bool
  | [] => true
  | d :: ds => plain d && plains ds
end
theorem and_t {a b : Bool} (h : (a && b) = true) : a = true ∧ b = true := by cases a <;> cases b <;> simp_all
mutual
theorem Rp.dp {K : PySem.W.Frag} {O : List Addr} {H : Hp} : ∀ {v : V} {d : Dat}, plain d = true → Rp (hid O H) v d → Dp K H v (toP d)
  | _, _, _, .non => .non
  | _, _, _, .bl b => .bl b
  | _, _, _, .int i => .int i
  | _, _, _, .str x => .str x
  | _, _, p, .lst h r => .lst (SqL.of (hid_some h).2) (RpL.dp (by simpa [plain] using p) r)
  | _, _, p, .tup h r => .tup (SqT.of (hid_some h).2) (RpL.dp (by simpa [plain] using p) r)
  | _, _, p, .ins h r n => by simp [plain] at p
  | _, _, p, .exc0 h => by simp [plain] at p
  | _, _, p, .exc1 h h2 r => by simp [plain] at p
theorem RpL.dp {K : PySem.W.Frag} {O : List Addr} {H : Hp} : ∀ {vs : List V} {ds : List Dat}, plains ds = true → RpL (hid O H) vs ds → DpAll K H vs (toPs ds)
  | _, _, _, .nil => .nil
  | _, _, p, .cons r t => .cons (Rp.dp (and_t (by simpa [plains] using p)).1 r) (RpL.dp (and_t (by simpa [plains] using p)).2 t)
end
mutual
/-- how deep -/
def dep : Dat → Nat
  | .lst ds => deps ds + 1
  | .tup ds => deps ds + 1
  | _ => 0
def deps : List Dat → Nat
  | [] => 0
  | d :: ds => max (dep d) (deps ds)
end
/-- == of data -/
def eqD (d e : Dat) : Bool := PyData.eqv (toP d) (toP e)
structure Cmp (d : Dat) : Prop where
  p : plain d = true
  s : SeqAt.shaped (toP d) = true
def dEqD (d e : Dat) (C : Dat → Prop) : Prop := Cmp d ∧ Cmp e ∧ C (.bl (eqD d e))
def dNeD (d e : Dat) (C : Dat → Prop) : Prop := Cmp d ∧ Cmp e ∧ C (.bl (!eqD d e))
theorem dr_eqD {K : PySem.W.Frag} : DR2 (rEqD K) dEqD := fun O H x y d e C Q _ rx ry ⟨h1, h2, c⟩ k => ⟨_, _, rx.dp h1.p, ry.dp h2.p, h1.s, h2.s, k _ _ H c (Le.refl H) (.bl _)⟩
theorem dr_neD {K : PySem.W.Frag} : DR2 (rNeD K) dNeD := fun O H x y d e C Q _ rx ry ⟨h1, h2, c⟩ k => ⟨_, _, rx.dp h1.p, ry.dp h2.p, h1.s, h2.s, k _ _ H c (Le.refl H) (.bl _)⟩
mutual
theorem lay_toP : ∀ {d : Dat}, plain d = true → PyData.canLay0 (toP d) = true ∧ PyData.depth (toP d) ≤ dep d + 1
  | .non, _ => ⟨by simp [toP, PyData.canLay0], by simp [toP, PyData.depth]⟩
  | .bl _, _ => ⟨by simp [toP, PyData.canLay0], by simp [toP, PyData.depth]⟩
  | .int _, _ => ⟨by simp [toP, PyData.canLay0], by simp [toP, PyData.depth]⟩
  | .str _, p => ⟨by simpa [toP, PyData.canLay0, plain] using p, by simp [toP, PyData.depth]⟩
  | .ins _ _, _ => ⟨by simp [toP, PyData.canLay0], by simp [toP, PyData.depth]⟩
  | .exc _ _, _ => ⟨by simp [toP, PyData.canLay0], by simp [toP, PyData.depth]⟩
  | .lst ds, p => ⟨by simp only [toP, PyData.canLay0]; exact (lay_toPs (by simpa [plain] using p)).1, by simp only [toP, PyData.depth, dep]; have := (lay_toPs (ds := ds) (by simpa [plain] using p)).2; omega⟩
  | .tup ds, p => ⟨by simp only [toP, PyData.canLay0]; exact (lay_toPs (by simpa [plain] using p)).1, by simp only [toP, PyData.depth, dep]; have := (lay_toPs (ds := ds) (by simpa [plain] using p)).2; omega⟩
theorem lay_toPs : ∀ {ds : List Dat}, plains ds = true → PyData.canLayAll0 (toPs ds) = true ∧ PyData.depthAll (toPs ds) ≤ deps ds + 1
  | [], _ => ⟨by simp [toPs, PyData.canLayAll0], by simp [toPs, PyData.depthAll]⟩
  | d :: ds, p => by
    have p' := and_t (show (plain d && plains ds) = true by simpa [plains] using p)
    have h1 := lay_toP (d := d) p'.1
    have h2 := lay_toPs (ds := ds) p'.2
    refine ⟨by simp only [toPs, PyData.canLayAll0, h1.1, h2.1]; rfl, ?_⟩
    simp only [toPs, PyData.depthAll, deps]
    omega
end
theorem Cmp.of {d : Dat} (p : plain d = true) (h : dep d ≤ 60) : Cmp d := ⟨p, by
  have l := lay_toP (d := d) p
  show (PyData.canLay0 (toP d) && decide (PyData.depth (toP d) ≤ 64)) = true
  rw [l.1, decide_eq_true (by omega)]; rfl⟩
theorem eqD_refl {d : Dat} (h : Cmp d) : eqD d d = true := SeqAt.eqv_refl _ (SeqAt.canLay_of_shaped h.s)
/-! calls of what is built in -/
theorem db_abs : DCB (fun xs H Q => ∃ i, xs = [.int i] ∧ Q (.int (if i < 0 then -i else i)) H) (fun ds C => ∃ i, ds = [.int i] ∧ C (.int (if i < 0 then -i else i))) := fun O H xs ds C Q _ r ⟨i, e, c⟩ k => by
  subst e
  cases r with
  | cons r t => cases r; cases t; exact ⟨i, rfl, k _ _ H c (Le.refl H) (.int _)⟩
theorem db_max2 : DCB (fun xs H Q => ∃ i j, xs = [.int i, .int j] ∧ Q (.int (if j > i then j else i)) H) (fun ds C => ∃ i j, ds = [.int i, .int j] ∧ C (.int (if j > i then j else i))) := fun O H xs ds C Q _ r ⟨i, j, e, c⟩ k => by
  subst e
  cases r with
  | cons r t => cases r; cases t with
    | cons r t => cases r; cases t; exact ⟨i, j, rfl, k _ _ H c (Le.refl H) (.int _)⟩
theorem db_int1 : DCB (fun xs H Q => (∃ i, xs = [.int i] ∧ Q (.int i) H) ∨ ∃ k, xs = [.bl k] ∧ Q (.int (if k then 1 else 0)) H) (fun ds C => (∃ i, ds = [.int i] ∧ C (.int i)) ∨ ∃ k, ds = [.bl k] ∧ C (.int (if k then 1 else 0))) := fun O H xs ds C Q _ r h k => by
  rcases h with ⟨i, e, c⟩ | ⟨i, e, c⟩
  · subst e
    cases r with
    | cons r t => cases r; cases t; exact .inl ⟨i, rfl, k _ _ H c (Le.refl H) (.int _)⟩
  · subst e
    cases r with
    | cons r t => cases r; cases t; exact .inr ⟨i, rfl, k _ _ H c (Le.refl H) (.int _)⟩
def seqOf : Dat → Option (List Dat)
  | .lst ds => some ds
  | .tup ds => some ds
  | _ => none
theorem db_len {K : PySem.W.Frag} : DCB (fun xs H Q => ∃ p ys, xs = [.ref p] ∧ (SqL K H p ys ∨ SqT K H p ys) ∧ Q (.int ys.length) H) (fun ds C => ∃ d xs, ds = [d] ∧ seqOf d = some xs ∧ C (.int xs.length)) := fun O H xs ds C Q _ r ⟨d, ys, e, hs, c⟩ k => by
  subst e
  cases r with
  | cons r t =>
    cases t
    cases r with
    | lst h r => cases hs; exact ⟨_, _, rfl, .inl (SqL.of (hid_some h).2), k _ _ H c (Le.refl H) (by rw [r.length]; exact .int _)⟩
    | tup h r => cases hs; exact ⟨_, _, rfl, .inr (SqT.of (hid_some h).2), k _ _ H c (Le.refl H) (by rw [r.length]; exact .int _)⟩
    | _ => cases hs
theorem dn_listOf {K : PySem.W.Frag} : DNB (fun xs H Q => ∃ p ys, xs = [.ref p] ∧ (SqL K H p ys ∨ SqT K H p ys) ∧ ∀ l, H l = none → Q (.ref l) (upd H l (.lst ys))) (fun ds C => ∃ d xs, ds = [d] ∧ seqOf d = some xs ∧ C xs) := fun H xs ds C Q G l r ⟨d, ys, e, hs, c⟩ k => by
  subst e
  cases r with
  | cons r t =>
    cases t
    cases r with
    | lst h r => cases hs; exact ⟨_, _, rfl, .inl (SqL.of (l.lst h)), fun p hp => k _ _ p c hp r⟩
    | tup h r =>
      cases hs
      rcases l _ _ h with h | ⟨_, _, _, _, e, _⟩
      · exact ⟨_, _, rfl, .inr (SqT.of h), fun p hp => k _ _ p c hp r⟩
      · cases e
    | _ => cases hs
/-! what is asked of data, by names: so a tactic can answer -/
def dUn (f : Int → V) (d : Dat) (C : Dat → Prop) : Prop := ∃ i, d = .int i ∧ C (vd (f i))
def dInt (d : Dat) (C : Int → Prop) : Prop := ∃ i, d = .int i ∧ C i
def dLst (d : Dat) (C : List Dat → Prop) : Prop := ∃ ds, d = .lst ds ∧ C ds
def dTup (d : Dat) (C : List Dat → Prop) : Prop := ∃ ds, d = .tup ds ∧ C ds
def dStr (d : Dat) (C : Str → Prop) : Prop := ∃ x, d = .str x ∧ C x
def dIxO (ds : List Dat) (d : Dat) (C : Dat → Prop) : Prop := ∃ j x, d = .int j ∧ atI ds j = some x ∧ C x
section
variable {z : Cz} {g : List Sl} {m : Nat} {C : Nat → Dat → Prop} {CL : Nat → List Dat → Prop} {t ta tb tc : TE} {tr : TA}
/-! one-place operations, parts of lists, own lists read -/
theorem XE.unI {f : Int → V} (h : XE z ta g m fun m1 d => dUn f d (C m1)) (hs : ∀ i, simV (f i) = true := by intros; rfl) : XE z (tUn (rU f) ta) g m C := fun O σ H R Q k =>
  h O σ H R _ fun m1 d v H1 ⟨i, e, c⟩ R1 l1 q1 => by subst e; cases q1; exact ⟨i, rfl, k m1 _ _ H1 c R1 l1 (rp_vd (hs i))⟩
def XO (z : Cz) (t : TO) (g : List Sl) (m : Nat) (C : Nat → Option Int → Prop) : Prop := ∀ (O : List Addr) (σ : L2.St) (H : Hp), Real z O g m σ H → ∀ Q : Option Int → Hp → Prop,
  (∀ m' o H', C m' o → Real z O g m' σ H' → LeX z.P H H' → Q o H') → t σ H Q
theorem XO.no {C : Nat → Option Int → Prop} (c : C m none) : XO z tNoPart g m C := fun O σ H R Q k => k m none H c R (LeX.refl _ _)
theorem XO.yes {C : Nat → Option Int → Prop} (h : XE z ta g m fun m1 d => dInt d fun i => C m1 (some i)) : XO z (tPart ta) g m C := fun O σ H R Q k =>
  h O σ H R _ fun m1 d v H1 ⟨i, e, c⟩ R1 l1 q1 => by subst e; cases q1; exact ⟨i, rfl, k m1 _ H1 c R1 l1⟩
theorem XN.sl {K : PySem.W.Frag} {tl th : TO} (h : XE z ta g m fun m1 d => XO z tl g m1 fun m2 lo => XO z th g m2 fun m3 hi => dLst d fun ds => CL m3 (cutD ds lo hi)) : XN z (tSl (rSlL K) ta tl th) g m CL := fun O σ H R Q k =>
  h O σ H R _ fun m1 d v H1 c1 R1 l1 q1 => c1 O σ H1 R1 _ fun m2 lo H2 c2 R2 l2 => c2 O σ H2 R2 _ fun m3 hi H3 ⟨ds, e, c⟩ R3 l3 => by
    subst e
    have q3 := (q1.mono (l2.hid R1.po)).mono (l3.hid R2.po)
    cases q3 with
    | lst hq r =>
      refine ⟨_, _, rfl, SqL.of (hid_some hq).2, fun p hp => ?_⟩
      obtain ⟨f, e⟩ := Fresh.of R3 hp (r.cut lo hi)
      have l := (l1.trans l2).trans l3
      refine k m3 _ p _ c (by rw [e]; exact R3) (by rw [e]; exact l) ⟨f.no, f.nb, ?_, f.at_⟩
      cases q : H p with
      | none => rfl
      | some o =>
        by_cases y : p ∈ z.P
        · exact absurd (R.po p y) f.no
        · obtain ⟨o', ho⟩ := (l p o y q).get
          rw [hp] at ho; cases ho
theorem XE.ixO {K : PySem.W.Frag} {i : Nat} {ds : List Dat} (hg : g[i]? = some (.ow ds)) (h : XE z tb g m fun m2 d2 => dIxO ds d2 (C m2)) : XE z (tOp (rIxL K) (tVar i) tb) g m C := fun O σ H R Q k => by
  obtain ⟨p, vs, e, po, pG, hp, q⟩ := R.sl i _ hg
  refine ⟨_, e, h O σ H R _ fun m2 d2 y H2 ⟨j, x, e2, ha, c⟩ R2 l2 q2 => ?_⟩
  subst e2; cases q2
  obtain ⟨v, hv, rv⟩ := (q.mono (l2.hid R.po)).at ha
  exact ⟨p, vs, j, v, rfl, rfl, SqL.of (l2.lst (fun n => pG (R.pg p n)) hp), hv, k m2 _ _ H2 c R2 l2 rv⟩
theorem XE.lenO {K : PySem.W.Frag} {i : Nat} {ds : List Dat} (hg : g[i]? = some (.ow ds)) (c : C m (.int ds.length)) : XE z (tCB (fun xs H Q => ∃ p ys, xs = [.ref p] ∧ (SqL K H p ys ∨ SqT K H p ys) ∧ Q (.int ys.length) H) (tCons (tVar i) tNil)) g m C := fun O σ H R Q k => by
  obtain ⟨p, vs, e, po, pG, hp, q⟩ := R.sl i _ hg
  exact ⟨_, e, p, vs, rfl, .inl (SqL.of hp), k m _ _ H c R (LeX.refl _ _) (by rw [q.length]; exact .int _)⟩
end
end My

namespace My
open PySem PySem.Spec PyProof.Rows L2
open C8 (Cal pe_c pe_gc)
/-! ### statements -/
/-- what is of now and of later: what was data then is data now -/
structure Lz (O : List Addr) (H : Hp) (O' : List Addr) (H' : Hp) : Prop where
  le : Le (hid O H) (hid O' H')
  new : ∀ p ∈ O', p ∈ O ∨ H p = none
theorem Lz.refl (O : List Addr) (H : Hp) : Lz O H O H := ⟨Le.refl _, fun _ h => .inl h⟩
theorem Lz.trans {O O1 O2 : List Addr} {H H1 H2 : Hp} (a : Lz O H O1 H1) (b : Lz O1 H1 O2 H2) : Lz O H O2 H2 := ⟨a.le.trans b.le, fun p h => by
  rcases b.new p h with h | h
  · exact a.new p h
  · by_cases q : p ∈ O
    · exact .inl q
    · refine .inr ?_
      cases e : H p with
      | none => rfl
      | some o =>
        obtain ⟨o', ho⟩ := (a.le p o (by rw [hid_out q]; exact e)).get
        rw [(hid_some ho).2] at h; cases h⟩
theorem LeX.z {P O : List Addr} {H H' : Hp} (a : LeX P H H') (p : ∀ b ∈ P, b ∈ O) : Lz O H O H' := ⟨a.hid p, fun _ h => .inl h⟩
structure DE where
  nx : List Sl → Nat → Prop
  rt : Nat → Dat → Prop
  rn : Nat → List Dat → Prop := fun _ _ => False
  bk : List Sl → Nat → Prop := fun _ _ => False
  ct : List Sl → Nat → Prop := fun _ _ => False
structure DK (z : Cz) (O : List Addr) (H : Hp) (E : DE) (D : Ends) : Prop where
  nx : ∀ O' g' m' σ' H', E.nx g' m' → Real z O' g' m' σ' H' → Lz O H O' H' → D.nx σ' H'
  rt : ∀ O' g' m' σ' d v H', E.rt m' d → Real z O' g' m' σ' H' → Rp (hid O' H') v d → D.rt v H'
  rn : ∀ O' g' m' σ' ds p H', E.rn m' ds → Real z O' g' m' σ' (hid [p] H') → p ∉ O' → z.B p = none → (∃ vs, H' p = some (.lst vs) ∧ RpL (hid O' (hid [p] H')) vs ds) → D.rt (.ref p) H'
  bk : ∀ O' g' m' σ' H', E.bk g' m' → Real z O' g' m' σ' H' → Lz O H O' H' → D.bk σ' H'
  ct : ∀ O' g' m' σ' H', E.ct g' m' → Real z O' g' m' σ' H' → Lz O H O' H' → D.ct σ' H'
theorem DK.mono {z : Cz} {O O1 : List Addr} {H H1 : Hp} {E : DE} {D : Ends} (k : DK z O H E D) (l : Lz O H O1 H1) : DK z O1 H1 E D :=
  ⟨fun O' g' m' σ' H' c R q => k.nx O' g' m' σ' H' c R (l.trans q), k.rt, k.rn, fun O' g' m' σ' H' c R q => k.bk O' g' m' σ' H' c R (l.trans q), fun O' g' m' σ' H' c R q => k.ct O' g' m' σ' H' c R (l.trans q)⟩
def XS (z : Cz) (t : TS) (g : List Sl) (m : Nat) (E : DE) : Prop := ∀ (O : List Addr) (σ : L2.St) (H : Hp), Real z O g m σ H → ∀ D : Ends, DK z O H E D → t D σ H
/-- a target -/
def XG (z : Cz) (vs : List Nat) (gt : TG) (d : Dat) (g : List Sl) (k : List Sl → Prop) : Prop := ∀ (O : List Addr) (m : Nat) (σ : L2.St) (H : Hp) (v : V), Real z O g m σ H → Rp (hid O H) v d → ∀ R : L2.St → Hp → Prop,
  (∀ g' σ', k g' → Real z O g' m σ' H → wipe σ' vs = wipe σ vs → R σ' H) → gt v σ H R
def XGs (z : Cz) (vs : List Nat) (gt : TGs) (ds : List Dat) (g : List Sl) (k : List Sl → Prop) : Prop := ∀ (O : List Addr) (m : Nat) (σ : L2.St) (H : Hp) (ws : List V), Real z O g m σ H → RpL (hid O H) ws ds → ∀ R : L2.St → Hp → Prop,
  (∀ g' σ', k g' → Real z O g' m σ' H → wipe σ' vs = wipe σ vs → R σ' H) → gt ws σ H R
theorem wipe_set {σ : L2.St} {i : Nat} {x : Option V} : ∀ {vs : List Nat}, i ∈ vs → wipe (σ.set i x) vs = wipe σ vs
  | v :: vs, h => by
    unfold wipe
    by_cases e : i ∈ vs
    · rw [wipe_set e]
    · have e2 : i = v := (List.mem_cons.mp h).resolve_right e
      subst e2
      have q : ∀ {ws : List Nat}, i ∉ ws → (wipe (σ.set i x) ws) = (wipe σ ws).set i x := fun {ws} => by
        induction ws with
        | nil => intro _; rfl
        | cons w ws ih =>
          intro hn
          unfold wipe
          rw [ih (fun z => hn (List.mem_cons_of_mem _ z)), List.set_comm _ _ (fun z => hn (by rw [z]; simp))]
      rw [q e, List.set_set]
def dPut (n : Nat) (d : Dat) (C : Nat → Prop) : Prop := ∃ k j, d = .int k ∧ ixN n k = some j ∧ C j
@[irreducible] def dExt (n : Nat) (d : Dat) (C : List Dat → Prop) : Prop := ∃ es, d = .lst es ∧ n + es.length ≤ 1000 ∧ C es
def dApp (n : Nat) (es : List Dat) (C : Dat → Prop) : Prop := ∃ d, es = [d] ∧ n ≤ 1000 ∧ C d
section
variable {z : Cz} {g : List Sl} {m : Nat} {C : Nat → Dat → Prop} {CL : Nat → List Dat → Prop} {CT : Nat → Bool → Prop} {t ta tb tc : TE} {tr : TA} {tt tu : TT} {ts us : TS} {E : DE} {vs : List Nat}
theorem XG.name {i : Nat} {d : Dat} {k : List Sl → Prop} (h : vs.contains i = true) (c : k (g.set i (.dt d))) : XG z vs (gName i) d g k := fun O m σ H v R q R' k' => k' _ _ c (R.set i q) (wipe_set (by simpa using h))
theorem XGs.nil {k : List Sl → Prop} (c : k g) : XGs z vs gNil [] g k := fun O m σ H ws R q R' k' => by cases q; exact ⟨rfl, k' _ _ c R rfl⟩
theorem XGs.cons {g1 : TG} {gs : TGs} {d : Dat} {ds : List Dat} {k : List Sl → Prop} (h : XG z vs g1 d g fun g2 => XGs z vs gs ds g2 k) : XGs z vs (gCons g1 gs) (d :: ds) g k := fun O m σ H ws R q R' k' => by
  cases q with
  | cons r t => exact ⟨_, _, rfl, h O m σ H _ R r _ fun g2 σ2 c2 R2 w2 => c2 O m σ2 H _ R2 t _ fun g3 σ3 c3 R3 w3 => k' g3 σ3 c3 R3 (w3.trans w2)⟩
theorem XG.tup {K : PySem.W.Frag} {n : Nat} {gs : TGs} {d : Dat} {k : List Sl → Prop} (h : ∃ ds, d = .tup ds ∧ ds.length = n ∧ XGs z vs gs ds g k) : XG z vs (gTup K n gs) d g k := fun O m σ H v R q R' k' => by
  obtain ⟨ds, e, hl, h⟩ := h
  subst e
  cases q with
  | tup ha r => exact ⟨_, _, rfl, SqT.of (hid_some ha).2, by rw [r.length]; exact hl, h O m σ H _ R r R' k'⟩
theorem XG.unl {K : PySem.W.Frag} {n : Nat} {gs : TGs} {d : Dat} {k : List Sl → Prop} (h : ∃ ds, d = .lst ds ∧ ds.length = n ∧ XGs z vs gs ds g k) : XG z vs (gUnl K n gs) d g k := fun O m σ H v R q R' k' => by
  obtain ⟨ds, e, hl, h⟩ := h
  subst e
  cases q with
  | lst ha r => exact ⟨_, _, rfl, SqL.of (hid_some ha).2, by rw [r.length]; exact hl, h O m σ H _ R r R' k'⟩
theorem XS.next (c : E.nx g m) : XS z tNext g m E := fun O σ H R D k => k.nx _ _ _ _ _ c R (Lz.refl _ _)
theorem XS.seq (h : XS z ts g m { E with nx := fun g1 m1 => XS z us g1 m1 E }) : XS z (tSeq ts us) g m E := fun O σ H R D k =>
  h O σ H R _ ⟨fun O' g' m' σ' H' c R' l => c O' σ' H' R' D (k.mono l), k.rt, k.rn, k.bk, k.ct⟩
theorem XS.brk (c : E.bk g m) : XS z tBreak g m E := fun O σ H R D k => k.bk _ _ _ _ _ c R (Lz.refl _ _)
theorem XS.cnt (c : E.ct g m) : XS z tCont g m E := fun O σ H R D k => k.ct _ _ _ _ _ c R (Lz.refl _ _)
theorem XS.drop (h : XE z t g m fun m1 _ => E.nx g m1) : XS z (tDrop t) g m E := fun O σ H R D k => h O σ H R _ fun m1 d v H1 c R1 l1 _ => k.nx _ _ _ _ _ c R1 (l1.z R.po)
theorem XS.ret (h : XE z t g m E.rt) : XS z (tRet t) g m E := fun O σ H R D k => h O σ H R _ fun m1 d v H1 c R1 l1 q1 => k.rt _ _ _ _ _ _ _ c R1 q1
theorem XS.retF (h : XN z t g m E.rn) : XS z (tRet t) g m E := fun O σ H R D k => h O σ H R _ fun m1 ds p H1 c R1 l1 f => k.rn _ _ _ _ _ _ _ c R1 f.no f.nb f.at_
theorem XS.retN (c : E.rt m .non) : XS z tRetN g m E := fun O σ H R D k => k.rt _ _ _ _ _ _ _ c R .non
theorem XS.ite (h : XT z tt g m fun m1 b => if b = true then XS z ts g m1 E else XS z us g m1 E) : XS z (tIfS tt ts us) g m E := fun O σ H R D k => h O σ H R _ fun m1 b H1 c R1 l1 => by
  have k1 := k.mono (l1.z R.po)
  cases b with
  | true => exact c O σ H1 R1 D k1
  | false => exact c O σ H1 R1 D k1
theorem XS.set {i : Nat} (h : XE z t g m fun m1 d => E.nx (g.set i (.dt d)) m1) : XS z (tAsg t (gName i)) g m E := fun O σ H R D k => h O σ H R _ fun m1 d v H1 c R1 l1 q1 => k.nx _ _ _ _ _ c (R1.set i q1) (l1.z R.po)
theorem XS.setO {i : Nat} (h : XN z t g m fun m1 ds => E.nx (g.set i (.ow ds)) m1) : XS z (tAsg t (gName i)) g m E := fun O σ H R D k => h O σ H R _ fun m1 ds p H1 c R1 l1 f => by
  refine k.nx _ _ _ _ _ c (R1.own f i) ⟨?_, fun q hq => ?_⟩
  · rw [← hid_hid1]; exact l1.hid R.po
  · rcases List.mem_cons.mp hq with e | h
    · subst e; exact .inr f.ne
    · exact .inl h
theorem XS.asg {gt : TG} (h : XE z t g m fun m1 d => XG z (List.range 64) gt d g fun g1 => E.nx g1 m1) : XS z (tAsg t gt) g m E := fun O σ H R D k => h O σ H R _ fun m1 d v H1 c R1 l1 q1 =>
  c O m1 σ H1 v R1 q1 _ fun g' σ' c' R' _ => k.nx _ _ _ _ _ c' R' (l1.z R.po)
theorem XS.par {i j : Nat} (h : XA z tr g m fun m1 ds => ∃ d e, ds = [d, e] ∧ E.nx ((g.set i (.dt d)).set j (.dt e)) m1) : XS z (tPar i j tr) g m E := fun O σ H R D k => h O σ H R _ fun m1 ds vs H1 ⟨d, e, eq, c⟩ R1 l1 q1 => by
  subst eq
  cases q1 with
  | cons r t => cases t with
    | cons r' t => cases t; exact ⟨_, _, rfl, k.nx _ _ _ _ _ c ((R1.set i r).set j r') (l1.z R.po)⟩
theorem XS.par3 {i j l : Nat} (h : XA z tr g m fun m1 ds => ∃ d e f, ds = [d, e, f] ∧ E.nx (((g.set i (.dt d)).set j (.dt e)).set l (.dt f)) m1) : XS z (tPar3 i j l tr) g m E := fun O σ H R D k => h O σ H R _ fun m1 ds vs H1 ⟨d, e, f, eq, c⟩ R1 l1 q1 => by
  subst eq
  cases q1 with
  | cons r t => cases t with
    | cons r' t => cases t with
      | cons r'' t => cases t; exact ⟨_, _, _, rfl, k.nx _ _ _ _ _ c (((R1.set i r).set j r').set l r'') (l1.z R.po)⟩
theorem XS.augI {i : Nat} {f : Int → Int → Int} {a : Int} (hg : g[i]? = some (.dt (.int a))) (h : XE z t g m fun m1 d => dInt d fun b => E.nx (g.set i (.dt (.int (f a b)))) m1) : XS z (tAug i t (ipI f)) g m E := fun O σ H R D k => by
  obtain ⟨v, e, q⟩ := R.sl i _ hg
  cases q
  exact ⟨_, e, h O σ H R _ fun m1 d v H1 ⟨b, e, c⟩ R1 l1 q1 => by subst e; cases q1; exact ⟨_, _, rfl, rfl, k.nx _ _ _ _ _ c (R1.set i (.int _)) (l1.z R.po)⟩⟩
theorem XS.augR {i : Nat} {cd : Int → Int → Prop} {f : Int → Int → V} {a : Int} (hg : g[i]? = some (.dt (.int a))) (h : XE z t g m fun m1 d => dInt d fun b => cd a b ∧ E.nx (g.set i (.dt (vd (f a b)))) m1) (hs : ∀ i j, simV (f i j) = true := by intros; rfl) : XS z (tAug i t (rI cd f)) g m E := fun O σ H R D k => by
  obtain ⟨v, e, q⟩ := R.sl i _ hg
  cases q
  exact ⟨_, e, h O σ H R _ fun m1 d v H1 ⟨b, e, hc, c⟩ R1 l1 q1 => by subst e; cases q1; exact ⟨_, _, rfl, rfl, hc, k.nx _ _ _ _ _ c (R1.set i (rp_vd (hs _ _))) (l1.z R.po)⟩⟩
/-! own lists -/
theorem Real.putz {O : List Addr} {σ : L2.St} {H H' : Hp} {p : Addr} {ws : List V} (po : p ∈ O) (l : Lz O H O H') : Lz O H O (upd H' p (.lst ws)) := ⟨by rw [hid_upd po]; exact l.le, l.new⟩
theorem XS.app {K : PySem.W.Frag} {T : String} {i : Nat} {ds : List Dat} (hT : T = "list") (hg : g[i]? = some (.ow ds)) (h : XA z tr g m fun m1 es => dApp ds.length es fun d => E.nx (g.set i (.ow (ds ++ [d]))) m1) : XS z (tDrop (tBM K T rAppend (tVar i) tr)) g m E := fun O σ H R D k => by
  obtain ⟨p, vs, e, po, pG, hp, q⟩ := R.sl i _ hg
  refine ⟨_, e, .inl ⟨hT, _, SqL.of hp⟩, h O σ H R _ fun m1 es us H1 ⟨d, e1, hl, c⟩ R1 l1 q1 => ?_⟩
  subst e1
  cases q1 with
  | cons r t =>
    cases t
    have hp1 := l1.lst (fun n => pG (R.pg p n)) hp
    have q' := q.mono (l1.hid R.po)
    exact ⟨p, vs, _, rfl, rfl, hp1, small1000 (by rw [q.length]; exact hl), k.nx _ _ _ _ _ c (R1.put hg e (q'.append (.cons r .nil))) (Real.putz (σ := σ) po (l1.z R.po))⟩
theorem XS.setI {i : Nat} {ds : List Dat} (hg : g[i]? = some (.ow ds)) (h : XE z t g m fun m1 d => XE z tb g m1 fun m2 e => dPut ds.length e fun j => E.nx (g.set i (.ow (ds.set j d))) m2) : XS z (tAsg t (gSub (tVar i) tb rSetL)) g m E := fun O σ H R D k =>
  h O σ H R _ fun m1 d v H1 c1 R1 l1 q1 => by
    obtain ⟨p, vs, e, po, pG, hp, q⟩ := R1.sl i _ hg
    refine ⟨_, e, c1 O σ H1 R1 _ fun m2 d2 y H2 ⟨n, j, e2, hj, c⟩ R2 l2 q2 => ?_⟩
    subst e2; cases q2
    have hp1 := l2.lst (fun n => pG (R1.pg p n)) hp
    have q' := q.mono (l2.hid R1.po)
    exact ⟨p, vs, n, j, rfl, rfl, hp1, by rw [q.length]; exact hj, k.nx _ _ _ _ _ c (R2.put hg e (q'.set (q1.mono (l2.hid R1.po)) j)) (Real.putz (σ := σ) po ((l1.trans l2).z R.po))⟩
theorem XS.ext {i : Nat} {ds : List Dat} (hg : g[i]? = some (.ow ds)) (h : XE z t g m fun m1 d => dExt ds.length d fun es => E.nx (g.set i (.ow (ds ++ es))) m1) : XS z (tAug i t rExt2) g m E := fun O σ H R D k => by
  obtain ⟨p, vs, e, po, pG, hp, q⟩ := R.sl i _ hg
  refine ⟨_, e, h O σ H R _ fun m1 d v H1 hD R1 l1 q1 => ?_⟩
  unfold dExt at hD
  obtain ⟨es, e1, hl, c⟩ := hD
  subst e1
  cases q1 with
  | lst hb r =>
    have hp1 := l1.lst (fun n => pG (R.pg p n)) hp
    have q' := q.mono (l1.hid R.po)
    refine ⟨p, _, vs, _, rfl, rfl, hp1, (hid_some hb).2, by rw [q.length, r.length]; exact Nat.le_of_lt (small1000 hl), ?_⟩
    have R2 := R1.put hg e (q'.append r)
    have eσ : σ.set i (some (.ref p)) = σ := by
      refine List.ext_getElem? fun n => ?_
      by_cases en : i = n
      · subst en
        rw [List.getElem?_set_self (by rw [R.len]; exact (List.getElem?_eq_some_iff.mp hg).1), e]
      · rw [List.getElem?_set_ne en]
    show D.nx (σ.set i (some (.ref p))) _
    rw [eσ]
    exact k.nx _ _ _ _ _ c R2 (Real.putz (σ := σ) po (l1.z R.po))
theorem XS.frz {i : Nat} {ds : List Dat} (hg : g[i]? = some (.ow ds)) (h : XS z ts (g.set i (.dt (.lst ds))) m E) : XS z ts g m E := fun O σ H R D k => by
  obtain ⟨p, vs, e, po, pG, hp, q⟩ := R.sl i _ hg
  have l : i < g.length := (List.getElem?_eq_some_iff.mp hg).1
  have sub : ∀ q ∈ O.filter (fun b => decide (b ≠ p)), q ∈ O := fun q h => (List.mem_filter.mp h).1
  obtain ⟨O', R', sb⟩ : ∃ O', Real z O' (g.set i (.dt (.lst ds))) m σ H ∧ ∀ q ∈ O', q ∈ O := by
    obtain ⟨O', R'⟩ := R.frzO hg
    exact ⟨O', R'⟩
  exact h O' σ H R' D (k.mono ⟨hid_sub sb, fun q h => .inl (sb q h)⟩)
/-- return of an own list: a new one -/
theorem XS.retO {i : Nat} {ds : List Dat} (hg : g[i]? = some (.ow ds)) (c : E.rn m ds) : XS z (tRet (tVar i)) g m E := fun O σ H R D k => by
  obtain ⟨p, vs, e, po, pG, hp, q⟩ := R.sl i _ hg
  refine ⟨_, e, ?_⟩
  have l : i < g.length := (List.getElem?_eq_some_iff.mp hg).1
  obtain ⟨O', R', np, hO, eh⟩ := R.cut hg e
  refine k.rn O' (g.set i .un) m σ ds p H c R' np ?_ ⟨vs, hp, by rw [eh]; exact q⟩
  rcases R.new p po with n | n
  · exact absurd n pG
  · exact n
end
end My

namespace My
open PySem PySem.Spec PyProof.Rows L2
open C8 (Cal pe_c pe_gc)
/-! ### walks, loops, comprehensions -/
/-- a walk over data, from H1 on -/
def WalkOk (O : List Addr) (J : It) (ds : List Dat) (H1 : Hp) : Prop := ∀ (O' : List Addr) (i : Nat) (H' : Hp), Lz O H1 O' H' → (∀ p ∈ O', ∃ o, H' p = some o) →
  (∀ d, ds[i]? = some d → J.go i H' ∧ ∀ x H'', J.yld i H' x H'' → Le H' H'' ∧ Rp (hid O' H'') x d) ∧ (ds.length ≤ i → J.stop i H')
def XI (z : Cz) (wi : TI) (g : List Sl) (m : Nat) (C : Nat → List Dat → Prop) : Prop := ∀ (O : List Addr) (σ : L2.St) (H : Hp), Real z O g m σ H → ∀ R : It → Hp → Prop,
  (∀ m' ds J H1, C m' ds → Real z O g m' σ H1 → LeX z.P H H1 → WalkOk O J ds H1 → R J H1) → wi σ H R
def dRg1 (es : List Dat) (C : Int → Prop) : Prop := ∃ j : Int, es = [.int j] ∧ -(2 ^ 62) ≤ j ∧ j < 2 ^ 62 ∧ C j
def dRg2 (es : List Dat) (C : Int → Int → Prop) : Prop := ∃ i j : Int, es = [.int i, .int j] ∧ (-(2 ^ 62) ≤ i ∧ i < 2 ^ 62 ∧ -(2 ^ 62) ≤ j ∧ j < 2 ^ 62) ∧ C i j
def dRg3 (es : List Dat) (C : Int → Int → Nat → Prop) : Prop := ∃ (i j c : Int) (n : Nat), es = [.int i, .int j, .int c] ∧ RgC i j c n ∧ C i c n
def dEnum (es : List Dat) (C : List Dat → Prop) : Prop := ∃ ds, es = [.lst ds] ∧ C ds
def dZip (fs : List Dat) (C : List Dat → List Dat → Prop) : Prop := ∃ ds es, fs = [.lst ds, .lst es] ∧ C ds es
def dZipS (fs : List Dat) (C : List Dat → List Dat → Prop) : Prop := ∃ ds es, fs = [.lst ds, .lst es] ∧ ds.length = es.length ∧ C ds es
section
variable {z : Cz} {g : List Sl} {m : Nat} {C : Nat → Dat → Prop} {CL : Nat → List Dat → Prop} {CT : Nat → Bool → Prop} {t ta tb tc te : TE} {tr : TA} {tt tu : TT} {ts us : TS} {E : DE} {wi : TI} {gt : TG} {K : PySem.W.Frag}
theorem RpL.none {H : Hp} {vs : List V} {ds : List Dat} (r : RpL H vs ds) {i : Nat} (h : ds.length ≤ i) : vs.length ≤ i := by rw [r.length]; exact h
theorem XI.list (h : XE z ta g m fun m1 d => dLst d (CL m1)) : XI z (iList K ta) g m CL := fun O σ H R Q k => h O σ H R _ fun m1 d v H1 ⟨ds, e, c⟩ R1 l1 q1 => by
  subst e
  cases q1 with
  | lst ha r =>
    obtain ⟨na, ha'⟩ := hid_some ha
    refine ⟨_, rfl, ⟨_, SqL.of ha'⟩, k m1 ds _ H1 c R1 l1 fun O' i H' lz hd => ?_⟩
    have ha2 := (hid_some (lz.le.lst ha)).2
    refine ⟨fun d hi => ?_, fun hi => ⟨_, SqL.of ha2, r.none hi⟩⟩
    obtain ⟨v, hv, rv⟩ := r.get hi
    refine ⟨⟨_, v, SqL.of ha2, hv⟩, fun x H'' ⟨e1, e2⟩ => ?_⟩
    subst e1
    have := e2 _ (SqL.of ha2)
    rw [hv] at this; cases this
    exact ⟨Le.refl _, rv.mono lz.le⟩
theorem XI.tup (h : XE z ta g m fun m1 d => dTup d (CL m1)) : XI z (iTup K ta) g m CL := fun O σ H R Q k => h O σ H R _ fun m1 d v H1 ⟨ds, e, c⟩ R1 l1 q1 => by
  subst e
  cases q1 with
  | tup ha r =>
    obtain ⟨na, ha'⟩ := hid_some ha
    refine ⟨_, rfl, ⟨_, SqT.of ha'⟩, k m1 ds _ H1 c R1 l1 fun O' i H' lz hd => ?_⟩
    have ha2 := (hid_some (lz.le.tup ha)).2
    refine ⟨fun d hi => ?_, fun hi => ⟨_, SqT.of ha2, r.none hi⟩⟩
    obtain ⟨v, hv, rv⟩ := r.get hi
    refine ⟨⟨_, v, SqT.of ha2, hv⟩, fun x H'' ⟨e1, e2⟩ => ?_⟩
    subst e1
    have := e2 _ (SqT.of ha2)
    rw [hv] at this; cases this
    exact ⟨Le.refl _, rv.mono lz.le⟩
def rngD (lo : Int) (n : Nat) : List Dat := (List.range n).map fun i => .int (lo + (i : Nat))
theorem rng_ok {O : List Addr} {lo : Int} {n : Nat} {H1 : Hp} : WalkOk O (Itr lo n) (rngD lo n) H1 := fun O' i H' lz hd => by
  have hl : (rngD lo n).length = n := by simp [rngD]
  refine ⟨fun d hi => ?_, fun hi => by rw [hl] at hi; exact hi⟩
  have hlt : i < n := by rw [← hl]; exact (List.getElem?_eq_some_iff.mp hi).1
  have e : (rngD lo n)[i]? = some (.int (lo + (i : Nat))) := by simp [rngD, hlt]
  rw [e] at hi; cases hi
  refine ⟨hlt, fun x H'' ⟨e1, e2⟩ => ?_⟩
  subst e1 e2
  exact ⟨Le.refl _, .int _⟩
theorem XI.rng1 (h : XA z tr g m fun m1 es => dRg1 es fun j => CL m1 (rngD 0 j.toNat)) : XI z (iRng1 tr) g m CL := fun O σ H R Q k => h O σ H R _ fun m1 es vs H1 ⟨j, e, h1, h2, c⟩ R1 l1 q1 => by
  subst e
  cases q1 with
  | cons r t => cases r; cases t; exact ⟨j, rfl, h1, h2, k m1 _ _ H1 c R1 l1 rng_ok⟩
theorem XI.rng2 (h : XA z tr g m fun m1 es => dRg2 es fun i j => CL m1 (rngD i (j - i).toNat)) : XI z (iRng2 tr) g m CL := fun O σ H R Q k => h O σ H R _ fun m1 es vs H1 ⟨i, j, e, h1, c⟩ R1 l1 q1 => by
  subst e
  cases q1 with
  | cons r t => cases r; cases t with
    | cons r t => cases r; cases t; exact ⟨i, j, rfl, h1, k m1 _ _ H1 c R1 l1 rng_ok⟩
def rngC (lo c : Int) (n : Nat) : List Dat := (List.range n).map fun i => .int (lo + (i : Nat) * c)
theorem rngC_ok {O : List Addr} {lo c : Int} {n : Nat} {H1 : Hp} : WalkOk O (Itc lo c n) (rngC lo c n) H1 := fun O' i H' lz hd => by
  have hl : (rngC lo c n).length = n := by simp [rngC]
  refine ⟨fun d hi => ?_, fun hi => by rw [hl] at hi; exact hi⟩
  have hlt : i < n := by rw [← hl]; exact (List.getElem?_eq_some_iff.mp hi).1
  have e : (rngC lo c n)[i]? = some (.int (lo + (i : Nat) * c)) := by simp [rngC, hlt]
  rw [e] at hi; cases hi
  refine ⟨hlt, fun x H'' ⟨e1, e2⟩ => ?_⟩
  subst e1 e2
  exact ⟨Le.refl _, .int _⟩
theorem XI.rng3 (h : XA z tr g m fun m1 es => dRg3 es fun i c n => CL m1 (rngC i c n)) : XI z (iRng3 tr) g m CL := fun O σ H R Q k => h O σ H R _ fun m1 es vs H1 ⟨i, j, c', n, e, h1, c⟩ R1 l1 q1 => by
  subst e
  cases q1 with
  | cons r t => cases r; cases t with
    | cons r t => cases r; cases t with
      | cons r t => cases r; cases t; exact ⟨i, j, c', n, rfl, h1, k m1 _ _ H1 c R1 l1 rngC_ok⟩
def enumD (ds : List Dat) : List Dat := (List.range ds.length).zipWith (fun i d => .tup [.int (i : Nat), d]) ds
theorem enumD_at {ds : List Dat} {i : Nat} : (enumD ds)[i]? = (ds[i]?).map fun d => .tup [.int (i : Nat), d] := by
  unfold enumD
  rw [List.getElem?_zipWith]
  by_cases h : i < ds.length
  · rw [List.getElem?_range h, List.getElem?_eq_getElem h]; rfl
  · rw [List.getElem?_eq_none (by rw [List.length_range]; omega), List.getElem?_eq_none (by omega)]; rfl
theorem enumD_len {ds : List Dat} : (enumD ds).length = ds.length := by simp [enumD]
theorem rp_tup_new {O' : List Addr} {H' : Hp} {T : Addr} {vs : List V} {ds : List Dat} (hd : ∀ p ∈ O', ∃ o, H' p = some o) (n : H' T = none) (r : RpL (hid O' H') vs ds) : Le H' (upd H' T (.tup vs)) ∧ Rp (hid O' (upd H' T (.tup vs))) (.ref T) (.tup ds) := by
  have l : Le H' (upd H' T (.tup vs)) := .new n
  have nT : T ∉ O' := fun q => by obtain ⟨o, ho⟩ := hd T q; rw [n] at ho; cases ho
  exact ⟨l, .tup (by rw [hid_out nT]; exact upd_same) (r.mono l.hid)⟩
theorem XI.enum (h : XA z tr g m fun m1 es => dEnum es fun ds => CL m1 (enumD ds)) : XI z (iEnum K tr) g m CL := fun O σ H R Q k => h O σ H R _ fun m1 es vs H1 ⟨ds, e, c⟩ R1 l1 q1 => by
  subst e
  cases q1 with
  | cons r t =>
    cases t
    cases r with
    | lst ha r =>
      refine ⟨_, _, rfl, SqL.of (hid_some ha).2, k m1 _ _ H1 c R1 l1 fun O' i H' lz hd => ?_⟩
      have ha2 := (hid_some (lz.le.lst ha)).2
      rw [enumD_len]
      refine ⟨fun d hi => ?_, fun hi => ⟨_, SqL.of ha2, r.none hi⟩⟩
      rw [enumD_at] at hi
      cases e : ds[i]? with
      | none => rw [e] at hi; cases hi
      | some d' =>
        rw [e] at hi; cases hi
        obtain ⟨v, hv, rv⟩ := r.get e
        refine ⟨⟨_, v, SqL.of ha2, hv⟩, fun x H'' ⟨T, y, e1, n, e2, hy⟩ => ?_⟩
        subst e1 e2
        have := hy _ (SqL.of ha2)
        rw [hv] at this; cases this
        exact rp_tup_new hd n (.cons (.int _) (.cons (rv.mono lz.le) .nil))
def zipD (ds es : List Dat) : List Dat := ds.zipWith (fun d e => .tup [d, e]) es
theorem zipD_at {ds es : List Dat} {i : Nat} {d : Dat} (h : (zipD ds es)[i]? = some d) : ∃ x y, ds[i]? = some x ∧ es[i]? = some y ∧ d = .tup [x, y] := by
  unfold zipD at h
  rw [List.getElem?_zipWith] at h
  cases e1 : ds[i]? with
  | none => rw [e1] at h; cases h
  | some x =>
    cases e2 : es[i]? with
    | none => rw [e1, e2] at h; cases h
    | some y => rw [e1, e2] at h; cases h; exact ⟨x, y, rfl, rfl, rfl⟩
theorem XI.zip (h : XA z tr g m fun m1 fs => dZip fs fun ds es => CL m1 (zipD ds es)) : XI z (iZip K tr) g m CL := fun O σ H R Q k => h O σ H R _ fun m1 fs vs H1 ⟨ds, es, e, c⟩ R1 l1 q1 => by
  subst e
  cases q1 with
  | cons r t =>
    cases t with
    | cons r' t =>
      cases t
      cases r with
      | lst ha r =>
        cases r' with
        | lst hb r' =>
          refine ⟨_, _, _, _, rfl, SqL.of (hid_some ha).2, SqL.of (hid_some hb).2, k m1 _ _ H1 c R1 l1 fun O' i H' lz hd => ?_⟩
          have ha2 := (hid_some (lz.le.lst ha)).2
          have hb2 := (hid_some (lz.le.lst hb)).2
          refine ⟨fun d hi => ?_, fun hi => ⟨_, _, SqL.of ha2, SqL.of hb2, ?_⟩⟩
          · obtain ⟨x, y, hx, hy, rfl⟩ := zipD_at hi
            obtain ⟨v, hv, rv⟩ := r.get hx
            obtain ⟨u, hu, ru⟩ := r'.get hy
            refine ⟨⟨_, _, v, u, SqL.of ha2, SqL.of hb2, hv, hu⟩, fun x H'' ⟨T, y1, y2, e1, n, e2, h1, h2⟩ => ?_⟩
            subst e1 e2
            have e1 := h1 _ (SqL.of ha2)
            rw [hv] at e1; cases e1
            have e2 := h2 _ (SqL.of hb2)
            rw [hu] at e2; cases e2
            exact rp_tup_new hd n (.cons (rv.mono lz.le) (.cons (ru.mono lz.le) .nil))
          · rw [r.length, r'.length]
            simp only [zipD, List.length_zipWith] at hi
            omega
theorem XI.zipS (h : XA z tr g m fun m1 fs => dZipS fs fun ds es => CL m1 (zipD ds es)) : XI z (iZipS K tr) g m CL := fun O σ H R Q k => h O σ H R _ fun m1 fs vs H1 ⟨ds, es, e, hl, c⟩ R1 l1 q1 => by
  subst e
  cases q1 with
  | cons r t =>
    cases t with
    | cons r' t =>
      cases t
      cases r with
      | lst ha r =>
        cases r' with
        | lst hb r' =>
          refine ⟨_, _, _, _, rfl, SqL.of (hid_some ha).2, SqL.of (hid_some hb).2, k m1 _ _ H1 c R1 l1 fun O' i H' lz hd => ?_⟩
          have ha2 := (hid_some (lz.le.lst ha)).2
          have hb2 := (hid_some (lz.le.lst hb)).2
          refine ⟨fun d hi => ?_, fun hi => ⟨_, _, SqL.of ha2, SqL.of hb2, ?_⟩⟩
          · obtain ⟨x, y, hx, hy, rfl⟩ := zipD_at hi
            obtain ⟨v, hv, rv⟩ := r.get hx
            obtain ⟨u, hu, ru⟩ := r'.get hy
            refine ⟨⟨_, _, v, u, SqL.of ha2, SqL.of hb2, hv, hu⟩, fun x H'' ⟨T, y1, y2, e1, n, e2, h1, h2⟩ => ?_⟩
            subst e1 e2
            have e1 := h1 _ (SqL.of ha2)
            rw [hv] at e1; cases e1
            have e2 := h2 _ (SqL.of hb2)
            rw [hu] at e2; cases e2
            exact rp_tup_new hd n (.cons (rv.mono lz.le) (.cons (ru.mono lz.le) .nil))
          · rw [r.length, r'.length]
            simp only [zipD, List.length_zipWith] at hi
            omega
theorem XI.str (h : XE z ta g m fun m1 d => dStr d fun x => CL m1 (x.cps.toList.map fun c => .str ⟨#[c]⟩)) : XI z (iStr ta) g m CL := fun O σ H R Q k => h O σ H R _ fun m1 d v H1 ⟨x, e, c⟩ R1 l1 q1 => by
  subst e; cases q1
  refine ⟨_, rfl, k m1 _ _ H1 c R1 l1 fun O' i H' lz hd => ?_⟩
  refine ⟨fun d hi => ?_, fun hi => ?_⟩
  · rw [List.getElem?_map] at hi
    cases e : x.cps.toList[i]? with
    | none => rw [e] at hi; cases hi
    | some c =>
      rw [e] at hi; cases hi
      have hlt : i < x.cps.size := by
        have := (List.getElem?_eq_some_iff.mp e).1
        simpa using this
      refine ⟨hlt, fun y H'' ⟨e1, c', hc, e2⟩ => ?_⟩
      subst e1 e2
      have : c' = c := by
        have e3 : x.cps[i]? = some c := by rw [← Array.getElem?_toList]; exact e
        rw [hc] at e3; exact Option.some.inj e3
      subst this
      exact ⟨Le.refl _, .str _⟩
  · show x.cps.size ≤ i
    simpa using hi
/-- for -/
theorem XS.for (h : XI z wi g m fun m1 ds => ∃ I : Nat → List Sl → Nat → Prop, I 0 g m1 ∧ (∀ i d g2 m2, ds[i]? = some d → I i g2 m2 → XG z (List.range 64) gt d g2 fun g3 => XS z ts g3 m2 { E with nx := I (i + 1), ct := I (i + 1), bk := E.nx }) ∧ ∀ g2 m2, I ds.length g2 m2 → E.nx g2 m2) : XS z (tFor wi gt ts) g m E := fun O σ H R D k =>
  h O σ H R _ fun m1 ds J H1 ⟨I, h0, hs, hd⟩ R1 l1 w => by
    have k1 := k.mono (l1.z R.po)
    refine ⟨fun i n σ' H' => n = ds.length - i ∧ i ≤ ds.length ∧ ∃ O' g' m', I i g' m' ∧ Real z O' g' m' σ' H' ∧ Lz O H1 O' H', ⟨_, rfl, Nat.zero_le _, O, g, m1, h0, R1, Lz.refl _ _⟩, ?_⟩
    rintro i n σ' H' ⟨rfl, hi, O', g', m', hI, R', lz⟩
    obtain ⟨w1, w2⟩ := w O' i H' lz R'.dom
    by_cases hlt : i < ds.length
    · obtain ⟨go, yl⟩ := w1 _ (List.getElem?_eq_getElem hlt)
      refine .inr ⟨go, fun σ2 H2 => ∃ O2 g2 m2, I (i + 1) g2 m2 ∧ Real z O2 g2 m2 σ2 H2 ∧ Lz O H1 O2 H2, fun σ2 H2 q => ⟨_, by omega, rfl, hlt, q⟩, fun x H'' y => ?_⟩
      obtain ⟨l2, rx⟩ := yl x H'' y
      have lz2 : Lz O' H' O' H'' := (l2.x (P := [])).z (by simp)
      refine hs i _ g' m' (List.getElem?_eq_getElem hlt) hI O' m' σ' H'' x (R'.up l2) rx _ fun g3 σ3 c3 R3 _ => ?_
      refine c3 O' σ3 H'' R3 _ ⟨fun O4 g4 m4 σ4 H4 c4 R4 l4 => ⟨O4, g4, m4, c4, R4, (lz.trans lz2).trans l4⟩, k.rt, k.rn, fun O4 g4 m4 σ4 H4 c4 R4 l4 => k1.nx _ _ _ _ _ c4 R4 ((lz.trans lz2).trans l4), fun O4 g4 m4 σ4 H4 c4 R4 l4 => ⟨O4, g4, m4, c4, R4, (lz.trans lz2).trans l4⟩⟩
    · have e : i = ds.length := by omega
      subst e
      exact .inl ⟨w2 (Nat.le_refl _), k1.nx _ _ _ _ _ (hd _ _ hI) R' lz⟩
/-- while -/
theorem XS.whi (I : List Sl → Nat → Prop) (μ : List Sl → Nat) (h0 : I g m) (hs : ∀ g2 m2, I g2 m2 → XT z tt g2 m2 fun m3 b => if b = true then XS z ts g2 m3 { E with nx := fun g4 m4 => I g4 m4 ∧ μ g4 < μ g2, ct := fun g4 m4 => I g4 m4 ∧ μ g4 < μ g2, bk := E.nx } else E.nx g2 m3) : XS z (tWhile tt ts) g m E := fun O σ H R D k => by
  refine ⟨fun n σ' H' => ∃ O' g' m', n = μ g' ∧ I g' m' ∧ Real z O' g' m' σ' H' ∧ Lz O H O' H', ⟨_, O, g, m, rfl, h0, R, Lz.refl _ _⟩, ?_⟩
  rintro n σ' H' ⟨O', g', m', rfl, hI, R', lz⟩
  refine hs g' m' hI O' σ' H' R' _ fun m2 b H2 c R2 l2 => ?_
  have lz2 := lz.trans (l2.z R'.po)
  cases b with
  | true =>
    refine ⟨fun σ3 H3 => ∃ O3 g3 m3, (I g3 m3 ∧ μ g3 < μ g') ∧ Real z O3 g3 m3 σ3 H3 ∧ Lz O H O3 H3, fun σ3 H3 ⟨O3, g3, m3, ⟨q1, q2⟩, q3, q4⟩ => ⟨_, q2, O3, g3, m3, rfl, q1, q3, q4⟩, ?_⟩
    exact c O' σ' H2 R2 _ ⟨fun O4 g4 m4 σ4 H4 c4 R4 l4 => ⟨O4, g4, m4, c4, R4, lz2.trans l4⟩, k.rt, k.rn, fun O4 g4 m4 σ4 H4 c4 R4 l4 => k.nx _ _ _ _ _ c4 R4 (lz2.trans l4), fun O4 g4 m4 σ4 H4 c4 R4 l4 => ⟨O4, g4, m4, c4, R4, lz2.trans l4⟩⟩
  | false => exact k.nx _ _ _ _ _ c R2 lz2
/-! comprehensions -/
def wipeG (g : List Sl) : List Nat → List Sl
  | [] => g
  | v :: vs => (wipeG g vs).set v .un
theorem Real.wipe {O : List Addr} {σ : L2.St} {H : Hp} (R : Real z O g m σ H) : ∀ vs : List Nat, Real z O (wipeG g vs) m (L2.wipe σ vs) H
  | [] => R
  | v :: vs => (Real.wipe R vs).un v none
theorem wipe_wipe (σ : L2.St) (vs : List Nat) : wipe (wipe σ vs) vs = wipe σ vs := by
  have key : ∀ {ws : List Nat} {τ : L2.St}, (∀ i ∈ ws, ∀ x, τ[i]? = some x → x = none) → wipe τ ws = τ := fun {ws} => by
    induction ws with
    | nil => intro τ _; rfl
    | cons w ws ih =>
      intro τ h
      show (wipe τ ws).set w none = τ
      rw [ih fun i hi => h i (List.mem_cons_of_mem _ hi)]
      refine List.ext_getElem? fun n => ?_
      by_cases e : w = n
      · subst e
        by_cases l : w < τ.length
        · rw [List.getElem?_set_self l, List.getElem?_eq_getElem l]
          rw [h w (List.mem_cons_self ..) τ[w] (List.getElem?_eq_getElem l)]
        · rw [List.getElem?_eq_none (by rw [List.length_set]; omega), List.getElem?_eq_none (by omega)]
      · rw [List.getElem?_set_ne e]
  refine key fun i hi x hx => ?_
  cases x with
  | none => rfl
  | some y => exact absurd hi (wipe_some hx).2
/-- a comprehension changes nothing but its own new list -/
def WalkC (P O : List Addr) (J : It) (ds : List Dat) (H1 : Hp) : Prop := ∀ (D : Addr) (i : Nat) (H' : Hp), H1 D = none → D ∉ O → LeX P H1 (hid [D] H') → (∀ p ∈ D :: O, ∃ o, H' p = some o) →
  (∀ d, ds[i]? = some d → J.go i H' ∧ ∀ x H'', J.yld i H' x H'' → Le H' H'' ∧ Rp (hid (D :: O) H'') x d) ∧ (ds.length ≤ i → J.stop i H')
def XIc (z : Cz) (wi : TI) (g : List Sl) (m : Nat) (C : Nat → List Dat → Prop) : Prop := ∀ (O : List Addr) (σ : L2.St) (H : Hp), Real z O g m σ H → ∀ R : It → Hp → Prop,
  (∀ m' ds J H1, C m' ds → Real z O g m' σ H1 → LeX z.P H H1 → WalkC z.P O J ds H1 → R J H1) → wi σ H R
theorem XI.c (h : XI z wi g m CL) : XIc z wi g m CL := fun O σ H R Q k => h O σ H R Q fun m' ds J H1 c R1 l1 w => k m' ds J H1 c R1 l1 fun D i H' hD nO le' dom' => w (D :: O) i H' ⟨by
  have := le'.hid R1.po
  rw [hid_hid1] at this
  exact this, fun p hp => by
  rcases List.mem_cons.mp hp with e | hp
  · subst e; exact .inr hD
  · exact .inl hp⟩ dom'
theorem XN.lcC {vs : List Nat} (h : XIc z wi g m fun m1 ds => ∃ I : Nat → List Dat → Nat → Prop, I 0 [] m1 ∧ (∀ i d acc m2, ds[i]? = some d → I i acc m2 → XG z vs gt d (wipeG g vs) fun g3 => XT z tt g3 m2 fun m3 b => if b = true then XE z te g3 m3 fun m4 y => acc.length ≤ 1000 ∧ I (i + 1) (acc ++ [y]) m4 else I (i + 1) acc m3) ∧ ∀ acc m2, I ds.length acc m2 → CL m2 acc) : XN z (tLc wi gt tt te vs) g m CL := fun O σ H R Q k =>
  h O σ H R _ fun m1 ds J H1 ⟨I, h0, hs, hd⟩ R1 l1 w => fun D hD => by
    have nO : D ∉ O := fun q => by obtain ⟨o, ho⟩ := R1.dom D q; rw [hD] at ho; cases ho
    have nP : D ∉ z.P := fun q => nO (R1.po D q)
    have nB : z.B D = none := by
      cases q : z.B D with
      | none => rfl
      | some o => obtain ⟨o', ho⟩ := (R1.le D o nP q).get; rw [hD] at ho; cases ho
    have nH : H D = none := by
      cases q : H D with
      | none => rfl
      | some o => obtain ⟨o', ho⟩ := (l1 D o nP q).get; rw [hD] at ho; cases ho
    -- the state: all but D, as it was and more
    refine ⟨fun i n H' => n = ds.length - i ∧ i ≤ ds.length ∧ ∃ acc ws m', I i acc m' ∧ H' D = some (.lst ws) ∧ RpL (hid O (hid [D] H')) ws acc ∧ Real z O g m' σ (hid [D] H') ∧ LeX z.P H1 (hid [D] H'), ⟨_, rfl, Nat.zero_le _, [], [], m1, h0, upd_same, .nil, ?_, ?_⟩, ?_⟩
    · have e : hid [D] (upd H1 D (.lst [])) = H1 := (Fresh.of R1 hD .nil).2
      rw [e]; exact R1
    · have e : hid [D] (upd H1 D (.lst [])) = H1 := (Fresh.of R1 hD .nil).2
      rw [e]; exact LeX.refl _ _
    rintro i n H' ⟨rfl, hi, acc, ws, m', hI, hD', ra, R', le'⟩
    have dom' : ∀ p ∈ D :: O, ∃ o, H' p = some o := fun p hp => by
      rcases List.mem_cons.mp hp with e | hp
      · subst e; exact ⟨_, hD'⟩
      · obtain ⟨o, ho⟩ := R'.dom p hp; exact ⟨o, (hid_some ho).2⟩
    -- the body's state, D hidden
    have RD : Real z (D :: O) (wipeG g vs) m' (wipe σ vs) H' := by
      have a : Real z (D :: O) g m' σ H' := by
        refine ⟨dom', fun p hp => List.mem_cons_of_mem _ (R'.sub p hp), fun p hp => ?_, R'.pg, fun b hb => ?_, R'.le.trans (hid1_le H' D).x, R'.len, fun j x hj => ?_, R'.inj⟩
        · rcases List.mem_cons.mp hp with e | hp
          · subst e; exact .inr nB
          · exact R'.new p hp
        · obtain ⟨d, c, k, h, q⟩ := R'.pur b hb
          exact ⟨d, c, k, (hid_some h).2, q⟩
        · have q := R'.sl j x hj
          cases x with
          | un => trivial
          | dt d => obtain ⟨v, e, q⟩ := q; exact ⟨v, e, by rw [← hid_hid1]; exact q⟩
          | ow es =>
            obtain ⟨p, us, e, po, pg, hp, q⟩ := q
            exact ⟨p, us, e, List.mem_cons_of_mem _ po, pg, (hid_some hp).2, by rw [← hid_hid1]; exact q⟩
          | pu => exact q
          | raw v => exact q
      exact a.wipe vs
    -- back: the def's state once the body has run
    have back : ∀ {m2 : Nat} {σ2 : L2.St} {g2 : List Sl} {H2 : Hp}, LeX z.P H' H2 → Real z (D :: O) g2 m2 σ2 H2 → Real z O g m2 σ (hid [D] H2) ∧ LeX z.P H1 (hid [D] H2) ∧ RpL (hid O (hid [D] H2)) ws acc := fun {m2 σ2 g2 H2} l2 R2 => by
      have l3 : LeX z.P (hid [D] H') (hid [D] H2) := fun b o n hb => by
        obtain ⟨nb, hb⟩ := hid_some hb
        rw [hid_out nb]
        exact l2 b o n hb
      refine ⟨R'.lift l3 (fun b hb => ?_), le'.trans l3, ra.mono (l3.hid R1.po)⟩
      obtain ⟨d, c, k, h, q⟩ := R2.pur b hb
      exact ⟨d, c, k, by rw [hid_out (by simp; intro y; subst y; exact nP hb)]; exact h, q⟩
    obtain ⟨w1, w2⟩ := w D i H' hD nO le' dom'
    by_cases hlt : i < ds.length
    · obtain ⟨go, yl⟩ := w1 _ (List.getElem?_eq_getElem hlt)
      refine .inr ⟨go, fun H2 => ∃ acc ws m', I (i + 1) acc m' ∧ H2 D = some (.lst ws) ∧ RpL (hid O (hid [D] H2)) ws acc ∧ Real z O g m' σ (hid [D] H2) ∧ LeX z.P H1 (hid [D] H2), fun H2 q => ⟨_, by omega, rfl, hlt, q⟩, fun x H'' y => ?_⟩
      obtain ⟨l2, rx⟩ := yl x H'' y
      have RD2 := RD.up l2
      refine hs i _ acc m' (List.getElem?_eq_getElem hlt) hI (D :: O) m' (wipe σ vs) H'' x RD2 rx _ fun g3 σ3 c3 R3 w3 => ⟨by rw [w3, wipe_wipe], ?_⟩
      refine c3 (D :: O) σ3 H'' R3 _ fun m3 b H3 c R4 l4 => ?_
      have hD3 : H3 D = some (.lst ws) := l4.lst nP (l2.lst hD')
      have lx3 : LeX z.P H' H3 := l2.x.trans l4
      cases b with
      | false =>
        obtain ⟨r1, r2, r3⟩ := back lx3 R4
        exact ⟨acc, ws, m3, c, hD3, r3, r1, r2⟩
      | true =>
        refine c (D :: O) σ3 H3 R4 _ fun m4 yd v H4 ⟨hl, c4⟩ R5 l5 q5 => ?_
        have hD4 := l5.lst nP hD3
        obtain ⟨r1, r2, r3⟩ := back (lx3.trans l5) R5
        have e : hid [D] (upd H4 D (.lst (ws ++ [v]))) = hid [D] H4 := hid_upd (by simp)
        refine ⟨ws, hD4, small1000 (by rw [r3.length]; exact hl), acc ++ [yd], ws ++ [v], m4, c4, upd_same, ?_, by rw [e]; exact r1, by rw [e]; exact r2⟩
        rw [e]
        exact r3.append (.cons (by rw [hid_hid1]; exact q5) .nil)
    · have e : i = ds.length := by omega
      subst e
      refine .inl ⟨w2 (Nat.le_refl _), k m' acc D H' (hd _ _ hI) R' (l1.trans le') ⟨nO, nB, nH, ws, hD', ra⟩⟩
theorem XN.lc {vs : List Nat} (h : XI z wi g m fun m1 ds => ∃ I : Nat → List Dat → Nat → Prop, I 0 [] m1 ∧ (∀ i d acc m2, ds[i]? = some d → I i acc m2 → XG z vs gt d (wipeG g vs) fun g3 => XT z tt g3 m2 fun m3 b => if b = true then XE z te g3 m3 fun m4 y => acc.length ≤ 1000 ∧ I (i + 1) (acc ++ [y]) m4 else I (i + 1) acc m3) ∧ ∀ acc m2, I ds.length acc m2 → CL m2 acc) : XN z (tLc wi gt tt te vs) g m CL := XN.lcC h.c
end
end My

namespace My
open PySem PySem.Spec PyProof.Rows L2
open C8 (Cal pe_c pe_gc)
/-! ### defs, told of data -/
/-- an error that leaves: its class, its fields -/
structure Err where
  C : Addr
  fs : List (Str × Dat)
def ErrAt (O : List Addr) (H : Hp) (e : Err) (cls : Value) (d : Option Addr) : Prop := cls = .ref e.C ∧ ((e.fs = [] ∧ d = none) ∨ ∃ a fvs, d = some a ∧ a ∉ O ∧ H a = some (.xd fvs) ∧ RpF (hid O H) fvs e.fs)
abbrev WpD := List Dat → (Dat → Prop) → Prop
abbrev WpN := List Dat → (List Dat → Prop) → Prop
abbrev WpX := List Dat → (Dat → Prop) → (Err → Prop) → Prop
abbrev WpP := Nat → List Dat → (Nat → Dat → Prop) → Prop
def Dom (G : List Addr) (H : Hp) : Prop := ∀ p ∈ G, ∃ o, H p = some o
def spD (W : WpD) : Sp := fun vs H Q _ => ∃ (G : List Addr) (ds : List Dat) (C : Dat → Prop), Dom G H ∧ RpL (hid G H) vs ds ∧ W ds C ∧ ∀ d v H', C d → Le H H' → Rp (hid G H') v d → Q v H'
/-- the answer is a list made anew -/
def spN (W : WpN) : Sp := fun vs H Q _ => ∃ (G : List Addr) (ds : List Dat) (C : List Dat → Prop), Dom G H ∧ RpL (hid G H) vs ds ∧ W ds C ∧
  ∀ es p H', C es → Le H (hid [p] H') → H p = none → (∃ vs, H' p = some (.lst vs) ∧ RpL (hid G (hid [p] H')) vs es) → Q (.ref p) H'
/-- it may raise -/
def spX (W : WpX) : Sp := fun vs H Q E => ∃ (G : List Addr) (ds : List Dat) (C : Dat → Prop) (X : Err → Prop), Dom G H ∧ RpL (hid G H) vs ds ∧ W ds C X ∧ (∀ d v H', C d → Le H H' → Rp (hid G H') v d → Q v H') ∧
  ∀ e cls d H', X e → Le H H' → ErrAt G H' e cls d → E cls d H'
/-- the first argument is the purse -/
def spP (W : WpP) : Sp := fun vs H Q _ => ∃ (a : Addr) (us : List V) (G : List Addr) (m : Nat) (ds : List Dat) (C : Nat → Dat → Prop), vs = .ref a :: us ∧ a ∈ G ∧ Pur H a m ∧ Dom G H ∧ RpL (hid G H) us ds ∧ W m ds C ∧
  ∀ m' d v H', C m' d → LeX [a] H H' → Pur H' a m' → Rp (hid G H') v d → Q v H'
section
variable {z : Cz} {g : List Sl} {m : Nat} {C : Nat → Dat → Prop} {CL : Nat → List Dat → Prop} {tr : TA} {E : XK} {Es : L2.St → XK}
theorem XE.call {W : WpD} (h : XA z tr g m fun m1 ds => W ds (C m1)) : XE z (tCall (spD W) [] E tr) g m C := fun O σ H R Q k => h O σ H R _ fun m1 ds vs H1 c R1 l1 q1 => by
  show spD W (vs ++ []) H1 Q E
  rw [List.append_nil]
  exact ⟨O, ds, C m1, R1.dom, q1, c, fun d v H' c' l' q' => k m1 d v H' c' (R1.up l') (l1.trans l'.x) q'⟩
theorem XN.call {W : WpN} (h : XA z tr g m fun m1 ds => W ds (CL m1)) : XN z (tCall (spN W) [] E tr) g m CL := fun O σ H R Q k => h O σ H R _ fun m1 ds vs H1 c R1 l1 q1 => by
  show spN W (vs ++ []) H1 Q E
  rw [List.append_nil]
  refine ⟨O, ds, CL m1, R1.dom, q1, c, fun es p H' c' l' hp f => ?_⟩
  have no : p ∉ O := fun q => by obtain ⟨o, ho⟩ := R1.dom p q; rw [hp] at ho; cases ho
  have nP : p ∉ z.P := fun q => no (R1.po p q)
  have z0 : ∀ {B : Hp}, LeX z.P B H1 → B p = none := fun {B} l => by
    cases q : B p with
    | none => rfl
    | some o => obtain ⟨o', ho⟩ := (l p o nP q).get; rw [hp] at ho; cases ho
  exact k m1 es p H' c' (R1.up l') (l1.trans l'.x) ⟨no, z0 R1.le, z0 l1, f⟩
theorem XE.callP {W : WpP} {i : Nat} (hg : g[i]? = some .pu) (h : XA z tr g m fun m1 ds => W m1 ds C) : XE z (tCall (spP W) [] E (tCons (tVar i) tr)) g m C := fun O σ H R Q k => by
  obtain ⟨a, eP, e⟩ := R.sl i _ hg
  refine ⟨_, e, h O σ H R _ fun m1 ds vs H1 c R1 l1 q1 => ?_⟩
  show spP W (V.ref a :: vs ++ []) H1 Q E
  rw [List.append_nil]
  have ha : a ∈ z.P := by rw [eP]; simp
  refine ⟨a, vs, O, m1, ds, C, rfl, R1.po a ha, R1.pur a ha, R1.dom, q1, c, fun m' d v H' c' l' p' q' => ?_⟩
  rw [← eP] at l'
  exact k m' d v H' c' (R1.lift l' (fun b hb => by rw [eP] at hb; rw [List.mem_singleton.mp hb]; exact p')) (l1.trans l') q'
/-- a call that may raise, the wish Es at the state -/
theorem XE.callX {W : WpX} {X : Nat → Err → Prop} (hX : ∀ O σ m' H' e cls d, X m' e → Real z O g m' σ H' → ErrAt O H' e cls d → Es σ cls d H') (h : XA z tr g m fun m1 ds => W ds (C m1) (X m1)) : XE z (tCallS (spX W) Es tr) g m C := fun O σ H R Q k => h O σ H R _ fun m1 ds vs H1 c R1 l1 q1 =>
  ⟨O, ds, C m1, X m1, R1.dom, q1, c, fun d v H' c' l' q' => k m1 d v H' c' (R1.up l') (l1.trans l'.x) q', fun e cls d H' x l' q' => hX O σ m1 H' e cls d x (R1.up l') q'⟩
/-- where it doesn't raise -/
theorem XE.callX0 {W : WpX} (h : XA z tr g m fun m1 ds => W ds (C m1) fun _ => False) : XE z (tCall (spX W) [] E tr) g m C := fun O σ H R Q k => h O σ H R _ fun m1 ds vs H1 c R1 l1 q1 => by
  show spX W (vs ++ []) H1 Q E
  rw [List.append_nil]
  exact ⟨O, ds, C m1, fun _ => False, R1.dom, q1, c, fun d v H' c' l' q' => k m1 d v H' c' (R1.up l') (l1.trans l'.x) q', fun e cls d H' x l' q' => x.elim⟩
end
/-! a def's start -/
def argsG (n : Nat) (ds : List Dat) : List Sl := ds.map Sl.dt ++ List.replicate (n - ds.length) .un
theorem real_start {z : Cz} {H : Hp} {N : List Str} {vs : List V} {ds : List Dat} {m : Nat} (hB : z.B = H) (hd : Dom z.G H) (hp : ∀ p ∈ z.P, p ∈ z.G) (pur : ∀ p ∈ z.P, Pur H p m) (r : RpL (hid z.G H) vs ds) : Real z z.G (argsG N.length ds) m (L2.start N vs) H where
  dom := hd
  sub := fun _ h => h
  new := fun _ h => .inl h
  pg := hp
  pur := pur
  le := by rw [hB]; exact LeX.refl _ _
  len := by simp [L2.start, argsG, r.length]
  sl := fun i x h => by
    unfold argsG at h
    unfold L2.start
    by_cases l : i < ds.length
    · rw [List.getElem?_append_left (by rw [List.length_map]; exact l), List.getElem?_map, List.getElem?_eq_getElem l] at h
      cases h
      obtain ⟨v, hv, rv⟩ := r.get (List.getElem?_eq_getElem l)
      exact ⟨v, by rw [List.getElem?_append_left (by rw [List.length_map, r.length]; exact l), List.getElem?_map, hv]; rfl, rv⟩
    · rw [List.getElem?_append_right (by rw [List.length_map]; omega)] at h
      have := List.mem_of_getElem? h
      rw [(List.mem_replicate.mp this).2]
      trivial
  inj := fun i j p xs ys h => by
    unfold argsG at h
    by_cases l : i < ds.length
    · rw [List.getElem?_append_left (by rw [List.length_map]; exact l), List.getElem?_map, List.getElem?_eq_getElem l] at h
      cases h
    · rw [List.getElem?_append_right (by rw [List.length_map]; omega)] at h
      have := List.mem_of_getElem? h
      exact absurd (List.mem_replicate.mp this).2 (fun z => nomatch z)
theorem start_cons {N : List Str} {a : Addr} {us : List V} (h : 0 < N.length) : L2.start N (.ref a :: us) = some (.ref a) :: L2.start N.tail us := by
  unfold L2.start
  cases N with
  | nil => simp at h
  | cons x N => simp
/-- with the purse ahead -/
theorem Real.purse {z : Cz} {O : List Addr} {g : List Sl} {m : Nat} {σ : L2.St} {H : Hp} (R : Real z O g m σ H) {a : Addr} (e : z.P = [a]) : Real z O (.pu :: g) m (some (.ref a) :: σ) H where
  dom := R.dom
  sub := R.sub
  new := R.new
  pg := R.pg
  pur := R.pur
  le := R.le
  len := congrArg (· + 1) R.len
  sl := fun i x h => by
    cases i with
    | zero => cases (Option.some.inj h : _ = x); exact ⟨a, e, rfl⟩
    | succ i => exact R.sl i x (by simpa using h)
  inj := fun i j p xs ys hi hj si sj => by
    cases i with
    | zero => cases (Option.some.inj hi : _ = Sl.ow xs)
    | succ i =>
      cases j with
      | zero => cases (Option.some.inj hj : _ = Sl.ow ys)
      | succ j => exact congrArg (· + 1) (R.inj i j p xs ys (by simpa using hi) (by simpa using hj) (by simpa using si) (by simpa using sj))
section
variable {P : Program} {w : World} {K : PySem.W.Frag} {mg : Str → Option Value} {base : Heap} {x qual : Str} {st : Stmt} {f : Addr} {fd : FuncData} {N ps : List Str} {k : Nat}
theorem okD {W : WpD} (F : L2.Fun K x qual st f fd) (S : FnScope N ps (defScope st)) (hl : ∀ ds C, W ds C → ds.length = ps.length)
    (hb : ∀ (cdv : Value) (A : Around) (outer : List Env) (s : Shared) (H : Hp) (E : XK), Room k (A.deeper (envOfC qual (defScope st) s.heap.objs.size f cdv)) →
      ∃ t, PSs (cxOf CX0 P w K mg base N qual (defScope st) f cdv A outer s H E).nox (defBody st) t ∧ ∀ (z : Cz) (ds : List Dat) (C : Dat → Prop), W ds C → XS z t (argsG N.length ds) 0 { nx := fun _ _ => C .non, rt := fun _ d => C d, rn := fun _ es => C (.lst es) }) :
    FnOk P w K mg base CX0 (k + 1) f fd ps (spD W) := by
  refine F.ok S (fun vs H Q E h => ?_) (fun cdv A outer s H vs Q E hr h => ?_)
  · obtain ⟨G, ds, C, hd, r, hW, _⟩ := h
    rw [r.length]; exact hl ds C hW
  · obtain ⟨G, ds, C, hd, r, hW, hk⟩ := h
    obtain ⟨t, ht, hx⟩ := hb cdv A outer s H E hr
    refine ⟨t, ht, hx ⟨G, [], H⟩ ds C hW G _ H (real_start rfl hd (by simp) (by simp) r) _ ⟨fun O' g' m' σ' H' c R' l => ?_, fun O' g' m' σ' d v H' c R' q => ?_, fun O' g' m' σ' es p H' c R' n nb f => ?_, fun _ _ _ _ _ c => c.elim, fun _ _ _ _ _ c => c.elim⟩⟩
    · exact hk _ _ H' c (LeX.le R'.le) .non
    · exact hk d v H' c (LeX.le R'.le) (q.mono (hid_sub R'.sub))
    · obtain ⟨vs, hp, q⟩ := f
      have l := hid1_le H' p
      refine hk _ _ H' c ((LeX.le R'.le).trans l) (.lst (by rw [hid_out (fun z => n (R'.sub p z))]; exact hp) ((q.mono (hid_sub R'.sub)).mono l.hid))
theorem okN {W : WpN} (F : L2.Fun K x qual st f fd) (S : FnScope N ps (defScope st)) (hl : ∀ ds C, W ds C → ds.length = ps.length)
    (hb : ∀ (cdv : Value) (A : Around) (outer : List Env) (s : Shared) (H : Hp) (E : XK), Room k (A.deeper (envOfC qual (defScope st) s.heap.objs.size f cdv)) →
      ∃ t, PSs (cxOf CX0 P w K mg base N qual (defScope st) f cdv A outer s H E).nox (defBody st) t ∧ ∀ (z : Cz) (ds : List Dat) (C : List Dat → Prop), W ds C → XS z t (argsG N.length ds) 0 { nx := fun _ _ => False, rt := fun _ _ => False, rn := fun _ es => C es }) :
    FnOk P w K mg base CX0 (k + 1) f fd ps (spN W) := by
  refine F.ok S (fun vs H Q E h => ?_) (fun cdv A outer s H vs Q E hr h => ?_)
  · obtain ⟨G, ds, C, hd, r, hW, _⟩ := h
    rw [r.length]; exact hl ds C hW
  · obtain ⟨G, ds, C, hd, r, hW, hk⟩ := h
    obtain ⟨t, ht, hx⟩ := hb cdv A outer s H E hr
    refine ⟨t, ht, hx ⟨G, [], H⟩ ds C hW G _ H (real_start rfl hd (by simp) (by simp) r) _ ⟨fun _ _ _ _ _ c => c.elim, fun _ _ _ _ _ _ _ c => c.elim, fun O' g' m' σ' es p H' c R' n nb f => ?_, fun _ _ _ _ _ c => c.elim, fun _ _ _ _ _ c => c.elim⟩⟩
    obtain ⟨vs, hp, q⟩ := f
    exact hk es p H' c (LeX.le R'.le) nb ⟨vs, hp, q.mono (hid_sub R'.sub)⟩
theorem okX {W : WpX} (F : L2.Fun K x qual st f fd) (S : FnScope N ps (defScope st)) (hl : ∀ ds C X, W ds C X → ds.length = ps.length)
    (hb : ∀ (cdv : Value) (A : Around) (outer : List Env) (s : Shared) (H : Hp) (E : XK), Room k (A.deeper (envOfC qual (defScope st) s.heap.objs.size f cdv)) →
      ∃ t, PSs (cxOf (L2.CX P w) P w K mg base N qual (defScope st) f cdv A outer s H E) (defBody st) t ∧ ∀ (z : Cz) (ds : List Dat) (C : Dat → Prop) (X : Err → Prop), (∀ O g m σ H' e cls d, X e → Real z O g m σ H' → ErrAt O H' e cls d → E cls d H') → W ds C X →
        XS z t (argsG N.length ds) 0 { nx := fun _ _ => C .non, rt := fun _ d => C d, rn := fun _ es => C (.lst es) }) :
    FnOk P w K mg base (L2.CX P w) (k + 1) f fd ps (spX W) := by
  refine F.okX S (fun vs H Q E h => ?_) (fun cdv A outer s H vs Q E hr h => ?_)
  · obtain ⟨G, ds, C, X, hd, r, hW, _⟩ := h
    rw [r.length]; exact hl ds C X hW
  · obtain ⟨G, ds, C, X, hd, r, hW, hk, hx'⟩ := h
    obtain ⟨t, ht, hx⟩ := hb cdv A outer s H E hr
    refine ⟨t, ht, hx ⟨G, [], H⟩ ds C X (fun O g m σ H' e cls d x R' q => ?_) hW G _ H (real_start rfl hd (by simp) (by simp) r) _ ⟨fun O' g' m' σ' H' c R' l => ?_, fun O' g' m' σ' d v H' c R' q => ?_, fun O' g' m' σ' es p H' c R' n nb f => ?_, fun _ _ _ _ _ c => c.elim, fun _ _ _ _ _ c => c.elim⟩⟩
    · refine hx' e cls d H' x (LeX.le R'.le) ⟨q.1, ?_⟩
      rcases q.2 with q | ⟨a, fvs, e1, n, ha, rf⟩
      · exact .inl q
      · exact .inr ⟨a, fvs, e1, fun z => n (R'.sub a z), ha, rf.mono (hid_sub R'.sub)⟩
    · exact hk _ _ H' c (LeX.le R'.le) .non
    · exact hk d v H' c (LeX.le R'.le) (q.mono (hid_sub R'.sub))
    · obtain ⟨vs, hp, q⟩ := f
      have l := hid1_le H' p
      refine hk _ _ H' c ((LeX.le R'.le).trans l) (.lst (by rw [hid_out (fun z => n (R'.sub p z))]; exact hp) ((q.mono (hid_sub R'.sub)).mono l.hid))
theorem okP {W : WpP} (F : L2.Fun K x qual st f fd) (S : FnScope N ps (defScope st)) (hN : 0 < N.length) (hl : ∀ m ds C, W m ds C → ds.length + 1 = ps.length)
    (hb : ∀ (cdv : Value) (A : Around) (outer : List Env) (s : Shared) (H : Hp) (E : XK), Room k (A.deeper (envOfC qual (defScope st) s.heap.objs.size f cdv)) →
      ∃ t, PSs (cxOf CX0 P w K mg base N qual (defScope st) f cdv A outer s H E).nox (defBody st) t ∧ ∀ (z : Cz) (m : Nat) (ds : List Dat) (C : Nat → Dat → Prop), W m ds C → XS z t (.pu :: argsG N.tail.length ds) m { nx := fun _ m' => C m' .non, rt := fun m' d => C m' d, rn := fun m' es => C m' (.lst es) }) :
    FnOk P w K mg base CX0 (k + 1) f fd ps (spP W) := by
  refine F.ok S (fun vs H Q E h => ?_) (fun cdv A outer s H vs Q E hr h => ?_)
  · obtain ⟨a, us, G, m, ds, C, rfl, aG, hp, hd, r, hW, _⟩ := h
    have := hl m ds C hW
    rw [List.length_cons, r.length]; exact this
  · obtain ⟨a, us, G, m, ds, C, rfl, aG, hp, hd, r, hW, hk⟩ := h
    obtain ⟨t, ht, hx⟩ := hb cdv A outer s H E hr
    have R0 := (real_start (z := ⟨G, [a], H⟩) (N := N.tail) rfl hd (by intro p h; rw [List.mem_singleton.mp h]; exact aG) (by intro p h; rw [List.mem_singleton.mp h]; exact hp) r).purse rfl
    rw [← start_cons hN] at R0
    refine ⟨t, ht, hx ⟨G, [a], H⟩ m ds C hW G _ H R0 _ ⟨fun O' g' m' σ' H' c R' l => ?_, fun O' g' m' σ' d v H' c R' q => ?_, fun O' g' m' σ' es p H' c R' n nb f => ?_, fun _ _ _ _ _ c => c.elim, fun _ _ _ _ _ c => c.elim⟩⟩
    · exact hk _ _ _ H' c R'.le (R'.pur a (by simp)) .non
    · exact hk _ d v H' c R'.le (R'.pur a (by simp)) (q.mono (hid_sub R'.sub))
    · obtain ⟨vs, hp', q⟩ := f
      have l := hid1_le H' p
      have pu := R'.pur a (by simp)
      refine hk _ _ _ H' c (R'.le.trans l.x) ?_ (.lst (by rw [hid_out (fun z => n (R'.sub p z))]; exact hp') ((q.mono (hid_sub R'.sub)).mono l.hid))
      obtain ⟨d, c_, k_, h, q⟩ := pu
      exact ⟨d, c_, k_, l.lst h, q⟩
end
end My

/-! ### own rules: len(o), o == p, o != p by the class's own __len__, __eq__ -/
namespace My
open PySem PySem.Spec PyProof.Rows L2
theorem ns_some {K : PySem.W.Frag} {h : Heap} {N : Addr} {mg : Str → Option Value} {n : Str} {v : Value} (X : K.In h) (G : h.Ns N mg) (e : PySem.W.nsIn K N n = some (some v)) : mg n = some v := by
  obtain ⟨o, es, ep, ho, hd, _, hf⟩ := G
  unfold PySem.W.nsIn at e
  split at e
  · rename_i c d es' n' sl q
    have := X _ _ q
    rw [ho] at this
    cases this
    cases hd
    split at e
    · rename_i en he
      cases e
      rw [← hf]
      unfold nsFind findBy
      rw [← Array.find?_toList, he]
      rfl
    · split at e <;> cases e
  · cases e
section
variable {X : Cx} {n j : Nat} {C f : Addr} {fd : FuncData} {ps : List Str} {sp : Sp} {E : XK} {CX : CXT} {pins : List (Addr × Obj)} {σ : L2.St} {H : Hp} {s : Shared} {Q : VK} {A : Around}
theorem run_at (F : FnOk X.prog X.w X.K X.mg X.base CX n f fd ps sp) (hb : Binds X.K fd ps []) (hx : Passes CX X E) (sb : L2.Sub X n A) (I : Inv X pins σ H s) {vs : List V} {us : List Value} (r : Vals vs us) (h : sp vs H Q E) :
    wpAny (model X.prog X.w) A (call (.ref f) us) (EP X pins σ Q) X.xe s := by
  have e0 : Env0 X.prog X.w X.K X.mg X.base A X.stack s H := by
    have e := I.env0
    exact ⟨by rw [sb.fr]; exact e.frames, e.mod, e.bs, e.bsz, e.funs, e.frf, e.hok, e.bare⟩
  have hl := F.len _ _ _ _ h
  refine wpAny_call (codeAny_mono (F.run A X.stack s H ⟨us, []⟩ us vs Q E sb.room e0 (by
    have := hb s us I.kIn (by rw [← hl, r.length]; simp)
    simpa using this) r h) fun r s' hq => ?_)
  cases r with
  | error e => exact hx pins σ H s e s' I hq
  | ok fl =>
    cases fl with
    | ret w => exact I.after hq
    | next => exact False.elim hq
    | brk => exact False.elim hq
    | cont => exact False.elim hq
/-- a special method that the class tells -/
structure Spc (K : PySem.W.Frag) (C f : Addr) (name : Str) : Prop where
  at_ : PySem.W.findIn K (.ref C) name = some (some (.ref f))
  fn : PySem.W.isFn K (.ref f) = true
def rLenO (C : Addr) (sp : Sp) (E : XK) : List V → Hp → VK → Prop := fun xs H Q => ∃ a dx fs, xs = [.ref a] ∧ H a = some (.ins C dx fs) ∧ sp [.ref a] H (fun v H' => ∃ k : Int, v = .int k ∧ 0 ≤ k ∧ k < 2 ^ 63 ∧ Q (.int k) H') E
theorem call_lenO (F : FnOk X.prog X.w X.K X.mg X.base CX n f fd ps sp) (hs : Spc X.K C f "__len__") (hb : Binds X.K fd ps []) (hx : Passes CX X E) (hr : Room j X.A) (hk : n + 1 ≤ j) : CallR X (.builtin "len") (rLenO C sp E) := by
  intro pins s σ H xs us Q I r h
  obtain ⟨a, dx, fs, rfl, ha, h⟩ := h
  obtain ⟨u, rfl, rx⟩ := vals1 r
  cases rx
  obtain ⟨mA, J, _⟩ := ins_get I.hok ha
  obtain ⟨od, J, _⟩ := J.look
  obtain ⟨m, hF⟩ := I.fr
  have sb : L2.Sub X n X.A.in1 := L2.Sub.in1 ⟨hr.mono hk, rfl⟩
  refine PySem.W.len_K hF I.ok.mod.kin J hs.at_ hs.fn (thn (run_at F hb hx sb I (vs := [.ref a]) (.cons rfl .nil) h) fun v s1 ⟨y, H1, I1, r1, k, e, h0, h1, q⟩ => ?_)
  subst e
  obtain ⟨t, rfl⟩ := r1
  exact ⟨⟨h0, h1⟩, .int k, H1, I1.tok _, ⟨_, rfl⟩, q⟩
/-- == of two things, the left one of a class with its own __eq__ -/
def rEqO (C : Addr) (sp : Sp) (E : XK) : R2 := fun x y H Q => ∃ a b dx dy fs gs, x = .ref a ∧ y = .ref b ∧ H a = some (.ins C dx fs) ∧ H b = some (.ins C dy gs) ∧ sp [.ref a, .ref b] H (fun v H' => ∃ k : Bool, v = .bl k ∧ Q (.bl k) H') E
theorem op_eqO (F : FnOk X.prog X.w X.K X.mg X.base CX n f fd ps sp) (hs : Spc X.K C f "__eq__") (hb : Binds X.K fd ps []) (hx : Passes CX X E) (hr : Room j X.A) (hk : n ≤ j) : OpR X (compareOp .Eq) (rEqO C sp E) := by
  intro pins s σ H x y v u Q I rx ry h
  obtain ⟨a, b, dx, dy, fs, gs, rfl, rfl, ha, hb', h⟩ := h
  cases rx
  cases ry
  obtain ⟨mA, J, _⟩ := ins_get I.hok ha
  obtain ⟨mB, J', _⟩ := ins_get I.hok hb'
  obtain ⟨od, J, _⟩ := J.look
  obtain ⟨od', J', _⟩ := J'.look
  obtain ⟨m, hF⟩ := I.fr
  have sb : L2.Sub X n X.A := ⟨hr.mono hk, rfl⟩
  show wpAny (model X.prog X.w) X.A (richCompare .Eq (.ref a) (.ref b)) (EP X pins σ Q) X.xe s
  refine PySem.W.cmp_K (op := .Eq) (tb := .ref C) sb.room.units0 hF I.ok.mod.kin J J'.type (by simp [PySem.W.notFirst]) hs.at_ hs.fn (thn (run_at F hb hx sb I (vs := [.ref a, .ref b]) (.cons rfl (.cons rfl .nil)) h) fun v s1 ⟨y, H1, I1, r1, k, e, q⟩ => ?_)
  subst e
  cases r1
  exact ⟨.bl k, H1, I1, rfl, q⟩
/-- what is known of a class that has its own __eq__ and no __ne__ -/
structure OwnE (K : PySem.W.Frag) (C f : Addr) : Prop where
  cls : ∃ nm q N bs sn sub ab col dd k0 k1 k2 k3 k5, K.lookup C = some (excClassObj nm q C N bs [.type "object"] true sn sub ab col dd k0 k1 k2 k3 k5 "object.__new__") ∧ PySem.W.nsOkIn K N = true ∧ PySem.W.nsIn K N "__eq__" = some (some (.ref f)) ∧ PySem.W.nsIn K N "__ne__" = some none
  fn : ∃ of, K.lookup f = some of ∧ of.cls = .type "function"
theorem OwnE.ne {K : PySem.W.Frag} (o : OwnE K C f) {h : Heap} (X : K.In h) {x : Addr} {ox : Obj} (hx : h.get? x = some ox) (hc : ox.cls = .ref C) : h.OwnEqNoNe x C f "object" [.type "object"] := by
  obtain ⟨nm, q, N, bs, sn, sub, ab, col, dd, k0, k1, k2, k3, k5, hl, hN, he, hne⟩ := o.cls
  obtain ⟨of, hf, hfc⟩ := o.fn
  have G : h.Ns N (h.nsMap N) := .of_isNs (PySem.W.isNs_of_in X hN)
  refine ⟨ox, of, nm, q, N, bs, true, sn, sub, ab, col, dd, k0, k1, k2, k3, k5, "object.__new__", h.nsMap N, some (.builtin "object.__eq__"), hx, hc, X _ _ hl, G, ns_some X G he, X _ _ hf, hfc, PySem.F.mro_object, ?_, PySem.W.ns_none_of X G hne⟩
  rw [typeLookup_type, builtinLookup_eq_fast]; kernel_rfl
def rNeO (C : Addr) (sp : Sp) (E : XK) : R2 := fun x y H Q => ∃ a b dx dy fs gs, x = .ref a ∧ y = .ref b ∧ H a = some (.ins C dx fs) ∧ H b = some (.ins C dy gs) ∧ sp [.ref a, .ref b] H (fun v H' => ∃ k : Bool, v = .bl k ∧ Q (.bl (!k)) H') E
theorem op_neO (F : FnOk X.prog X.w X.K X.mg X.base CX n f fd ps sp) (o : OwnE X.K C f) (hb : Binds X.K fd ps []) (hx : Passes CX X E) (hr : Room j X.A) (hk : n + 1 ≤ j) : OpR X (compareOp .NotEq) (rNeO C sp E) := by
  intro pins s σ H x y v u Q I rx ry h
  obtain ⟨a, b, dx, dy, fs, gs, rfl, rfl, ha, hb', h⟩ := h
  cases rx
  cases ry
  obtain ⟨mA, J, _⟩ := ins_get I.hok ha
  obtain ⟨mB, J', _⟩ := ins_get I.hok hb'
  obtain ⟨od, J, _⟩ := J.look
  obtain ⟨od', J', _⟩ := J'.look
  have sb : L2.Sub X n X.A.in1 := L2.Sub.in1 ⟨hr.mono hk, rfl⟩
  have hu : X.A.units + 1 < cLine := (L2.Sub.in1 (n := 0) ⟨hr.mono (by omega), rfl⟩ : L2.Sub X 0 X.A.in1).room.units0
  obtain ⟨hh, g, d, t, os⟩ := s
  refine compareOp_ne_ownEq PySem.F.cmp_object (o.ne I.kIn J.at_ J.cls) J'.at_ J'.cls hu (thn (run_at F hb hx sb I (vs := [.ref a, .ref b]) (.cons rfl (.cons rfl .nil)) h) fun v s1 ⟨y, H1, I1, r1, k, e, q⟩ => ?_)
  subst e
  cases r1
  exact ⟨k, rfl, .bl (!k), H1, I1, rfl, q⟩
end
end My

/-! ### calls of defs and methods by places and by names, told of data -/
namespace My
open PySem PySem.Spec PyProof.Rows L2
/-- where a parameter's value comes from: a place, a name, the default -/
inductive Pk where
  | p (i : Nat) | k (i : Nat) | c (v : V)
def pickV (tm : List Pk) (vs zs : List V) : List V := tm.map fun
  | .p i => vs.getD i .non
  | .k i => zs.getD i .non
  | .c v => v
def pickD (tm : List Pk) (ds es : List Dat) : List Dat := tm.map fun
  | .p i => ds.getD i .non
  | .k i => es.getD i .non
  | .c v => vd v
def pkOk (n m : Nat) : Pk → Bool
  | .p i => decide (i < n)
  | .k i => decide (i < m)
  | .c v => simV v
theorem RpL.getD {H : Hp} : ∀ {vs : List V} {ds : List Dat} (i : Nat), RpL H vs ds → Rp H (vs.getD i .non) (ds.getD i .non)
  | _, _, _, .nil => .non
  | _, _, 0, .cons r _ => r
  | _, _, i + 1, .cons _ t => RpL.getD i t
theorem RpL.pick {H : Hp} {vs zs : List V} {ds es : List Dat} (r : RpL H vs ds) (q : RpL H zs es) {n m : Nat} : ∀ {tm : List Pk}, tm.all (pkOk n m) = true → RpL H (pickV tm vs zs) (pickD tm ds es)
  | [], _ => .nil
  | x :: tm, h => by
    have h' := and_t (show (pkOk n m x && tm.all (pkOk n m)) = true from h)
    refine .cons ?_ (RpL.pick r q h'.2)
    cases x with
    | p i => exact r.getD i
    | k i => exact q.getD i
    | c v => exact rp_vd h'.1
/-- a callee: its def at f, called with n places and the names ks -/
structure Kl (CX : CXT) (P : Program) (w : World) (K : PySem.W.Frag) (mg : Str → Option Value) (base : Heap) (k : Nat) (f : Addr) (sp : Sp) (n : Nat) (ks : List Str) (tm : List Pk) : Prop where
  ex : ∃ (fd : FuncData) (ps : List Str) (g : List Value → List Value → List Value), FnOk P w K mg base CX k f fd ps sp ∧ PySem.W.keepIn K (.ref f) = true ∧
    (∀ (s : Shared) (us ws : List Value), K.In s.heap → us.length = n → ws.length = ks.length → BindsTo s fd ⟨us, ks.zip ws⟩ (ps.zip (g us ws))) ∧
    (∀ {vs : List V} {us : List Value} {zs : List V} {ws : List Value}, vs.length = n → zs.length = ks.length → Vals vs us → Vals zs ws → Vals (pickV tm vs zs) (g us ws))
  ok : tm.all (pkOk n ks.length) = true
/-- a method of C -/
structure KMet (CX : CXT) (P : Program) (w : World) (K : PySem.W.Frag) (mg : Str → Option Value) (base : Heap) (k : Nat) (C : Addr) (x : Str) (sp : Sp) (n : Nat) (ks : List Str) (tm : List Pk) : Prop where
  ex : ∃ f, Cls K C ∧ Meth K C x f ∧ Kl CX P w K mg base k f sp n ks tm
/-- a def of the module -/
structure KDef (CX : CXT) (P : Program) (w : World) (K : PySem.W.Frag) (mg : Str → Option Value) (base : Heap) (k : Nat) (x : Str) (sp : Sp) (n : Nat) (ks : List Str) (tm : List Pk) : Prop where
  ex : ∃ f, mg x = some (.ref f) ∧ Kl CX P w K mg base k f sp n ks tm
def PsAt (CX : CXT) (X : Cx) (σ : L2.St) (E : XK) : Prop := ∀ (pins : List (Addr × Obj)) (H : Hp) (s : Shared) (e : Value) (s' : Shared), Inv X pins σ H s → CX X.stack H s E e s' → X.xe e s'
def tKc (sp : Sp) (n m : Nat) (tm : List Pk) (E : L2.St → XK) (t tk : TA) : TE := fun σ H Q => t σ H fun vs H1 => tk σ H1 fun zs H2 => vs.length = n ∧ zs.length = m ∧ sp (pickV tm vs zs) H2 Q (E σ)
def tKm (C : Addr) (x : Str) (sp : Sp) (n m : Nat) (tm : List Pk) (E : L2.St → XK) (to : TE) (t tk : TA) : TE := fun σ H Q => to σ H fun o H0 => ∃ a dx fs, o = .ref a ∧ H0 a = some (.ins C dx fs) ∧ fs.lookup x = none ∧
  t σ H0 fun vs H1 => tk σ H1 fun zs H2 => vs.length + 1 = n ∧ zs.length = m ∧ sp (pickV tm (o :: vs) zs) H2 Q (E σ)
section
variable {X : Cx} {CX : CXT} {k j n : Nat} {C f : Addr} {x : Str} {ks : List Str} {sp : Sp} {tm : List Pk} {E : L2.St → XK} {p pos apos : Pos} {o e : Expr} {es : List Expr} {kws : List Keyword} {to : TE} {t tk : TA} {pl : Sem Bool}
theorem run_kl (c : Kl CX X.prog X.w X.K X.mg X.base k f sp n ks tm) (hr : Room j X.A) (hk : k ≤ j) {pins : List (Addr × Obj)} {σ : L2.St} {H : Hp} {s : Shared} {Q : VK} {us ws : List Value} {vs zs : List V} (hx : PsAt CX X σ (E σ))
    (I : Inv X pins σ H s) (r : Vals vs us) (rz : Vals zs ws) (l1 : vs.length = n) (l2 : zs.length = ks.length) (h : sp (pickV tm vs zs) H Q (E σ)) : wpAny (model X.prog X.w) X.A (call (.ref f) us (ks.zip ws)) (EP X pins σ Q) X.xe s := by
  obtain ⟨fd, ps, g, F, _, to, rel⟩ := c.ex
  have r2 := rel l1 l2 r rz
  refine wpAny_call (codeAny_mono (F.run X.A X.stack s H ⟨us, ks.zip ws⟩ (g us ws) (pickV tm vs zs) Q (E σ) (hr.mono hk) I.env0 (to s us ws I.kIn (by rw [← r.length]; exact l1) (by rw [← rz.length]; exact l2)) r2 h) fun r s' hq => ?_)
  cases r with
  | error e => exact hx pins H s e s' I hq
  | ok fl =>
    cases fl with
    | ret u => exact I.after hq
    | next => exact False.elim hq
    | brk => exact False.elim hq
    | cont => exact False.elim hq
/-- x(a, .., k=b, ..) -/
theorem pe_kc (c : KDef CX X.prog X.w X.K X.mg X.base k x sp n ks tm) (hr : Room j X.A) (hk : k ≤ j) (hg : Gl X x) (hx : ∀ σ, PsAt CX X σ (E σ)) (ha : PA X (e :: es) t) (hkw : PK X kws tk)
    (hall : (backToKw pos (keywordEach kws X.env)).all (·.1.isSome) = true := by rfl) (hks : (backToKw pos (keywordEach kws X.env)).filterMap (·.1) = ks := by rfl) (hdb : (x == ("__debug__" : Str)) = false := by decide)
    (he : starEach (e :: es) X.env = (false, eval e X.env) :: starEach es X.env := by rfl) (hpl : ((backTo pos (starEach (e :: es) X.env)).any (·.1) || (backToKw pos (keywordEach kws X.env)).any (·.1.isNone)) = false := by rfl) :
    PE X (.Call (.Name x p) (e :: es) kws pos) (tKc sp n ks.length tm E t tk) := by
  obtain ⟨f, hm, c⟩ := c.ex
  obtain ⟨_, _, _, _, kp, _⟩ := id c.ex
  refine ⟨fun pins s σ H Q I h => ?_⟩
  refine wpAny_Call_Name_kw (ld_glob I hg hm ?_ hdb)
  refine PySem.W.callWith_KW (h₀ := X.base) I.ok.mod.kin kp hall (thn (ha.run pos pins s σ H _ I h) fun us s1 ⟨vs, H1, I1, r, q⟩ => ?_) hpl he
  refine thn (hkw.run pos pins s1 σ H1 _ I1 q) fun ws s2 ⟨zs, H2, I2, rz, l1, l2, q2⟩ => ⟨I2.kIn, ?_⟩
  rw [hks]
  exact run_kl c hr hk (hx σ) I2 r rz l1 l2 q2
theorem pe_kc0 (c : KDef CX X.prog X.w X.K X.mg X.base k x sp 0 ks tm) (hr : Room j X.A) (hk : k ≤ j) (hg : Gl X x) (hx : ∀ σ, PsAt CX X σ (E σ)) (hkw : PK X kws tk)
    (hall : (backToKw pos (keywordEach kws X.env)).all (·.1.isSome) = true := by rfl) (hks : (backToKw pos (keywordEach kws X.env)).filterMap (·.1) = ks := by rfl) (hdb : (x == ("__debug__" : Str)) = false := by decide)
    (hpl : ((backTo pos (starEach [] X.env)).any (·.1) || (backToKw pos (keywordEach kws X.env)).any (·.1.isNone)) = false := by rfl) :
    PE X (.Call (.Name x p) [] kws pos) (tKc sp 0 ks.length tm E tNil tk) := by
  obtain ⟨f, hm, c⟩ := c.ex
  obtain ⟨_, _, _, _, kp, _⟩ := id c.ex
  refine ⟨fun pins s σ H Q I h => ?_⟩
  refine wpAny_Call_Name_kw (ld_glob I hg hm ?_ hdb)
  refine PySem.W.callWith_KW0 (h₀ := X.base) I.ok.mod.kin kp hall ?_ hpl
  refine thn (hkw.run pos pins s σ H _ I h) fun ws s2 ⟨zs, H2, I2, rz, l1, l2, q2⟩ => ⟨I2.kIn, ?_⟩
  rw [hks]
  exact run_kl (us := []) (vs := []) c hr hk (hx σ) I2 .nil rz l1 l2 q2
/-- o.x(a, .., k=b, ..) -/
theorem pe_km (ho : PE X o to) (c : KMet CX X.prog X.w X.K X.mg X.base k C x sp n ks tm) (hr : Room j X.A) (hk : k ≤ j) (hx : ∀ σ, PsAt CX X σ (E σ)) (ha : PA X (e :: es) t) (hkw : PK X kws tk)
    (hall : (backToKw pos (keywordEach kws X.env)).all (·.1.isSome) = true := by rfl) (hks : (backToKw pos (keywordEach kws X.env)).filterMap (·.1) = ks := by rfl)
    (he : starEach (e :: es) X.env = (false, eval e X.env) :: starEach es X.env := by rfl) (hpl : ((backTo pos (starEach (e :: es) X.env)).any (·.1) || (backToKw pos (keywordEach kws X.env)).any (·.1.isNone)) = false := by rfl)
    (ht : eval (.Call (.Attribute o x apos) (e :: es) kws pos) X.env = (do
      let ov ← eval o X.env
      standAt apos.atName
      let (f, first) ← holding [ov] (getMethod ov x pl)
      callWith pos f first (backTo pos (starEach (e :: es) X.env)) (backToKw pos (keywordEach kws X.env))) := by rfl) :
    PE X (.Call (.Attribute o x apos) (e :: es) kws pos) (tKm C x sp n ks.length tm E to t tk) := by
  obtain ⟨f, cl, hm, c⟩ := c.ex
  refine ⟨fun pins s σ H Q I h => ?_⟩
  refine PySem.W.methodCall_KW (pl := pl) (thn (ho.run pins s σ H _ I h) fun u s1 ⟨y, H1, I1, rx, a, dx, fs, ex, ea, l, q⟩ => ?_) ht
  subst ex
  obtain rfl : u = Value.ref a := rx
  refine getmeth_ok I1 ea cl hm l ?_
  refine PySem.W.callWith_KW (first := [.ref a]) (h₀ := X.base) I.ok.mod.kin hm.kp hall (thn (ha.run pos pins s1 σ H1 _ I1 q) fun us s2 ⟨vs, H2, I2, r, q2⟩ => ?_) hpl he
  refine thn (hkw.run pos pins s2 σ H2 _ I2 q2) fun ws s3 ⟨zs, H3, I3, rz, l1, l2, q3⟩ => ⟨I3.kIn, ?_⟩
  rw [hks]
  exact run_kl (us := .ref a :: us) (vs := .ref a :: vs) c hr hk (hx σ) I3 (.cons rfl r) rz l1 l2 q3
/-- o.x(k=b, ..), o.x() -/
theorem pe_km0 (ho : PE X o to) (c : KMet CX X.prog X.w X.K X.mg X.base k C x sp 1 ks tm) (hr : Room j X.A) (hk : k ≤ j) (hx : ∀ σ, PsAt CX X σ (E σ)) (hkw : PK X kws tk)
    (hall : (backToKw pos (keywordEach kws X.env)).all (·.1.isSome) = true := by rfl) (hks : (backToKw pos (keywordEach kws X.env)).filterMap (·.1) = ks := by rfl)
    (hpl : ((backTo pos (starEach [] X.env)).any (·.1) || (backToKw pos (keywordEach kws X.env)).any (·.1.isNone)) = false := by rfl)
    (ht : eval (.Call (.Attribute o x apos) [] kws pos) X.env = (do
      let ov ← eval o X.env
      standAt apos.atName
      let (f, first) ← holding [ov] (getMethod ov x pl)
      callWith pos f first (backTo pos (starEach [] X.env)) (backToKw pos (keywordEach kws X.env))) := by rfl) :
    PE X (.Call (.Attribute o x apos) [] kws pos) (tKm C x sp 1 ks.length tm E to tNil tk) := by
  obtain ⟨f, cl, hm, c⟩ := c.ex
  refine ⟨fun pins s σ H Q I h => ?_⟩
  refine PySem.W.methodCall_KW (pl := pl) (thn (ho.run pins s σ H _ I h) fun u s1 ⟨y, H1, I1, rx, a, dx, fs, ex, ea, l, q⟩ => ?_) ht
  subst ex
  obtain rfl : u = Value.ref a := rx
  refine getmeth_ok I1 ea cl hm l ?_
  refine PySem.W.callWith_KW0 (first := [.ref a]) (h₀ := X.base) I.ok.mod.kin hm.kp hall ?_ hpl
  refine thn (hkw.run pos pins s1 σ H1 _ I1 q) fun ws s3 ⟨zs, H3, I3, rz, l1, l2, q3⟩ => ⟨I3.kIn, ?_⟩
  rw [hks]
  exact run_kl (us := [.ref a]) (vs := [.ref a]) c hr hk (hx σ) I3 (.cons rfl .nil) rz rfl l2 q3
end
theorem psAt0 {X : Cx} {σ : L2.St} {E : XK} : PsAt CX0 X σ E := fun _ _ _ _ _ _ h => h.elim
theorem psAtL {X : Cx} {σ : L2.St} : PsAt (L2.CX X.prog X.w) X σ E0 := fun pins H s e s' I h => passL pins σ H s e s' I h
/-! told of data -/
section
variable {z : Cz} {g : List Sl} {m n nk : Nat} {C : Nat → Dat → Prop} {CL : Nat → List Dat → Prop} {t tk : TA} {to : TE} {tm : List Pk} {E : L2.St → XK}
theorem XE.kc {W : WpD} (ok : tm.all (pkOk n nk) = true) (h : XA z t g m fun m1 ds => XA z tk g m1 fun m2 es => ds.length = n ∧ es.length = nk ∧ W (pickD tm ds es) (C m2)) : XE z (tKc (spD W) n nk tm E t tk) g m C := fun O σ H R Q k =>
  h O σ H R _ fun m1 ds vs H1 c1 R1 l1 q1 => c1 O σ H1 R1 _ fun m2 es zs H2 ⟨e1, e2, c⟩ R2 l2 q2 => by
    have q1' := q1.mono (l2.hid R1.po)
    exact ⟨by rw [q1.length]; exact e1, by rw [q2.length]; exact e2, O, _, C m2, R2.dom, q1'.pick q2 ok, c, fun d v H' c' l' q' => k m2 d v H' c' (R2.up l') ((l1.trans l2).trans l'.x) q'⟩
theorem XN.kc {W : WpN} (ok : tm.all (pkOk n nk) = true) (h : XA z t g m fun m1 ds => XA z tk g m1 fun m2 es => ds.length = n ∧ es.length = nk ∧ W (pickD tm ds es) (CL m2)) : XN z (tKc (spN W) n nk tm E t tk) g m CL := fun O σ H R Q k =>
  h O σ H R _ fun m1 ds vs H1 c1 R1 l1 q1 => c1 O σ H1 R1 _ fun m2 es zs H2 ⟨e1, e2, c⟩ R2 l2 q2 => by
    have q1' := q1.mono (l2.hid R1.po)
    refine ⟨by rw [q1.length]; exact e1, by rw [q2.length]; exact e2, O, _, CL m2, R2.dom, q1'.pick q2 ok, c, fun es p H' c' l' hp f => ?_⟩
    have no : p ∉ O := fun q => by obtain ⟨o, ho⟩ := R2.dom p q; rw [hp] at ho; cases ho
    have nP : p ∉ z.P := fun q => no (R2.po p q)
    have z0 : ∀ {B : Hp}, LeX z.P B H2 → B p = none := fun {B} l => by
      cases q : B p with
      | none => rfl
      | some o => obtain ⟨o', ho⟩ := (l p o nP q).get; rw [hp] at ho; cases ho
    exact k m2 es p H' c' (R2.up l') ((l1.trans l2).trans l'.x) ⟨no, z0 R2.le, z0 (l1.trans l2), f⟩
theorem XE.kcX {W : WpX} {X : Nat → Err → Prop} (ok : tm.all (pkOk n nk) = true) (hX : ∀ O σ m' H' e cls d, X m' e → Real z O g m' σ H' → ErrAt O H' e cls d → E σ cls d H') (h : XA z t g m fun m1 ds => XA z tk g m1 fun m2 es => ds.length = n ∧ es.length = nk ∧ W (pickD tm ds es) (C m2) (X m2)) : XE z (tKc (spX W) n nk tm E t tk) g m C := fun O σ H R Q k =>
  h O σ H R _ fun m1 ds vs H1 c1 R1 l1 q1 => c1 O σ H1 R1 _ fun m2 es zs H2 ⟨e1, e2, c⟩ R2 l2 q2 => by
    have q1' := q1.mono (l2.hid R1.po)
    exact ⟨by rw [q1.length]; exact e1, by rw [q2.length]; exact e2, O, _, C m2, X m2, R2.dom, q1'.pick q2 ok, c, fun d v H' c' l' q' => k m2 d v H' c' (R2.up l') ((l1.trans l2).trans l'.x) q', fun e cls d H' x l' q' => hX O σ m2 H' e cls d x (R2.up l') q'⟩
/-! methods -/
def IsIns (C : Addr) (x : Str) (d : Dat) : Prop := ∃ fs, d = .ins C fs ∧ cachF x = false ∧ fs.lookup x = none
theorem IsIns.get {H : Hp} {C : Addr} {x : Str} {d : Dat} {v : V} {O : List Addr} (h : IsIns C x d) (r : Rp (hid O H) v d) : ∃ a dx fs, v = .ref a ∧ H a = some (.ins C dx fs) ∧ fs.lookup x = none := by
  obtain ⟨fs, rfl, hc, hl⟩ := h
  cases r with
  | ins ha rf n => exact ⟨_, _, _, rfl, (hid_some ha).2, n x hc hl⟩
theorem XE.km {W : WpD} {Ca : Addr} {x : Str} (ok : tm.all (pkOk n nk) = true) (h : XE z to g m fun m0 d0 => IsIns Ca x d0 ∧ XA z t g m0 fun m1 ds => XA z tk g m1 fun m2 es => ds.length + 1 = n ∧ es.length = nk ∧ W (pickD tm (d0 :: ds) es) (C m2)) : XE z (tKm Ca x (spD W) n nk tm E to t tk) g m C := fun O σ H R Q k =>
  h O σ H R _ fun m0 d0 v0 H0 ⟨hi, c0⟩ R0 l0 q0 => by
    obtain ⟨a, dx, fs, ev, ha, hl⟩ := hi.get q0
    refine ⟨a, dx, fs, ev, ha, hl, c0 O σ H0 R0 _ fun m1 ds vs H1 c1 R1 l1 q1 => c1 O σ H1 R1 _ fun m2 es zs H2 ⟨e1, e2, c⟩ R2 l2 q2 => ?_⟩
    have q1' := RpL.cons (q0.mono ((l1.trans l2).hid R0.po)) (q1.mono (l2.hid R1.po))
    exact ⟨by rw [q1.length]; exact e1, by rw [q2.length]; exact e2, O, _, C m2, R2.dom, q1'.pick q2 ok, c, fun d v H' c' l' q' => k m2 d v H' c' (R2.up l') (((l0.trans l1).trans l2).trans l'.x) q'⟩
theorem XE.kmX {W : WpX} {X : Nat → Err → Prop} {Ca : Addr} {x : Str} (ok : tm.all (pkOk n nk) = true) (hX : ∀ O σ m' H' e cls d, X m' e → Real z O g m' σ H' → ErrAt O H' e cls d → E σ cls d H') (h : XE z to g m fun m0 d0 => IsIns Ca x d0 ∧ XA z t g m0 fun m1 ds => XA z tk g m1 fun m2 es => ds.length + 1 = n ∧ es.length = nk ∧ W (pickD tm (d0 :: ds) es) (C m2) (X m2)) : XE z (tKm Ca x (spX W) n nk tm E to t tk) g m C := fun O σ H R Q k =>
  h O σ H R _ fun m0 d0 v0 H0 ⟨hi, c0⟩ R0 l0 q0 => by
    obtain ⟨a, dx, fs, ev, ha, hl⟩ := hi.get q0
    refine ⟨a, dx, fs, ev, ha, hl, c0 O σ H0 R0 _ fun m1 ds vs H1 c1 R1 l1 q1 => c1 O σ H1 R1 _ fun m2 es zs H2 ⟨e1, e2, c⟩ R2 l2 q2 => ?_⟩
    have q1' := RpL.cons (q0.mono ((l1.trans l2).hid R0.po)) (q1.mono (l2.hid R1.po))
    exact ⟨by rw [q1.length]; exact e1, by rw [q2.length]; exact e2, O, _, C m2, X m2, R2.dom, q1'.pick q2 ok, c, fun d v H' c' l' q' => k m2 d v H' c' (R2.up l') (((l0.trans l1).trans l2).trans l'.x) q', fun e cls d H' x l' q' => hX O σ m2 H' e cls d x (R2.up l') q'⟩
theorem XN.km {W : WpN} {Ca : Addr} {x : Str} (ok : tm.all (pkOk n nk) = true) (h : XE z to g m fun m0 d0 => IsIns Ca x d0 ∧ XA z t g m0 fun m1 ds => XA z tk g m1 fun m2 es => ds.length + 1 = n ∧ es.length = nk ∧ W (pickD tm (d0 :: ds) es) (CL m2)) : XN z (tKm Ca x (spN W) n nk tm E to t tk) g m CL := fun O σ H R Q k =>
  h O σ H R _ fun m0 d0 v0 H0 ⟨hi, c0⟩ R0 l0 q0 => by
    obtain ⟨a, dx, fs, ev, ha, hl⟩ := hi.get q0
    refine ⟨a, dx, fs, ev, ha, hl, c0 O σ H0 R0 _ fun m1 ds vs H1 c1 R1 l1 q1 => c1 O σ H1 R1 _ fun m2 es zs H2 ⟨e1, e2, c⟩ R2 l2 q2 => ?_⟩
    have q1' := RpL.cons (q0.mono ((l1.trans l2).hid R0.po)) (q1.mono (l2.hid R1.po))
    refine ⟨by rw [q1.length]; exact e1, by rw [q2.length]; exact e2, O, _, CL m2, R2.dom, q1'.pick q2 ok, c, fun es p H' c' l' hp f => ?_⟩
    have no : p ∉ O := fun q => by obtain ⟨o, ho⟩ := R2.dom p q; rw [hp] at ho; cases ho
    have nP : p ∉ z.P := fun q => no (R2.po p q)
    have z0 : ∀ {B : Hp}, LeX z.P B H2 → B p = none := fun {B} l => by
      cases q : B p with
      | none => rfl
      | some o => obtain ⟨o', ho⟩ := (l p o nP q).get; rw [hp] at ho; cases ho
    exact k m2 es p H' c' (R2.up l') (((l0.trans l1).trans l2).trans l'.x) ⟨no, z0 R2.le, z0 ((l0.trans l1).trans l2), f⟩
/-- o.f, a field -/
theorem XE.fld {K : PySem.W.Frag} {Ca : Addr} {f : Str} (cl : Cls K Ca) (na : NoAttr K Ca f) (h : XE z to g m fun m1 d => ∃ fs x, d = .ins Ca fs ∧ fs.lookup f = some x ∧ C m1 x) : XE z (tFld K to f) g m C := fun O σ H R Q k =>
  h O σ H R _ fun m1 d v H1 ⟨fs, x, e, hl, c⟩ R1 l1 q1 => by
    subst e
    cases q1 with
    | ins ha rf n =>
      obtain ⟨u, hu, ru⟩ := rf.look hl
      exact ⟨_, Ca, _, _, u, rfl, (hid_some ha).2, cl, na, hu, k m1 x u H1 c R1 l1 ru⟩
end
end My

namespace My
open PySem PySem.Spec PyProof.Rows L2
open C8 (Cal pe_c pe_gc)
/-! ### single steps, for going through a text by one tactic -/
theorem go_I0 {f : Int → Int → V} {i j : Int} {C : Dat → Prop} (c : C (vd (f i j))) : dI0 f (.int i) (.int j) C := ⟨i, j, rfl, rfl, c⟩
theorem go_I {cd : Int → Int → Prop} {f : Int → Int → V} {i j : Int} {C : Dat → Prop} (hc : cd i j) (c : C (vd (f i j))) : dI cd f (.int i) (.int j) C := ⟨i, j, rfl, rfl, hc, c⟩
theorem go_ix {ds : List Dat} {j : Int} {x : Dat} {C : Dat → Prop} (h : atI ds j = some x) (c : C x) : dIx (.lst ds) (.int j) C := ⟨ds, j, x, rfl, rfl, h, c⟩
theorem go_ixT {ds : List Dat} {j : Int} {x : Dat} {C : Dat → Prop} (h : atI ds j = some x) (c : C x) : dIxT (.tup ds) (.int j) C := ⟨ds, j, x, rfl, rfl, h, c⟩
theorem go_eq {d e : Dat} {C : Dat → Prop} (h1 : isSc d = true) (h2 : isSc e = true) (h3 : scal (dv d) (dv e) = true) (c : C (.bl (eqS d e))) : dEq d e C := ⟨h1, h2, h3, c⟩
theorem go_ne {d e : Dat} {C : Dat → Prop} (h1 : isSc d = true) (h2 : isSc e = true) (h3 : scal (dv d) (dv e) = true) (c : C (.bl (!eqS d e))) : dNe d e C := ⟨h1, h2, h3, c⟩
theorem go_eqD {d e : Dat} {C : Dat → Prop} (h1 : Cmp d) (h2 : Cmp e) (c : C (.bl (eqD d e))) : dEqD d e C := ⟨h1, h2, c⟩
theorem go_neD {d e : Dat} {C : Dat → Prop} (h1 : Cmp d) (h2 : Cmp e) (c : C (.bl (!eqD d e))) : dNeD d e C := ⟨h1, h2, c⟩
theorem go_cat {xs ys : List Dat} {C : List Dat → Prop} (h : xs.length + ys.length ≤ 1000) (c : C (xs ++ ys)) : dCat (.lst xs) (.lst ys) C := ⟨xs, ys, rfl, rfl, h, c⟩
theorem go_rep {xs : List Dat} {k : Int} {C : List Dat → Prop} (h1 : -(2 ^ 63) ≤ k) (h2 : k < 2 ^ 63) (h : xs.length * k.toNat ≤ 1000) (c : C (List.replicate k.toNat xs).flatten) : dRep (.lst xs) (.int k) C := ⟨xs, k, rfl, rfl, h1, h2, h, c⟩
theorem go_un {f : Int → V} {i : Int} {C : Dat → Prop} (c : C (vd (f i))) : dUn f (.int i) C := ⟨i, rfl, c⟩
theorem go_int {i : Int} {C : Int → Prop} (c : C i) : dInt (.int i) C := ⟨i, rfl, c⟩
theorem go_lst {ds : List Dat} {C : List Dat → Prop} (c : C ds) : dLst (.lst ds) C := ⟨ds, rfl, c⟩
theorem go_tup {ds : List Dat} {C : List Dat → Prop} (c : C ds) : dTup (.tup ds) C := ⟨ds, rfl, c⟩
theorem go_str {x : Str} {C : Str → Prop} (c : C x) : dStr (.str x) C := ⟨x, rfl, c⟩
theorem go_bl {b : Bool} {C : Bool → Prop} (c : C b) : dBl (.bl b) C := ⟨b, rfl, c⟩
theorem go_ixO {ds : List Dat} {j : Int} {x : Dat} {C : Dat → Prop} (h : atI ds j = some x) (c : C x) : dIxO ds (.int j) C := ⟨j, x, rfl, h, c⟩
theorem go_put {n j : Nat} {k : Int} {C : Nat → Prop} (h : ixN n k = some j) (c : C j) : dPut n (.int k) C := ⟨k, j, rfl, h, c⟩
theorem go_ext {n : Nat} {es : List Dat} {C : List Dat → Prop} (h : n + es.length ≤ 1000) (c : C es) : dExt n (.lst es) C := by unfold dExt; exact ⟨es, rfl, h, c⟩
theorem go_app {n : Nat} {d : Dat} {C : Dat → Prop} (h : n ≤ 1000) (c : C d) : dApp n [d] C := ⟨d, rfl, h, c⟩
theorem go_rg1 {j : Int} {C : Int → Prop} (h : -(2 ^ 62) ≤ j ∧ j < 2 ^ 62) (c : C j) : dRg1 [.int j] C := ⟨j, rfl, h.1, h.2, c⟩
theorem go_rg2 {i j : Int} {C : Int → Int → Prop} (h : -(2 ^ 62) ≤ i ∧ i < 2 ^ 62 ∧ -(2 ^ 62) ≤ j ∧ j < 2 ^ 62) (c : C i j) : dRg2 [.int i, .int j] C := ⟨i, j, rfl, h, c⟩
theorem go_rg3 {i j c : Int} {n : Nat} {C : Int → Int → Nat → Prop} (h : RgC i j c n) (q : C i c n) : dRg3 [.int i, .int j, .int c] C := ⟨i, j, c, n, rfl, h, q⟩
theorem go_enum {ds : List Dat} {C : List Dat → Prop} (c : C ds) : dEnum [.lst ds] C := ⟨ds, rfl, c⟩
theorem go_zip {ds es : List Dat} {C : List Dat → List Dat → Prop} (c : C ds es) : dZip [.lst ds, .lst es] C := ⟨ds, es, rfl, c⟩
theorem go_zipS {ds es : List Dat} {C : List Dat → List Dat → Prop} (h : ds.length = es.length) (c : C ds es) : dZipS [.lst ds, .lst es] C := ⟨ds, es, rfl, h, c⟩
theorem go_len {ds : List Dat} {q : Prop} (h : Nat.ble ds.length 1000 = true) (c : q) : ds.length ≤ 1000 ∧ q := ⟨Nat.le_of_ble_eq_true h, c⟩
section
variable {z : Cz} {g : List Sl} {m : Nat} {C : Nat → Dat → Prop} {CL : Nat → List Dat → Prop} {CT : Nat → Bool → Prop} {t ta tb tc te : TE} {tr : TA} {tt tu : TT} {ts us : TS} {E : DE} {wi : TI} {gt : TG} {K : PySem.W.Frag}
/-- a loop, turn by turn -/
def XFor0 (z : Cz) (gt : TG) (ts : TS) (E : DE) : List Dat → List Sl → Nat → Prop
  | [], g, m => E.nx g m
  | d :: ds, g, m => XG z (List.range 64) gt d g fun g3 => XS z ts g3 m { E with nx := XFor0 z gt ts E ds, ct := XFor0 z gt ts E ds, bk := E.nx }
@[irreducible] def XFor (z : Cz) (gt : TG) (ts : TS) (E : DE) : List Dat → List Sl → Nat → Prop := XFor0 z gt ts E
theorem XFor_e : XFor z gt ts E = XFor0 z gt ts E := by delta XFor; rfl
theorem XFor.at {ds : List Dat} {i : Nat} {d : Dat} (h : ds[i]? = some d) : XFor z gt ts E (ds.drop i) g m ↔ XG z (List.range 64) gt d g fun g3 => XS z ts g3 m { E with nx := XFor z gt ts E (ds.drop (i + 1)), ct := XFor z gt ts E (ds.drop (i + 1)), bk := E.nx } := by
  obtain ⟨hl, e⟩ := List.getElem?_eq_some_iff.mp h
  rw [XFor_e, List.drop_eq_getElem_cons hl, e]
  exact Iff.rfl
theorem XS.forU (h : XI z wi g m fun m1 ds => XFor z gt ts E ds g m1) : XS z (tFor wi gt ts) g m E := XS.for fun O σ H R Q k => h O σ H R Q fun m1 ds J H1 c R1 l1 w =>
  k m1 ds J H1 ⟨fun i g2 m2 => XFor z gt ts E (ds.drop i) g2 m2, c, fun i d g2 m2 hi hI => XFor.at hi |>.mp hI, fun g2 m2 hI => by
    have hI : XFor z gt ts E (ds.drop ds.length) g2 m2 := hI
    rw [List.drop_length, XFor_e] at hI
    exact hI⟩ R1 l1 w
theorem XFor.nil (c : E.nx g m) : XFor z gt ts E [] g m := by rw [XFor_e]; exact c
theorem XFor.cons {d : Dat} {ds : List Dat} (h : XG z (List.range 64) gt d g fun g3 => XS z ts g3 m { E with nx := XFor z gt ts E ds, ct := XFor z gt ts E ds, bk := E.nx }) : XFor z gt ts E (d :: ds) g m := by
  rw [XFor_e] at h ⊢
  exact h
theorem XE.cmp {r : R2} {rd : Dat → Dat → (Dat → Prop) → Prop} (hr : DR2 r rd) (h : XE z ta g m fun m1 d1 => XE z tb g m1 fun m2 d2 => rd d1 d2 (C m2)) : XE z (tOp r ta tb) g m C := XE.op hr h
theorem XG.tupG {n : Nat} {gs : TGs} {ds : List Dat} {vs : List Nat} {k : List Sl → Prop} (hn : ds.length = n) (h : XGs z vs gs ds g k) : XG z vs (gTup K n gs) (.tup ds) g k := XG.tup ⟨ds, rfl, hn, h⟩
theorem XG.unlG {n : Nat} {gs : TGs} {ds : List Dat} {vs : List Nat} {k : List Sl → Prop} (hn : ds.length = n) (h : XGs z vs gs ds g k) : XG z vs (gUnl K n gs) (.lst ds) g k := XG.unl ⟨ds, rfl, hn, h⟩
def dLen (d : Dat) (C : Dat → Prop) : Prop := ∃ xs, seqOf d = some xs ∧ C (.int xs.length)
theorem XE.len1 (h : XE z ta g m fun m1 d => dLen d (C m1)) : XE z (tCB (fun xs H Q => ∃ p ys, xs = [.ref p] ∧ (SqL K H p ys ∨ SqT K H p ys) ∧ Q (.int ys.length) H) (tCons ta tNil)) g m C := XE.cb db_len (XA.cons fun O σ H R Q k => h O σ H R Q fun m1 d v H1 ⟨xs, e, c⟩ R1 l1 q1 => k m1 d v H1 (XA.nil ⟨d, xs, rfl, e, c⟩) R1 l1 q1)
theorem go_len1 {d : Dat} {xs : List Dat} {C : Dat → Prop} (h : seqOf d = some xs) (c : C (.int xs.length)) : dLen d C := ⟨xs, h, c⟩
theorem XE.len (h : XA z tr g m fun m1 ds => ∃ d xs, ds = [d] ∧ seqOf d = some xs ∧ C m1 (.int xs.length)) : XE z (tCB (fun xs H Q => ∃ p ys, xs = [.ref p] ∧ (SqL K H p ys ∨ SqT K H p ys) ∧ Q (.int ys.length) H) tr) g m C := XE.cb db_len h
/-- a list by its turns: each item gives one -/
theorem XN.map {vs : List Nat} (h : XI z wi g m fun m1 ds => ∃ f : Dat → Dat, ds.length ≤ 1000 ∧ (∀ d, d ∈ ds → XG z vs gt d (wipeG g vs) fun g3 => XE z te g3 m1 fun m4 y => m4 = m1 ∧ y = f d) ∧ CL m1 (ds.map f)) : XN z (tLc wi gt tYes te vs) g m CL := XN.lc fun O σ H R Q k => h O σ H R Q fun m1 ds J H1 ⟨f, hl, hb, c⟩ R1 l1 w =>
  k m1 ds J H1 ⟨fun i acc m2 => acc = (ds.take i).map f ∧ m2 = m1, ⟨rfl, rfl⟩, fun i d acc m2 hi ⟨e1, e2⟩ => by
    subst e1 e2
    have hd : d ∈ ds := List.mem_of_getElem? hi
    intro O m σ H v R q R' k'
    refine hb d hd O m σ H v R q R' fun g' σ' c' R'' w' => k' g' σ' (XT.yes ?_) R'' w'
    rw [if_pos rfl]
    intro O σ H R Q k
    refine c' O σ H R Q fun m' y v H' ⟨e1, e2⟩ => k m' y v H' ⟨?_, ?_, e1⟩
    · rw [List.length_map, List.length_take]; omega
    · rw [e2, take_more hi, List.map_append]; rfl, fun acc m2 ⟨e1, e2⟩ => by
    subst e1 e2
    rw [List.take_of_length_le (Nat.le_refl _)]
    exact c⟩ R1 l1 w
/-- a list by its turns, what it is known -/
theorem XN.to {vs : List Nat} (h : XI z wi g m fun m1 ds => ∃ out : List Dat, ds.length = out.length ∧ ds.length ≤ 1000 ∧ (∀ (i : Nat) (d o : Dat), ds[i]? = some d → out[i]? = some o → XG z vs gt d (wipeG g vs) fun g3 => XE z te g3 m1 fun m4 y => m4 = m1 ∧ y = o) ∧ CL m1 out) : XN z (tLc wi gt tYes te vs) g m CL := XN.lc fun O σ H R Q k => h O σ H R Q fun m1 ds J H1 ⟨out, hl, h1, hb, c⟩ R1 l1 w =>
  k m1 ds J H1 ⟨fun i acc m2 => acc = out.take i ∧ m2 = m1, ⟨rfl, rfl⟩, fun i d acc m2 hi ⟨e1, e2⟩ => by
    subst e1 e2
    have hlt : i < out.length := by rw [← hl]; exact (List.getElem?_eq_some_iff.mp hi).1
    have ho := List.getElem?_eq_getElem hlt
    intro O m σ H v R q R' k'
    refine hb i d _ hi ho O m σ H v R q R' fun g' σ' c' R'' w' => k' g' σ' (XT.yes ?_) R'' w'
    rw [if_pos rfl]
    intro O σ H R Q k
    refine c' O σ H R Q fun m' y v H' ⟨e1, e2⟩ => k m' y v H' ⟨?_, ?_, e1⟩
    · rw [List.length_take]; omega
    · rw [e2, take_more ho], fun acc m2 ⟨e1, e2⟩ => by
    subst e1 e2
    rw [hl, List.take_of_length_le (Nat.le_refl _)]
    exact c⟩ R1 l1 w
end
/-! ### classes with their own __len__, __eq__ -/
/-- a special method, called by what is built in -/
structure SpM (P : Program) (w : World) (K : PySem.W.Frag) (mg : Str → Option Value) (base : Heap) (k : Nat) (C : Addr) (name : Str) (sp : Sp) : Prop where
  ex : ∃ (f : Addr) (fd : FuncData) (ps : List Str), FnOk P w K mg base CX0 k f fd ps sp ∧ Spc K C f name ∧ Binds K fd ps []
structure SpE (P : Program) (w : World) (K : PySem.W.Frag) (mg : Str → Option Value) (base : Heap) (k : Nat) (C : Addr) (sp : Sp) : Prop where
  ex : ∃ (f : Addr) (fd : FuncData) (ps : List Str), FnOk P w K mg base CX0 k f fd ps sp ∧ Spc K C f "__eq__" ∧ Binds K fd ps [] ∧ OwnE K C f
section
variable {X : Cx} {C : Addr} {sp : Sp} {k j : Nat}
theorem call_lenS (c : SpM X.prog X.w X.K X.mg X.base k C "__len__" sp) (hr : Room j X.A) (hk : k + 1 ≤ j) : CallR X (.builtin "len") (rLenO C sp E0) := by
  obtain ⟨f, fd, ps, F, s, b⟩ := c.ex
  exact call_lenO F s b pass0 hr hk
theorem op_eqS (c : SpE X.prog X.w X.K X.mg X.base k C sp) (hr : Room j X.A) (hk : k ≤ j) : OpR X (compareOp .Eq) (rEqO C sp E0) := by
  obtain ⟨f, fd, ps, F, s, b, _⟩ := c.ex
  exact op_eqO F s b pass0 hr hk
theorem op_neS (c : SpE X.prog X.w X.K X.mg X.base k C sp) (hr : Room j X.A) (hk : k + 1 ≤ j) : OpR X (compareOp .NotEq) (rNeO C sp E0) := by
  obtain ⟨f, fd, ps, F, s, b, o⟩ := c.ex
  exact op_neO F o b pass0 hr hk
end
theorem ins_at {O : List Addr} {H : Hp} {v : V} {C : Addr} {fs : List (Str × Dat)} (r : Rp (hid O H) v (.ins C fs)) : ∃ a dx gs, v = .ref a ∧ H a = some (.ins C dx gs) := by
  cases r with
  | ins h _ _ => exact ⟨_, _, _, rfl, (hid_some h).2⟩
theorem db_lenO {C : Addr} {W : WpD} {E : XK} : DCB (rLenO C (spD W) E) (fun ds k => ∃ d fs, ds = [d] ∧ d = .ins C fs ∧ W [d] fun r => ∃ n : Int, r = .int n ∧ 0 ≤ n ∧ n < 2 ^ 63 ∧ k (.int n)) := fun O H xs ds k Q hd r ⟨d, fs, e1, e2, w⟩ c => by
  subst e1 e2
  cases r with
  | cons r t =>
    cases t
    obtain ⟨a, dx, gs, rfl, ha⟩ := ins_at r
    refine ⟨a, dx, gs, rfl, ha, O, _, _, hd, .cons r .nil, w, fun d v H' ⟨n, e, h0, h1, q⟩ l q' => ?_⟩
    subst e; cases q'
    exact ⟨n, rfl, h0, h1, c _ _ H' q l (.int n)⟩
theorem dr_eqO {C : Addr} {W : WpD} {E : XK} : DR2 (rEqO C (spD W) E) (fun d e k => ∃ fs gs, d = .ins C fs ∧ e = .ins C gs ∧ W [d, e] fun r => ∃ b : Bool, r = .bl b ∧ k (.bl b)) := fun O H x y d e k Q hd rx ry ⟨fs, gs, e1, e2, w⟩ c => by
  subst e1 e2
  obtain ⟨a, dx, us, rfl, ha⟩ := ins_at rx
  obtain ⟨b, dy, ws, rfl, hb⟩ := ins_at ry
  refine ⟨a, b, dx, dy, us, ws, rfl, rfl, ha, hb, O, _, _, hd, .cons rx (.cons ry .nil), w, fun d v H' ⟨n, e, q⟩ l q' => ?_⟩
  subst e; cases q'
  exact ⟨n, rfl, c _ _ H' q l (.bl n)⟩
theorem dr_neO {C : Addr} {W : WpD} {E : XK} : DR2 (rNeO C (spD W) E) (fun d e k => ∃ fs gs, d = .ins C fs ∧ e = .ins C gs ∧ W [d, e] fun r => ∃ b : Bool, r = .bl b ∧ k (.bl (!b))) := fun O H x y d e k Q hd rx ry ⟨fs, gs, e1, e2, w⟩ c => by
  subst e1 e2
  obtain ⟨a, dx, us, rfl, ha⟩ := ins_at rx
  obtain ⟨b, dy, ws, rfl, hb⟩ := ins_at ry
  refine ⟨a, b, dx, dy, us, ws, rfl, rfl, ha, hb, O, _, _, hd, .cons rx (.cons ry .nil), w, fun d v H' ⟨n, e, q⟩ l q' => ?_⟩
  subst e; cases q'
  exact ⟨n, rfl, c _ _ H' q l (.bl _)⟩
end My

namespace My
open PySem PySem.Spec PyProof.Rows L2
open C8 (Cal pe_c pe_gc)
/-! ### fractions as rational numbers -/
theorem den_nz (x : Rat) : (x.den : Int) ≠ 0 := by have := x.den_pos; omega
theorem low_rat {t b : Int} (hb : b ≠ 0) : low (t, b) = ((Rat.divInt t b).num, ((Rat.divInt t b).den : Int)) := by
  have e : (Rat.divInt t b).num * b = t * ((Rat.divInt t b).den : Int) := (Rat.divInt_eq_divInt_iff (den_nz _) hb).mp (Rat.num_divInt_den _)
  have := low_unique hb (by have := (Rat.divInt t b).den_pos; omega) (show Int.gcd (Rat.divInt t b).num ((Rat.divInt t b).den : Int) = 1 from (Rat.divInt t b).reduced) e.symm
  exact Prod.ext this.1 this.2
/-- a fraction, its two numbers -/
def nd (x : Rat) : Int × Int := (x.num, (x.den : Int))
theorem add_nd (x y : Rat) : addQ (nd x) (nd y) = nd (x + y) := by
  have h := low_rat (t := x.num * y.den + y.num * x.den) (b := x.den * y.den) (Int.mul_ne_zero (den_nz x) (den_nz y))
  rw [← Rat.divInt_add_divInt _ _ (den_nz x) (den_nz y), Rat.num_divInt_den, Rat.num_divInt_den] at h
  exact h
theorem mul_nd (x y : Rat) : mulQ (nd x) (nd y) = nd (x * y) := by
  have h := low_rat (t := x.num * y.num) (b := x.den * y.den) (Int.mul_ne_zero (den_nz x) (den_nz y))
  rw [← Rat.divInt_mul_divInt, Rat.num_divInt_den, Rat.num_divInt_den] at h
  exact h
/-- sizes of both numbers -/
def RSz (n : Nat) (x : Rat) : Prop := OkQ n (nd x)
theorem RSz.mono {n m : Nat} {x : Rat} (h : RSz n x) (l : n ≤ m) : RSz m x := OkQ.mono h l
theorem RSz.add {n m : Nat} {x y : Rat} (h : RSz n x) (l : RSz m y) : RSz (n + m + 1) (x + y) := by
  have := add_ok h l
  rw [add_nd] at this
  exact this
theorem RSz.mul {n m : Nat} {x y : Rat} (h : RSz n x) (l : RSz m y) : RSz (n + m) (x * y) := by
  have := mul_ok h l
  rw [mul_nd] at this
  exact this
theorem RSz.zero {n : Nat} (h : 1 ≤ n) : RSz n 0 := OkQ.mono (n := 1) ⟨by decide, (by decide : (0 : Int).natAbs < 2 ^ 1), (by decide : (1 : Int).natAbs < 2 ^ 1)⟩ h
theorem RSz.one {n : Nat} (h : 1 ≤ n) : RSz n 1 := OkQ.mono (n := 1) ⟨by decide, (by decide : (1 : Int).natAbs < 2 ^ 1), (by decide : (1 : Int).natAbs < 2 ^ 1)⟩ h
def frD (x : Rat) : Dat := .tup [.int x.num, .int (x.den : Int)]
def rsD (xs : List Rat) : Dat := .lst (xs.map frD)
theorem frD_inj {x y : Rat} (h : frD x = frD y) : x = y := by
  unfold frD at h
  injection h with h
  injection h with h1 h2
  injection h2 with h2 _
  injection h1 with h1
  injection h2 with h2
  exact Rat.ext h1 (by omega)
theorem rp_fr {K : PySem.W.Frag} {G : List Addr} {H : Hp} {v : V} {x : Rat} (r : Rp (hid G H) v (frD x)) : FrAt K H v (nd x) := by
  unfold frD at r
  cases r with
  | tup h r =>
    cases r with
    | cons a t =>
      cases t with
      | cons b t =>
        cases a; cases b; cases t
        exact ⟨_, rfl, (hid_some h).2⟩
theorem no_of_dom {G : List Addr} {H : Hp} (hd : Dom G H) {p : Addr} (n : H p = none) : p ∉ G := fun q => by
  obtain ⟨o, ho⟩ := hd p q
  rw [n] at ho; cases ho
theorem fr_rp {G : List Addr} {H H' : Hp} {p : Addr} {x : Rat} (hd : Dom G H) (n : H p = none) (h : H' p = some (.tup (frV (nd x)))) : Rp (hid G H') (.ref p) (frD x) :=
  .tup (by rw [hid_out (no_of_dom hd n)]; exact h) (.cons (.int _) (.cons (.int _) .nil))
theorem Cal.imp {P : Program} {w : World} {K : PySem.W.Frag} {mg : Str → Option Value} {base : Heap} {k : Nat} {x : Str} {sp sp' : Sp} {dvs : List V} (c : Cal P w K mg base k x sp dvs) (h : ∀ vs H Q E, sp' vs H Q E → sp vs H Q E) : Cal P w K mg base k x sp' dvs := by
  obtain ⟨f, fd, ps, ds, F, q⟩ := c.ex
  exact ⟨f, fd, ps, ds, ⟨fun vs H Q E z => F.len vs H Q E (h _ _ _ _ z), fun A st s H args us vs Q E r e b v z => F.run A st s H args us vs Q E r e b v (h _ _ _ _ z)⟩, q⟩
theorem CalX.imp {P : Program} {w : World} {K : PySem.W.Frag} {mg : Str → Option Value} {base : Heap} {k : Nat} {x : Str} {sp sp' : Sp} (c : CalX P w K mg base k x sp) (h : ∀ vs H Q E, sp' vs H Q E → sp vs H Q E) : CalX P w K mg base k x sp' := by
  obtain ⟨f, fd, ps, F, q⟩ := c.ex
  exact ⟨f, fd, ps, ⟨fun vs H Q E z => F.len vs H Q E (h _ _ _ _ z), fun A st s H args us vs Q E r e b v z => F.run A st s H args us vs Q E r e b v (h _ _ _ _ z)⟩, q⟩
/-- the lowest form -/
def W_lowest : WpD := fun ds C => ∃ a b : Int, ds = [.int a, .int b] ∧ b ≠ 0 ∧ Sz 8000 b ∧ C (frD (Rat.divInt a b))
def W_two (f : Rat → Rat → Rat) : WpD := fun ds C => ∃ (x y : Rat) (n m : Nat), ds = [frD x, frD y] ∧ RSz n x ∧ RSz m y ∧ n + m ≤ 8000 ∧ C (frD (f x y))
theorem ad_lowest {K : PySem.W.Frag} {vs : List V} {H : Hp} {Q : VK} {E : XK} (h : spD W_lowest vs H Q E) : sp_lowest K vs H Q E := by
  obtain ⟨G, ds, C, hd, r, ⟨a, b, rfl, hb, hs, c⟩, k⟩ := h
  cases r with
  | cons r t => cases t with
    | cons r' t =>
      cases r; cases r'; cases t
      refine ⟨(a, b), rfl, hb, hs, fun H' p s hp n => k _ _ H' c (.of s) (fr_rp hd n ?_)⟩
      rw [hp, low_rat hb]; rfl
theorem OkQ.one_le {n : Nat} {q : Int × Int} (h : OkQ n q) : 1 ≤ n := by
  have h1 := h.b
  have h2 := h.pos
  unfold Sz at h1
  rcases n with _ | n
  · omega
  · omega
theorem ad_plus_of {K : PySem.W.Frag} {vs : List V} {H : Hp} {Q : VK} {E : XK} (h : spD (W_two fun x y => x + y) vs H Q E) : sp_plus_of K vs H Q E := by
  obtain ⟨G, ds, C, hd, r, ⟨x, y, n, m, rfl, hx, hy, hs, c⟩, k⟩ := h
  cases r with
  | cons r t => cases t with
    | cons r' t =>
      cases t
      exact ⟨_, _, nd x, nd y, n, m, rfl, rp_fr r, rp_fr r', hx, hy, hs, OkQ.one_le hx, OkQ.one_le hy, fun H' p s hp nn => k _ _ H' c (.of s) (fr_rp hd nn (by rw [hp, add_nd]))⟩
theorem ad_times_of {K : PySem.W.Frag} {vs : List V} {H : Hp} {Q : VK} {E : XK} (h : spD (W_two fun x y => x * y) vs H Q E) : sp_times_of K vs H Q E := by
  obtain ⟨G, ds, C, hd, r, ⟨x, y, n, m, rfl, hx, hy, hs, c⟩, k⟩ := h
  cases r with
  | cons r t => cases t with
    | cons r' t =>
      cases t
      exact ⟨_, _, nd x, nd y, n, m, rfl, rp_fr r, rp_fr r', hx, hy, hs, OkQ.one_le hx, OkQ.one_le hy, fun H' p s hp nn => k _ _ H' c (.of s) (fr_rp hd nn (by rw [hp, mul_nd]))⟩
end My

namespace My
open PySem PySem.Spec PyProof.Rows L2
open C8 (Cal pe_c pe_gc)
/-! ### rows of fractions -/
/-- small enough to be reckoned with -/
def Sm (x : Rat) : Prop := RSz 4000 x
def Sms (xs : List Rat) : Prop := ∀ x ∈ xs, Sm x
def vadd (xs ys : List Rat) : List Rat := xs.zipWith (· + ·) ys
def vscl (xs : List Rat) (b : Rat) : List Rat := xs.map fun x => x * b
def W_plus_rows : WpD := fun ds C => ∃ xs ys : List Rat, ds = [rsD xs, rsD ys] ∧ xs.length = ys.length ∧ xs.length ≤ 1000 ∧ Sms xs ∧ Sms ys ∧ C (rsD (vadd xs ys))
def W_scaled : WpD := fun ds C => ∃ (xs : List Rat) (b : Rat), ds = [rsD xs, frD b] ∧ xs.length ≤ 1000 ∧ Sms xs ∧ Sm b ∧ C (rsD (vscl xs b))
theorem fr_get {xs : List Rat} {i : Nat} {d : Dat} (h : (xs.map frD)[i]? = some d) : ∃ x, xs[i]? = some x ∧ d = frD x := by
  rw [List.getElem?_map] at h
  cases e : xs[i]? with
  | none => rw [e] at h; cases h
  | some x => rw [e] at h; exact ⟨x, rfl, (Option.some.inj h).symm⟩
section

variable {c : Cs} {P : Program} {w : World} {K : PySem.W.Frag} {mg : Str → Option Value} {base : Heap}
abbrev s_plus_rows : Stmt := top 24
abbrev N_plus_rows : List Str := ["one", "other", "part", "more"]
abbrev P_plus_rows : List Str := ["one", "other"]
theorem sc_plus_rows : FnScope N_plus_rows ["one", "other"] (defScope s_plus_rows) := ⟨rfl, rfl, rfl, by decide +kernel, rfl, by decide +kernel, by decide +kernel⟩

theorem ok_plus_rows (T : Txt K mg c) {f : Addr} {fd : FuncData} (F : L2.Fun K "plus_rows" "plus_rows" s_plus_rows f fd) (h_plus_of : Cal P w K mg base 3 "plus_of" (spD (W_two fun x y => x + y)) []) : FnOk P w K mg base CX0 4 f fd P_plus_rows (spD W_plus_rows) := by
  refine okD F sc_plus_rows (fun ds C ⟨xs, ys, e, _⟩ => by rw [e]; rfl) fun cdv A outer s H E hr => ⟨_, (pss_one (ps_ret (pe_lc (own := [("part", 2), ("more", 3)]) (g := gTup K 2 (gCons (gName 2) (gCons (gName 3) gNil))) (by rfl) sc_plus_rows.nd (pi_zipS rfl T.z_zip (pa_cons (pv 0) (pa_cons (pv 1) pa_nil)) (pk_cons pe_bl pk_nil)) (blkOk_by (own := [("part", 2), ("more", 3)]) (N := N_plus_rows) (sc := defScope s_plus_rows) (by decide +kernel)) (fun _ _ _ _ _ => (pg_tup rfl (pgs_cons (pg_name (i := 2) sc_plus_rows.nd rfl (by first | exact Or.inl rfl | exact Or.inr rfl)) (pgs_cons (pg_name (i := 3) sc_plus_rows.nd rfl (by first | exact Or.inl rfl | exact Or.inr rfl)) pgs_nil)))) (fun _ _ _ _ _ => pts_nil) (fun _ _ _ _ _ => (pe_c h_plus_of hr (by decide) rfl (pa_cons (pv 2) (pa_cons (pv 3) pa_nil))))))), fun z ds C ⟨xs, ys, e, hl, h1, sx, sy, c⟩ => ?_⟩
  subst e
  refine XS.ret (XE.ofN (XN.to (XI.zipS ?_)))
  (repeat' (first | refine XE.var rfl ?_ | refine XA.nil ?_ | refine XA.cons ?_ | refine go_zipS ?_ ?_))
  · rw [List.length_map, List.length_map]; exact hl
  refine ⟨(vadd xs ys).map frD, by simp [zipD, vadd], by simp [zipD]; omega, fun i d o hi ho => ?_, c⟩
  obtain ⟨x, y, hx, hy, rfl⟩ := zipD_at hi
  obtain ⟨q, hq, rfl⟩ := fr_get hx
  obtain ⟨r, hr, rfl⟩ := fr_get hy
  obtain ⟨s, hs, rfl⟩ := fr_get ho
  have es : s = q + r := by
    unfold vadd at hs
    rw [List.getElem?_zipWith, hq, hr] at hs
    exact (Option.some.inj hs).symm
  (repeat' (first | refine XE.var rfl ?_ | refine XE.call ?_ | refine XA.nil ?_ | refine XA.cons ?_ | refine XGs.cons ?_ | refine XGs.nil ?_ | refine XG.name rfl ?_ | refine XG.tupG rfl ?_))
  exact ⟨q, r, 4000, 4000, rfl, sx q (List.mem_of_getElem? hq), sy r (List.mem_of_getElem? hr), by decide, rfl, by rw [es]⟩
abbrev s_scaled : Stmt := top 25
abbrev N_scaled : List Str := ["row", "by", "part"]
abbrev P_scaled : List Str := ["row", "by"]
theorem sc_scaled : FnScope N_scaled ["row", "by"] (defScope s_scaled) := ⟨rfl, rfl, rfl, by decide +kernel, rfl, by decide +kernel, by decide +kernel⟩

theorem ok_scaled (T : Txt K mg c) {f : Addr} {fd : FuncData} (F : L2.Fun K "scaled" "scaled" s_scaled f fd) (h_times_of : Cal P w K mg base 3 "times_of" (spD (W_two fun x y => x * y)) []) : FnOk P w K mg base CX0 4 f fd P_scaled (spD W_scaled) := by
  refine okD F sc_scaled (fun ds C ⟨xs, b, e, _⟩ => by rw [e]; rfl) fun cdv A outer s H E hr => ⟨_, (pss_one (ps_ret (pe_lc (own := [("part", 2)]) (g := gName 2) (by rfl) sc_scaled.nd (pi_list (pv 0)) (blkOk_by (own := [("part", 2)]) (N := N_scaled) (sc := defScope s_scaled) (by decide +kernel)) (fun _ _ _ _ _ => (pg_name (i := 2) sc_scaled.nd rfl (by first | exact Or.inl rfl | exact Or.inr rfl))) (fun _ _ _ _ _ => pts_nil) (fun _ _ _ _ _ => (pe_c h_times_of hr (by decide) rfl (pa_cons (pv 2) (pa_cons (pv 1) pa_nil))))))), fun z ds C ⟨xs, b, e, h1, sx, sb, c⟩ => ?_⟩
  subst e
  refine XS.ret (XE.ofN (XN.to (XI.list ?_)))
  (repeat' (first | refine XE.var rfl ?_ | refine go_lst ?_))
  refine ⟨(vscl xs b).map frD, by simp [vscl], by simp; omega, fun i d o hi ho => ?_, c⟩
  obtain ⟨q, hq, rfl⟩ := fr_get hi
  obtain ⟨s, hs, rfl⟩ := fr_get ho
  have es : s = q * b := by
    unfold vscl at hs
    rw [List.getElem?_map, hq] at hs
    exact (Option.some.inj hs).symm
  (repeat' (first | refine XE.var rfl ?_ | refine XE.call ?_ | refine XA.nil ?_ | refine XA.cons ?_ | refine XG.name rfl ?_))
  exact ⟨q, b, 4000, 4000, rfl, sx q (List.mem_of_getElem? hq), sb, by decide, rfl, by rw [es]⟩
end
end My

namespace My
open PySem PySem.Spec PyProof.Rows L2
/-! ### a common bottom -/
/-- x has d for a bottom, N at most above it -/
def VB (d N : Nat) (x : Rat) : Prop := ∃ k : Int, x * ((d : Int) : Rat) = (k : Rat) ∧ k.natAbs ≤ N
def VBs (d N : Nat) (xs : List Rat) : Prop := ∀ x ∈ xs, VB d N x
theorem VB.zero {d N : Nat} : VB d N 0 := ⟨0, by simp, Nat.zero_le _⟩
theorem VB.mono {d N M : Nat} {x : Rat} (h : VB d N x) (l : N ≤ M) : VB d M x := by
  obtain ⟨k, e, b⟩ := h
  exact ⟨k, e, Nat.le_trans b l⟩
theorem VB.add {d N M : Nat} {x y : Rat} (h : VB d N x) (l : VB d M y) : VB d (N + M) (x + y) := by
  obtain ⟨k, e, b⟩ := h
  obtain ⟨j, f, c⟩ := l
  refine ⟨k + j, ?_, Nat.le_trans (Int.natAbs_add_le k j) (Nat.add_le_add b c)⟩
  rw [Rat.add_mul, e, f, Rat.intCast_add]
theorem VB.mul {d e N M : Nat} {x y : Rat} (h : VB d N x) (l : VB e M y) : VB (d * e) (N * M) (x * y) := by
  obtain ⟨k, hk, b⟩ := h
  obtain ⟨j, hj, c⟩ := l
  refine ⟨k * j, ?_, by rw [Int.natAbs_mul]; exact Nat.mul_le_mul b c⟩
  rw [Rat.intCast_mul, ← hk, ← hj]
  have : (((d * e : Nat) : Int) : Rat) = ((d : Int) : Rat) * ((e : Int) : Rat) := by rw [← Rat.intCast_mul]; rfl
  rw [this]
  grind
theorem VB.scale {d N : Nat} {x : Rat} (h : VB d N x) (e : Nat) : VB (d * e) (N * e) x := by
  obtain ⟨k, hk, b⟩ := h
  refine ⟨k * e, ?_, by rw [Int.natAbs_mul]; exact Nat.mul_le_mul b (Nat.le_refl _)⟩
  have : (((d * e : Nat) : Int) : Rat) = ((d : Int) : Rat) * ((e : Int) : Rat) := by rw [← Rat.intCast_mul]; rfl
  rw [this, Rat.intCast_mul, ← hk]
  grind
theorem VB.eq {d N : Nat} {x : Rat} (h : VB d N x) (hd : 0 < d) : ∃ k : Int, x = Rat.divInt k d ∧ k.natAbs ≤ N := by
  obtain ⟨k, hk, b⟩ := h
  refine ⟨k, ?_, b⟩
  have hd' : ((d : Int) : Rat) ≠ 0 := by
    intro z
    have : ((d : Int) : Rat) = ((0 : Int) : Rat) := z
    have := Rat.intCast_inj.mp this
    omega
  have e : Rat.divInt k d = (k : Rat) / ((d : Int) : Rat) := by rw [Rat.divInt_eq_div]
  rw [e, ← hk]
  grind
theorem VB.sm {d N : Nat} {x : Rat} (h : VB d N x) (hd : 0 < d) (h1 : d < 2 ^ 4000) (h2 : N < 2 ^ 4000) : RSz 4000 x := by
  obtain ⟨k, e, b⟩ := h.eq hd
  have hn : ((d : Int)) ≠ 0 := by omega
  have := low_ok (n := 4000) (q := (k, (d : Int))) hn (Nat.lt_of_le_of_lt b h2) h1
  rw [low_rat hn, ← e] at this
  exact this
theorem VB.of {k : Int} {d N : Nat} (hd : 0 < d) (h : k.natAbs ≤ N) : VB d N (Rat.divInt k d) := by
  refine ⟨k, ?_, h⟩
  have hd' : ((d : Int) : Rat) ≠ 0 := by
    intro z
    have : ((d : Int) : Rat) = ((0 : Int) : Rat) := z
    have := Rat.intCast_inj.mp this
    omega
  rw [Rat.divInt_eq_div]
  grind
end My

namespace My
open PySem PySem.Spec PyProof.Rows L2
/-! ### products by steps, the last step first -/
def vz (n : Nat) : List Rat := List.replicate n 0
theorem vadd_len {xs ys : List Rat} (h : xs.length = ys.length) : (vadd xs ys).length = xs.length := by simp [vadd, h]
theorem vz_len (n : Nat) : (vz n).length = n := by simp [vz]
theorem vadd_z {xs : List Rat} : ∀ {n : Nat}, xs.length = n → vadd xs (vz n) = xs := by
  induction xs with
  | nil => intro n h; subst h; rfl
  | cons x xs ih =>
    intro n h
    subst h
    show (x + 0) :: vadd xs (vz xs.length) = x :: xs
    rw [ih rfl, Rat.add_zero]
theorem vadd_comm {xs ys : List Rat} : vadd xs ys = vadd ys xs := by
  unfold vadd
  rw [List.zipWith_comm]
  congr 1
  funext a b
  exact Rat.add_comm _ _
theorem z_vadd {xs : List Rat} {n : Nat} (h : xs.length = n) : vadd (vz n) xs = xs := by rw [vadd_comm]; exact vadd_z h
abbrev RR := List (Nat × List Rat)
def manyR : RR → Nat
  | [] => 1
  | s :: r => s.1 * manyR r
def tm3 (p x y : List Rat) : List Rat :=
  let a := fun i => x.getD i 0
  let b := fun i => y.getD i 0
  let q := fun i => p.getD i 0
  let g3 := a 1 * b 2 + a 2 * b 1 + a 2 * b 2 * q 2
  [a 0 * b 0 + g3 * q 0, a 0 * b 1 + a 1 * b 0 + a 2 * b 2 * q 0 + g3 * q 1, a 0 * b 2 + a 1 * b 1 + a 2 * b 0 + a 2 * b 2 * q 1 + g3 * q 2]
def tm : RR → List Rat → List Rat → List Rat
  | [], x, y => [x.getD 0 0 * y.getD 0 0]
  | s :: r, x, y =>
    if s.1 = 2 then vadd (tm r (x.take (manyR r)) (y.take (manyR r))) (tm r (tm r (x.drop (manyR r)) (y.drop (manyR r))) s.2) ++ vadd (tm r (x.take (manyR r)) (y.drop (manyR r))) (tm r (x.drop (manyR r)) (y.take (manyR r)))
    else tm3 s.2 x y
def bigM : Nat := 2 ^ 64
theorem bigM_pos : 1 ≤ bigM := by decide
/-- the steps of a house, the last one first -/
inductive OkR : RR → Prop
  | nil : OkR []
  | two {p : List Rat} {r : RR} : p.length = manyR r → VBs 2 bigM p → OkR r → OkR ((2, p) :: r)
  | three {p : List Rat} : p.length = 3 → VBs 2 bigM p → OkR [(3, p)]
theorem tm_len : ∀ {rr : RR}, OkR rr → ∀ {x y : List Rat}, x.length = manyR rr → y.length = manyR rr → (tm rr x y).length = manyR rr
  | _, .nil, _, _, _, _ => rfl
  | _, .two (p := p) (r := r) hp _ o, x, y, hx, hy => by
    have hx' : x.length = 2 * manyR r := hx
    have hy' : y.length = 2 * manyR r := hy
    have l : ∀ {u v : List Rat}, u.length = manyR r → v.length = manyR r → (tm r u v).length = manyR r := fun h1 h2 => tm_len o h1 h2
    have t1 : (x.take (manyR r)).length = manyR r := by rw [List.length_take]; omega
    have t2 : (y.take (manyR r)).length = manyR r := by rw [List.length_take]; omega
    have d1 : (x.drop (manyR r)).length = manyR r := by rw [List.length_drop]; omega
    have d2 : (y.drop (manyR r)).length = manyR r := by rw [List.length_drop]; omega
    show (tm ((2, p) :: r) x y).length = 2 * manyR r
    unfold tm
    rw [if_pos rfl, List.length_append, vadd_len (by rw [l t1 t2, l (l d1 d2) hp]), vadd_len (by rw [l t1 d2, l d1 t2]), l t1 t2, l t1 d2]
    omega
  | _, .three _ _, _, _, _, _ => rfl
theorem getD_z {n i : Nat} : (vz n).getD i 0 = 0 := by
  unfold vz
  rw [List.getD_eq_getElem?_getD, List.getElem?_replicate]
  split <;> rfl
theorem vz_take {n m : Nat} (h : m ≤ n) : (vz n).take m = vz m := by unfold vz; rw [List.take_replicate, Nat.min_eq_left h]
theorem vz_drop {n m : Nat} : (vz n).drop m = vz (n - m) := by unfold vz; rw [List.drop_replicate]
theorem tm_z : ∀ {rr : RR}, OkR rr → ∀ {x : List Rat}, x.length = manyR rr → tm rr x (vz (manyR rr)) = vz (manyR rr)
  | _, .nil, x, _ => by
    show [x.getD 0 0 * (vz 1).getD 0 0] = [0]
    rw [getD_z, Rat.mul_zero]
  | _, .two (p := p) (r := r) hp _ o, x, hx => by
    have hx' : x.length = 2 * manyR r := hx
    have t1 : (x.take (manyR r)).length = manyR r := by rw [List.length_take]; omega
    have d1 : (x.drop (manyR r)).length = manyR r := by rw [List.length_drop]; omega
    have e : ∀ {u : List Rat}, u.length = manyR r → tm r u (vz (manyR r)) = vz (manyR r) := fun h => tm_z o h
    show tm ((2, p) :: r) x (vz (2 * manyR r)) = vz (2 * manyR r)
    unfold tm
    rw [if_pos rfl, vz_take (by omega), vz_drop, show 2 * manyR r - manyR r = manyR r by omega, e t1, e d1, vadd_z (vz_len _)]
    have z : tm r (vz (manyR r)) p = vz (manyR r) := tm_zl o hp
    rw [z, vadd_z (vz_len _)]
    unfold vz
    rw [List.replicate_append_replicate]
    congr 1
    omega
  | _, .three (p := p) _ _, x, _ => by
    show tm3 p x (vz 3) = [0, 0, 0]
    unfold tm3
    simp only [getD_z]
    refine congr (congrArg _ ?_) (congr (congrArg _ ?_) (congr (congrArg _ ?_) rfl)) <;> grind
where
  tm_zl : ∀ {rr : RR}, OkR rr → ∀ {y : List Rat}, y.length = manyR rr → tm rr (vz (manyR rr)) y = vz (manyR rr)
  | _, .nil, y, _ => by
    show [(vz 1).getD 0 0 * y.getD 0 0] = [0]
    rw [getD_z, Rat.zero_mul]
  | _, .two (p := p) (r := r) hp _ o, y, hy => by
    have hy' : y.length = 2 * manyR r := hy
    have t1 : (y.take (manyR r)).length = manyR r := by rw [List.length_take]; omega
    have d1 : (y.drop (manyR r)).length = manyR r := by rw [List.length_drop]; omega
    have e : ∀ {u : List Rat}, u.length = manyR r → tm r (vz (manyR r)) u = vz (manyR r) := fun h => tm_zl o h
    show tm ((2, p) :: r) (vz (2 * manyR r)) y = vz (2 * manyR r)
    unfold tm
    rw [if_pos rfl, vz_take (by omega), vz_drop, show 2 * manyR r - manyR r = manyR r by omega, e t1, e d1, vadd_z (vz_len _), e hp, vadd_z (vz_len _)]
    unfold vz
    rw [List.replicate_append_replicate]
    congr 1
    omega
  | _, .three (p := p) _ _, y, _ => by
    show tm3 p (vz 3) y = [0, 0, 0]
    unfold tm3
    simp only [getD_z]
    refine congr (congrArg _ ?_) (congr (congrArg _ ?_) (congr (congrArg _ ?_) rfl)) <;> grind
/-! sizes -/
theorem VBs.vadd {d N M : Nat} {xs ys : List Rat} (h : VBs d N xs) (l : VBs d M ys) : VBs d (N + M) (My.vadd xs ys) := fun z hz => by
  unfold My.vadd at hz
  obtain ⟨i, hi, e⟩ := List.getElem_of_mem hz
  rw [List.getElem_zipWith] at e
  rw [← e]
  exact (h _ (List.getElem_mem _)).add (l _ (List.getElem_mem _))
theorem VBs.scale {d N : Nat} {xs : List Rat} (h : VBs d N xs) (e : Nat) : VBs (d * e) (N * e) xs := fun x hx => (h x hx).scale e
theorem VBs.mono {d N M : Nat} {xs : List Rat} (h : VBs d N xs) (l : N ≤ M) : VBs d M xs := fun x hx => (h x hx).mono l
theorem VBs.take {d N : Nat} {xs : List Rat} (h : VBs d N xs) (n : Nat) : VBs d N (xs.take n) := fun x hx => h x (List.mem_of_mem_take hx)
theorem VBs.drop {d N : Nat} {xs : List Rat} (h : VBs d N xs) (n : Nat) : VBs d N (xs.drop n) := fun x hx => h x (List.mem_of_mem_drop hx)
theorem VBs.app {d N : Nat} {xs ys : List Rat} (h : VBs d N xs) (l : VBs d N ys) : VBs d N (xs ++ ys) := fun x hx => (List.mem_append.mp hx).elim (h x) (l x)
theorem VBs.getD {d N : Nat} {xs : List Rat} (h : VBs d N xs) (i : Nat) : VB d N (xs.getD i 0) := by
  rw [List.getD_eq_getElem?_getD]
  cases e : xs[i]? with
  | none => exact VB.zero
  | some x => exact h x (List.mem_of_getElem? e)
theorem VBs.vz {d N n : Nat} : VBs d N (vz n) := fun x hx => by rw [(List.mem_replicate.mp hx).2]; exact VB.zero
def Qr : RR → Nat
  | [] => 1
  | _ :: r => Qr r * Qr r * 4
def Cr : RR → Nat
  | [] => 1
  | _ :: r => Cr r * Cr r * Qr r * (bigM * bigM) * 32
theorem Qr_pos : ∀ rr : RR, 1 ≤ Qr rr
  | [] => Nat.le_refl _
  | _ :: r => by
    have h := Qr_pos r
    have : 1 ≤ Qr r * Qr r := Nat.mul_pos h h
    show 1 ≤ Qr r * Qr r * 4
    omega
theorem Cr_pos : ∀ rr : RR, 1 ≤ Cr rr
  | [] => Nat.le_refl _
  | _ :: r => Nat.mul_pos (Nat.mul_pos (Nat.mul_pos (Nat.mul_pos (Cr_pos r) (Cr_pos r)) (Qr_pos r)) (Nat.mul_pos bigM_pos bigM_pos)) (by decide)
end My

namespace My
open PySem PySem.Spec PyProof.Rows L2
theorem VBs.cast {d N e M : Nat} {xs : List Rat} (h : VBs d N xs) (he : d = e) (hM : N ≤ M) : VBs e M xs := he ▸ h.mono hM
theorem VB.cast {d N e M : Nat} {x : Rat} (h : VB d N x) (he : d = e) (hM : N ≤ M) : VB e M x := he ▸ h.mono hM
theorem ineq_two {N C Q M : Nat} (hC : 1 ≤ C) (hQ : 1 ≤ Q) (hM : 1 ≤ M) : (N * C * (2 * Q) + N * C * M * C) * 2 ≤ N * (C * C * Q * (M * M) * 32) := by
  have a1 : N * C * Q ≤ N * C * Q * (C * (M * M)) := Nat.le_mul_of_pos_right _ (Nat.mul_pos hC (Nat.mul_pos hM hM))
  have a2 : N * C * C * M ≤ N * C * C * M * (Q * M) := Nat.le_mul_of_pos_right _ (Nat.mul_pos hQ hM)
  have e1 : N * C * Q * (C * (M * M)) = N * C * C * Q * M * M := by grind
  have e2 : N * C * C * M * (Q * M) = N * C * C * Q * M * M := by grind
  have e3 : (N * C * (2 * Q) + N * C * M * C) * 2 = 4 * (N * C * Q) + 2 * (N * C * C * M) := by grind
  have e4 : N * (C * C * Q * (M * M) * 32) = 32 * (N * C * C * Q * M * M) := by grind
  rw [e3, e4]
  omega
theorem ineq_two' {N C Q M : Nat} (hC : 1 ≤ C) (hM : 1 ≤ M) : (N * C + N * C) * (4 * Q) ≤ N * (C * C * Q * (M * M) * 32) := by
  have a1 : N * C * Q ≤ N * C * Q * (C * (M * M)) := Nat.le_mul_of_pos_right _ (Nat.mul_pos hC (Nat.mul_pos hM hM))
  have e1 : N * C * Q * (C * (M * M)) = N * C * C * Q * M * M := by grind
  have e3 : (N * C + N * C) * (4 * Q) = 8 * (N * C * Q) := by grind
  have e4 : N * (C * C * Q * (M * M) * 32) = 32 * (N * C * C * Q * M * M) := by grind
  rw [e3, e4]
  omega
theorem VBs_tm3 {d1 N1 d2 N2 : Nat} {x y p : List Rat} (hp : VBs 2 bigM p) (vx : VBs d1 N1 x) (vy : VBs d2 N2 y) : VBs (d1 * d2 * 4) (N1 * N2 * (bigM * bigM * 32)) (tm3 p x y) := by
  have ab : ∀ i j, VB (d1 * d2) (N1 * N2) (x.getD i 0 * y.getD j 0) := fun i j => (vx.getD i).mul (vy.getD j)
  have q : ∀ i, VB 2 bigM (p.getD i 0) := fun i => hp.getD i
  generalize N1 * N2 = N at *
  generalize d1 * d2 = D at *
  have hM := bigM_pos
  generalize bigM = M at *
  have m1 : N ≤ N * (M * M) := Nat.le_mul_of_pos_right _ (Nat.mul_pos hM hM)
  have m2 : N * M ≤ N * (M * M) := Nat.mul_le_mul_left _ (Nat.le_mul_of_pos_right _ hM)
  have g3 : VB (D * 2) (N * 4 + N * M) (x.getD 1 0 * y.getD 2 0 + x.getD 2 0 * y.getD 1 0 + x.getD 2 0 * y.getD 2 0 * p.getD 2 0) := ((((ab 1 2).add (ab 2 1)).scale 2).cast rfl (by omega)).add ((ab 2 2).mul (q 2))
  have gq : ∀ i, VB (D * 4) (N * 4 * M + N * M * M) ((x.getD 1 0 * y.getD 2 0 + x.getD 2 0 * y.getD 1 0 + x.getD 2 0 * y.getD 2 0 * p.getD 2 0) * p.getD i 0) := fun i => (g3.mul (q i)).cast (by omega) (by rw [Nat.add_mul]; exact Nat.le_refl _)
  have fq : ∀ i, VB (D * 4) (N * M * 2) (x.getD 2 0 * y.getD 2 0 * p.getD i 0) := fun i => (((ab 2 2).mul (q i)).scale 2).cast (by omega) (Nat.le_refl _)
  have e1 : N * 4 * M + N * M * M = 4 * (N * M) + N * (M * M) := by grind
  have e2 : N * (M * M * 32) = 32 * (N * (M * M)) := by grind
  have e3 : N * M * 2 = 2 * (N * M) := by omega
  intro z hz
  unfold tm3 at hz
  simp only [List.mem_cons, List.not_mem_nil, or_false] at hz
  rcases hz with rfl | rfl | rfl
  · exact (((ab 0 0).scale 4).add (gq 0)).cast rfl (by omega)
  · exact (((((ab 0 1).add (ab 1 0)).scale 4).add (fq 0)).add (gq 1)).cast rfl (by omega)
  · exact ((((((ab 0 2).add (ab 1 1)).add (ab 2 0)).scale 4).add (fq 1)).add (gq 2)).cast rfl (by omega)
theorem VBs_tm : ∀ {rr : RR}, OkR rr → ∀ {d1 N1 d2 N2 : Nat} {x y : List Rat}, x.length = manyR rr → y.length = manyR rr → VBs d1 N1 x → VBs d2 N2 y → VBs (d1 * d2 * Qr rr) (N1 * N2 * Cr rr) (tm rr x y)
  | _, .nil, d1, N1, d2, N2, x, y, _, _, vx, vy => by
    intro z hz
    have e : z = x.getD 0 0 * y.getD 0 0 := by simpa [tm] using hz
    subst e
    exact ((vx.getD 0).mul (vy.getD 0)).cast (Nat.mul_one _).symm (Nat.le_of_eq (Nat.mul_one _).symm)
  | _, .two (p := p) (r := r) hp vp o, d1, N1, d2, N2, x, y, hx, hy, vx, vy => by
    have hx' : x.length = 2 * manyR r := hx
    have hy' : y.length = 2 * manyR r := hy
    have t1 : (x.take (manyR r)).length = manyR r := by rw [List.length_take]; omega
    have t2 : (y.take (manyR r)).length = manyR r := by rw [List.length_take]; omega
    have u1 : (x.drop (manyR r)).length = manyR r := by rw [List.length_drop]; omega
    have u2 : (y.drop (manyR r)).length = manyR r := by rw [List.length_drop]; omega
    have a := VBs_tm o t1 t2 (vx.take _) (vy.take _)
    have b := VBs_tm o u1 u2 (vx.drop _) (vy.drop _)
    have bp := VBs_tm o (tm_len o u1 u2) hp b vp
    have c1 := VBs_tm o t1 u2 (vx.take _) (vy.drop _)
    have c2 := VBs_tm o u1 t2 (vx.drop _) (vy.take _)
    unfold tm
    rw [if_pos rfl]
    show VBs (d1 * d2 * (Qr r * Qr r * 4)) (N1 * N2 * (Cr r * Cr r * Qr r * (bigM * bigM) * 32)) _
    refine VBs.app ?_ ?_
    · refine ((VBs.vadd ((a.scale (2 * Qr r)).cast (by grind) (Nat.le_refl _)) bp).scale 2).cast (by grind) (ineq_two (Cr_pos r) (Qr_pos r) bigM_pos)
    · exact ((c1.vadd c2).scale (4 * Qr r)).cast (by grind) (ineq_two' (Cr_pos r) bigM_pos)
  | _, .three (p := p) _ vp, d1, N1, d2, N2, x, y, _, _, vx, vy => by
    have h := VBs_tm3 vp vx vy
    show VBs (d1 * d2 * (1 * 1 * 4)) (N1 * N2 * (1 * 1 * 1 * (bigM * bigM) * 32)) (tm3 p x y)
    simpa using h
end My

set_option maxHeartbeats 4000000
namespace My
open PySem PySem.Spec PyProof.Rows L2
open C8 (Cal pe_c pe_gc)
def rowD (s : Nat × List Rat) : Dat := .tup [.int (s.1 : Int), rsD s.2]
def rowsD (rs : RR) : Dat := .lst (rs.map rowD)
def W_noughtN : WpN := fun ds C => ∃ n : Nat, ds = [.int (n : Int)] ∧ n ≤ 1000 ∧ C ((vz n).map frD)
def W_nought : WpD := fun ds C => ∃ n : Nat, ds = [.int (n : Int)] ∧ n ≤ 1000 ∧ C (rsD (vz n))
theorem plain_rs (xs : List Rat) : plains (xs.map frD) = true := by
  induction xs with
  | nil => rfl
  | cons x xs ih => show (plain (frD x) && plains (xs.map frD)) = true; rw [ih]; rfl
theorem dep_rs (xs : List Rat) : deps (xs.map frD) ≤ 1 := by
  induction xs with
  | nil => exact Nat.zero_le _
  | cons x xs ih =>
    have : dep (frD x) = 1 := rfl
    show max (dep (frD x)) (deps (xs.map frD)) ≤ 1
    omega
theorem cmp_rs (xs : List Rat) : Cmp (rsD xs) := Cmp.of (plain_rs xs) (by have := dep_rs xs; show deps (xs.map frD) + 1 ≤ 60; omega)
theorem plain_rows (rs : RR) : plains (rs.map rowD) = true := by
  induction rs with
  | nil => rfl
  | cons s rs ih =>
    show ((true && (plains (s.2.map frD) && true)) && plains (rs.map rowD)) = true
    rw [ih, plain_rs]; rfl
theorem dep_rows (rs : RR) : deps (rs.map rowD) ≤ 3 := by
  induction rs with
  | nil => exact Nat.zero_le _
  | cons s rs ih =>
    have h := dep_rs s.2
    show max (max 0 (max (deps (s.2.map frD) + 1) 0) + 1) (deps (rs.map rowD)) ≤ 3
    omega
theorem cmp_rows (rs : RR) : Cmp (rowsD rs) := Cmp.of (plain_rows rs) (by have := dep_rows rs; show deps (rs.map rowD) + 1 ≤ 60; omega)
theorem eqD_rows {s : Nat × List Rat} {r : RR} : eqD (rowsD (s :: r).reverse) (.lst []) = false := by
  rw [List.reverse_cons]
  unfold rowsD
  rw [List.map_append]
  cases h : r.reverse.map rowD <;> simp [eqD, toP, toPs, PyData.eqv, PyData.eqvAll]
theorem flat_fr {n : Nat} : (List.replicate (n : Int).toNat [Dat.tup [.int 0, .int 1]]).flatten = (vz n).map frD := by
  rw [Int.toNat_natCast, vz, List.map_replicate]
  induction n with
  | zero => rfl
  | succ n ih => rw [List.replicate_succ, List.flatten_cons, ih, List.replicate_succ]; rfl
theorem atI_snoc {α : Type} {xs : List α} {x : α} : atI (xs ++ [x]) (-1) = some x := by
  have h : ixN (xs ++ [x]).length (-1) = some xs.length := by
    unfold ixN
    rw [if_neg (by decide), List.length_append, List.length_singleton, if_pos (by omega)]
    congr 1
    omega
  unfold atI
  rw [h]
  simp
theorem cut_all {x : List Rat} {M : Nat} (h : x.length = M) : cutD (x.map frD) none (some (M : Int)) = x.map frD := by
  unfold cutD
  rw [HT.sIx_none, HT.sIx_nat, List.length_map, h, Nat.min_self]
  rw [List.take_of_length_le (by rw [List.length_drop, List.length_map]; omega)]
  rfl
theorem low_l {a b : Nat} (h : 0 < a * b) (l : a * b * 1 < 2 ^ 3999) : a < 2 ^ 4000 := by
  rw [Nat.mul_one] at l
  exact Nat.lt_trans (Nat.lt_of_le_of_lt (Nat.le_mul_of_pos_right _ (Nat.pos_of_mul_pos_left h)) l) (Nat.pow_lt_pow_right (by decide) (by decide))
theorem low_r {a b : Nat} (h : 0 < a * b) (l : a * b * 1 < 2 ^ 3999) : b < 2 ^ 4000 := low_l (by rw [Nat.mul_comm]; exact h) (by rw [Nat.mul_comm b a]; exact l)
theorem len3 {x : List Rat} (h : x.length = 3) : ∃ a b c, x = [a, b, c] := by
  rcases x with _ | ⟨a, _ | ⟨b, _ | ⟨c, _ | ⟨d, x⟩⟩⟩⟩ <;> simp_all
theorem pow_dbl {a n : Nat} (h : a < 2 ^ n) : 2 * a < 2 ^ (n + 1) := by rw [Nat.pow_succ]; omega
theorem cut_snoc {xs : List Dat} {x : Dat} : cutD (xs ++ [x]) none (some (-1)) = xs := by
  unfold cutD HT.sIx
  simp only [List.length_append, List.length_singleton]
  rw [if_pos (by decide), show (-1 + ((xs.length + 1 : Nat) : Int)).toNat = xs.length by omega]
  simp
theorem cut_lo {x : List Rat} {M : Nat} (h : x.length = 2 * M) : cutD (x.map frD) (some (0 * (M : Int))) (some (0 * (M : Int) + (M : Int))) = (x.take M).map frD := by
  unfold cutD
  rw [show (0 * (M : Int)) = ((0 : Nat) : Int) by omega, show (((0 : Nat) : Int) + (M : Int)) = (M : Int) by omega, HT.sIx_nat, HT.sIx_nat, List.length_map, h, Nat.min_eq_left (by omega), Nat.min_eq_left (by omega)]
  simp
theorem cut_hi {x : List Rat} {M : Nat} (h : x.length = 2 * M) : cutD (x.map frD) (some (1 * (M : Int))) (some (1 * (M : Int) + (M : Int))) = (x.drop M).map frD := by
  unfold cutD
  rw [show (1 * (M : Int)) = (M : Int) by omega, show ((M : Int) + (M : Int)) = ((2 * M : Nat) : Int) by omega, HT.sIx_nat, HT.sIx_nat, List.length_map, h, Nat.min_eq_left (show M ≤ 2 * M by omega), Nat.min_self (2 * M), ← List.map_drop]
  rw [List.take_of_length_le (by rw [List.length_map, List.length_drop]; omega)]
theorem rowsD_snoc {s : Nat × List Rat} {r : RR} : rowsD (s :: r).reverse = .lst (r.reverse.map rowD ++ [rowD s]) := by
  unfold rowsD
  rw [List.reverse_cons, List.map_append]
  rfl
section

variable {c : Cs} {P : Program} {w : World} {K : PySem.W.Frag} {mg : Str → Option Value} {base : Heap}
theorem ok_noughtN (T : Txt K mg c) {f : Addr} {fd : FuncData} (F : L2.Fun K "nought" "nought" s_nought f fd) : FnOk P w K mg base CX0 1 f fd P_nought (spN W_noughtN) := by
  refine okN F sc_nought (fun ds C ⟨n, e, _⟩ => by rw [e]; rfl) fun cdv A outer s H E hr => ⟨_, (pss_one (ps_ret (pe_op op_rep (pe_lst (pa_cons (pe_tup (pa_cons pe_int (pa_cons pe_int pa_nil))) pa_nil)) (pv 0)))), fun z ds C ⟨n, e, h, c⟩ => ?_⟩
  subst e
  refine XS.retF ?_
  (repeat' (first | refine XE.var rfl ?_ | refine XE.int ?_ | refine XE.tup ?_ | refine XE.ofN (XN.lst ?_) | refine XN.op dn_rep ?_ | refine XA.nil ?_ | refine XA.cons ?_ | refine go_len rfl ?_ | refine go_rep ?_ ?_ ?_ ?_))
  · omega
  · omega
  · simp; omega
  rw [flat_fr]
  exact c
end
theorem ad_nought {vs : List V} {H : Hp} {Q : VK} {E : XK} (h : spD W_nought vs H Q E) : spN W_noughtN vs H Q E := by
  obtain ⟨G, ds, C, hd, r, ⟨n, e, hn, c⟩, k⟩ := h
  refine ⟨G, ds, fun es => C (.lst es), hd, r, ⟨n, e, hn, c⟩, fun es p H' c' l n ⟨vs, hp, q⟩ => k _ _ H' c' (l.trans (hid1_le H' p)) (.lst (by rw [hid_out (no_of_dom hd n)]; exact hp) (q.mono (hid1_le H' p).hid))⟩
end My

set_option maxHeartbeats 1000000
namespace My
open PySem PySem.Spec PyProof.Rows L2
open C8 (Cal pe_c pe_gc)
/-! ### the rows of a house, told of data -/
def optD : Option Nat → Dat
  | some r => .int (r : Int)
  | none => .non
def optI : Option Int → Dat
  | some r => .int r
  | none => .non
def qD (q : Int × Int) : Dat := .tup [.int q.1, .int q.2]
def qsD (qs : List (Int × Int)) : Dat := .lst (qs.map qD)
def rwD (r : Rw) : Dat := .tup [.int r.1, qsD r.2]
def rwsD (rs : List Rw) : Dat := .lst (rs.map rwD)
def nsD (ns : List Int) : Dat := .lst (ns.map .int)
def W_root : WpD := fun ds C => ∃ n : Int, ds = [.int n] ∧ n < 2 ^ 58 ∧ C (optD (rootZ n))
def W_bare : WpD := fun ds C => ∃ n : Int, ds = [.int n] ∧ n ≠ 0 ∧ Bd (10 ^ 13) n ∧ (Bare (bareZ n) n → C (.int (bareZ n)))
def W_whole_root : WpD := fun ds C => ∃ c b a d : Int, ds = [nsD [c, b, a, d]] ∧ Bd 100 c ∧ Bd 100 b ∧ Bd 100 a ∧ C (optI (wholeZ c b a))
theorem ad_root {vs : List V} {H : Hp} {Q : VK} {E : XK} (h : spD W_root vs H Q E) : sp_root vs H Q E := by
  obtain ⟨G, ds, C, hd, r, ⟨n, rfl, hn, c⟩, k⟩ := h
  cases r with
  | cons r t =>
    cases r; cases t
    have kk : Q (atV (rootZ n)) H := by
      cases e : rootZ n with
      | none => rw [e] at c; exact k _ _ H c (Le.refl _) .non
      | some m => rw [e] at c; exact k _ _ H c (Le.refl _) (.int _)
    exact ⟨n, rfl, hn, (root_go kk).1, (root_go kk).2⟩
theorem ad_bare {vs : List V} {H : Hp} {Q : VK} {E : XK} (h : spD W_bare vs H Q E) : sp_bare_of vs H Q E := by
  obtain ⟨G, ds, C, hd, r, ⟨n, rfl, n0, hn, c⟩, k⟩ := h
  cases r with
  | cons r t =>
    cases r; cases t
    exact ⟨n, rfl, n0, hn, fun b hb => by rw [bareZ_of n0 hb] at c; exact k _ _ H (c hb) (Le.refl _) (.int _)⟩
theorem rp_ns {G : List Addr} {H : Hp} {v : V} {ns : List Int} (r : Rp (hid G H) v (nsD ns)) : ∃ a, v = .ref a ∧ H a = some (.lst (ns.map V.int)) := by
  cases r with
  | lst h r =>
    refine ⟨_, rfl, ?_⟩
    rw [(hid_some h).2]
    have : ∀ {ns : List Int} {vs : List V}, RpL (hid G H) vs (ns.map Dat.int) → vs = ns.map V.int := by
      intro ns
      induction ns with
      | nil => intro vs r; cases r; rfl
      | cons n ns ih => intro vs r; cases r with
        | cons a t => cases a; rw [ih t]; rfl
    rw [this r]
theorem ad_whole_root {K : PySem.W.Frag} {vs : List V} {H : Hp} {Q : VK} {E : XK} (h : spD W_whole_root vs H Q E) : sp_whole_root K vs H Q E := by
  obtain ⟨G, ds, C, hd, r, ⟨c, b, a, d, rfl, hc, hb, ha, q⟩, k⟩ := h
  cases r with
  | cons r t =>
    cases t
    obtain ⟨l, rfl, hl⟩ := rp_ns r
    refine ⟨l, _, c, b, a, rfl, SqL.of hl, ⟨d, rfl⟩, hc, hb, ha, fun H' s => ?_⟩
    cases e : wholeZ c b a with
    | none => rw [e] at q; exact k _ _ H' q (.of s) .non
    | some m => rw [e] at q; exact k _ _ H' q (.of s) (.int _)
def W_left_by : WpD := fun ds C => ∃ c b a d r : Int, ds = [nsD [c, b, a, d], .int r] ∧ Bd 100 b ∧ Bd 100 a ∧ Bd 100 r ∧ C (.tup [.int (a + r), .int (b + r * (a + r))])
def W_rows2 : WpD := fun ds C => ∃ p q : Int, ds = [.int p, .int q] ∧ Bd 1000000 p ∧ Bd 1000000 q ∧ p * p - 4 * q ≠ 0 ∧ C (rwsD (rows2 p q))
def W_by_squares : WpD := fun ds C => ∃ b a x y u : Int, ds = [nsD [b, x, a, y, u]] ∧ Bd 100 b ∧ Bd 100 a ∧ a * a - 4 * b ≠ 0 ∧ (Bd 10400 (bareZ (a * a - 4 * b)) → C (.tup [.int (bareZ (a * a - 4 * b)), .int (manyZ b a)]))
def W_told_by : WpD := fun ds C => ∃ ns : List Int, ds = [nsD ns] ∧ 2 ≤ ns.length ∧ ns.length ≤ 5 ∧ (∀ x ∈ ns, Bd 100 x) ∧ C (.int (toldOf ns))
def W_rows3 : WpD := fun ds C => ∃ c b a : Int, ds = [nsD [c, b, a, 1]] ∧ Bd 100 c ∧ Bd 100 b ∧ Bd 100 a ∧ toldOf [c, b, a, 1] ≠ 0 ∧ C (rwsD (rows3 c b a))
def W_halves : WpD := fun ds C => ∃ b a x y u : Int, ds = [nsD [b, x, a, y, u]] ∧ Bd 100 b ∧ Bd 100 a ∧ C (match halvesZ b a with
  | some (p, q) => nsD [p, q]
  | none => .non)
def W_within : WpD := fun ds C => ∃ b a x y u : Int, ds = [nsD [b, x, a, y, u]] ∧ Bd 100 b ∧ Bd 100 a ∧ C (optD (withinZ b a))
def W_rows4 : WpD := fun ds C => ∃ b a : Int, ds = [nsD [b, 0, a, 0, 1]] ∧ Bd 100 b ∧ Bd 100 a ∧ b ≠ 0 ∧ a * a - 4 * b ≠ 0 ∧ C (rwsD (rows4 b a))
def W_rows_of : WpD := fun ds C => ∃ ns : List Int, ds = [nsD ns] ∧ GoodP ns ∧ C (rwsD (rowsZ ns))
theorem ad_halves {K : PySem.W.Frag} {vs : List V} {H : Hp} {Q : VK} {E : XK} (h : spD W_halves vs H Q E) : sp_halves K vs H Q E := by
  obtain ⟨G, ds, C, hd, r, ⟨b, a, x, y, u, rfl, hb, ha, q⟩, k⟩ := h
  cases r with
  | cons r t =>
    cases t
    obtain ⟨l, rfl, hl⟩ := rp_ns r
    refine ⟨l, _, b, a, rfl, SqL.of hl, ⟨x, y, u, rfl⟩, hb, ha, fun e => ?_, fun p p' e H' m s n hm => ?_⟩
    · rw [e] at q; exact k _ _ H q (Le.refl _) .non
    · rw [e] at q
      exact k _ _ H' q (.of s) (.lst (by rw [hid_out (no_of_dom hd n)]; exact hm) (.cons (.int _) (.cons (.int _) .nil)))
theorem ad_within {K : PySem.W.Frag} {vs : List V} {H : Hp} {Q : VK} {E : XK} (h : spD W_within vs H Q E) : sp_root_within K vs H Q E := by
  obtain ⟨G, ds, C, hd, r, ⟨b, a, x, y, u, rfl, hb, ha, q⟩, k⟩ := h
  cases r with
  | cons r t =>
    cases t
    obtain ⟨l, rfl, hl⟩ := rp_ns r
    refine ⟨l, _, b, a, rfl, SqL.of hl, ⟨x, y, u, rfl⟩, hb, ha, fun H' s => ?_⟩
    cases e : withinZ b a with
    | none => rw [e] at q; exact k _ _ H' q (.of s) .non
    | some m => rw [e] at q; exact k _ _ H' q (.of s) (.int _)
theorem ad_told_by {K : PySem.W.Frag} {vs : List V} {H : Hp} {Q : VK} {E : XK} (h : spD W_told_by vs H Q E) : sp_told_by K vs H Q E := by
  obtain ⟨G, ds, C, hd, r, ⟨ns, rfl, h1, h2, h3, q⟩, k⟩ := h
  cases r with
  | cons r t =>
    cases t
    obtain ⟨l, rfl, hl⟩ := rp_ns r
    exact ⟨l, _, rfl, SqL.of hl, h1, h2, h3, fun H' s => k _ _ H' q (.of s) (.int _)⟩
theorem enum_row {ms : List Int} {i : Nat} {d o : Dat} (hi : (enumD (ms.map Dat.int))[i]? = some d) (ho : ((rowsOn 0 ms).map rwD)[i]? = some o) : ∃ n : Int, d = .tup [.int (i : Nat), .int n] ∧ o = rwD (2, (n, 1) :: List.replicate i (0, 1)) ∧ i < ms.length := by
  rw [enumD_at, List.getElem?_map] at hi
  cases e : ms[i]? with
  | none => rw [e] at hi; cases hi
  | some n =>
    rw [e] at hi
    have r := rowsOn_at (k := 0) e
    rw [Nat.zero_add] at r
    rw [List.getElem?_map, r] at ho
    exact ⟨n, (Option.some.inj hi).symm, (Option.some.inj ho).symm, (List.getElem?_eq_some_iff.mp e).1⟩
theorem XE.lenSetD {z : Cz} {g : List Sl} {m : Nat} {C : Nat → Dat → Prop} {ta : TE} {K : PySem.W.Frag} (h : XE z ta g m fun m1 d => ∃ ns : List Int, d = nsD ns ∧ ns.length ≤ 4000 ∧ C m1 (.int ((PyProof.Rows.firstMet (fun i => ns.getD i 0) ns.length).length : Nat))) : XE z (tLenSetD K ta) g m C := fun O σ H R Q k =>
  h O σ H R _ fun m1 d v H1 ⟨ns, e, hl, c⟩ R1 l1 q1 => by
    subst e
    obtain ⟨a, rfl, ha⟩ := rp_ns q1
    exact ⟨a, ns, rfl, SqL.of ha, hl, k m1 _ _ H1 c R1 l1 (.int _)⟩
theorem go_non {q : Prop} (c : q) : Dat.non = Dat.non ∧ q := ⟨rfl, c⟩
section

variable {c : Cs} {P : Program} {w : World} {K : PySem.W.Frag} {mg : Str → Option Value} {base : Heap}
theorem ok_left_byD (T : Txt K mg c) {f : Addr} {fd : FuncData} (F : L2.Fun K "left_by" "left_by" s_left_by f fd) : FnOk P w K mg base CX0 1 f fd P_left_by (spD W_left_by) := by
  refine okD F sc_left_by (fun ds C ⟨_, _, _, _, _, e, _⟩ => by rw [e]; rfl) fun cdv A outer s H E hr => ⟨_, (pss_cons (ps_asg (pe_slice sl_list (pv 0) po_none (po_some pe_int)) (pg_unl rfl (pgs_cons (pg_name (i := 2) sc_left_by.nd rfl (by first | exact Or.inl rfl | exact Or.inr rfl)) (pgs_cons (pg_name (i := 3) sc_left_by.nd rfl (by first | exact Or.inl rfl | exact Or.inr rfl)) (pgs_cons (pg_name (i := 4) sc_left_by.nd rfl (by first | exact Or.inl rfl | exact Or.inr rfl)) pgs_nil)))))
      (pss_one (ps_ret (pe_tup (pa_cons (pe_op op_add (pv 4) (pv 1)) (pa_cons (pe_op op_add (pv 3) (pe_op op_mulW (pv 1) (pe_op op_add (pv 4) (pv 1)))) pa_nil)))))), fun z ds C ⟨c, b, a, d, r, e, bb, ba, br, q⟩ => ?_⟩
  subst e
  (repeat' (first | (guard_target =~ XS _ _ _ _ _; first | refine XS.seq ?_ | refine XS.ret ?_ | refine XS.asg ?_) | (guard_target =~ XE _ _ _ _ _; first | refine XE.var rfl ?_ | refine XE.int ?_ | refine XE.op dr_I0 ?_ | refine XE.op dr_I ?_ | refine XE.tup ?_ | refine XE.ofN (XN.sl ?_)) | (guard_target =~ XA _ _ _ _ _; first | refine XA.nil ?_ | refine XA.cons ?_) | (guard_target =~ XO _ _ _ _ _; first | refine XO.no ?_ | refine XO.yes ?_) | (guard_target =~ XGs _ _ _ _ _ _; first | refine XGs.cons ?_ | refine XGs.nil ?_) | (guard_target =~ XG _ _ _ _ _ _; first | refine XG.name rfl ?_ | refine XG.unlG rfl ?_) | refine go_I0 ?_ | refine go_I ?_ ?_ | refine go_len rfl ?_ | refine go_int ?_ | refine go_lst ?_))
  · exact br.cm (n := 100) (ba.add br)
  skip
  exact q
theorem ok_rows_by_twoD (T : Txt K mg c) {f : Addr} {fd : FuncData} (F : L2.Fun K "rows_by_two" "rows_by_two" s_rows_by_two f fd) (h_bare_of : Cal P w K mg base 2 "bare_of" (spD W_bare) []) : FnOk P w K mg base CX0 3 f fd P_rows_by_two (spD W_rows2) := by
  refine okD F sc_rows_by_two (fun ds C ⟨_, _, e, _⟩ => by rw [e]; rfl) fun cdv A outer s H E hr => ⟨_, (pss_cons (ps_set (i := 2) sc_rows_by_two.nd rfl (by first | exact Or.inl rfl | exact Or.inr rfl) (pe_c h_bare_of hr (by decide) rfl (pa_cons (pe_op op_sub (pe_op op_mulW (pv 0) (pv 0)) (pe_op op_mulW pe_int (pv 1))) pa_nil)))
      (pss_cons (ps_if (pt_cmpR op_eq (pv 2) pe_int (nomark _)) (pss_one (ps_ret (pe_lst pa_nil))) pss_nil)
      (pss_one (ps_ret (pe_lst (pa_cons (pe_tup (pa_cons pe_int (pa_cons (pe_lst (pa_cons (pe_tup (pa_cons (pv 2) (pa_cons pe_int pa_nil))) pa_nil)) pa_nil))) pa_nil)))))), fun z ds C ⟨p, q, e, bp, bq, ne, c⟩ => ?_⟩
  subst e
  (repeat' (first | (guard_target =~ XS _ _ _ _ _; first | refine XS.seq ?_ | refine XS.set ?_) | (guard_target =~ XE _ _ _ _ _; first | refine XE.var rfl ?_ | refine XE.int ?_ | refine XE.op dr_I0 ?_ | refine XE.op dr_I ?_ | refine XE.call ?_) | (guard_target =~ XA _ _ _ _ _; first | refine XA.nil ?_ | refine XA.cons ?_) | refine go_I0 ?_ | refine go_I ?_ ?_))
  · exact bp.cm bp
  · exact (bd_lit (n := 4)).cm bq
  refine ⟨p * p - 4 * q, rfl, ne, Nat.le_trans ((bp.mul bp).sub ((bd_lit (n := 4)).mul bq)) (by decide), fun _ => ?_⟩
  (repeat' (first | refine XS.seq ?_ | refine XS.ite ?_ | refine XE.var rfl ?_ | refine XE.int ?_ | refine XE.op dr_eq ?_ | refine XT.test ?_ | refine go_eq rfl rfl rfl ?_ | refine go_bl ?_))
  by_cases e1 : bareZ (p * p - 4 * q) = 1
  · rw [show eqS (.int (bareZ (p * p - 4 * q))) (.int 1) = true from decide_eq_true e1]
    (repeat' (first | refine XS.ret ?_ | refine XE.ofN (XN.lst ?_) | refine XA.nil ?_ | refine go_len rfl ?_))
    rw [rows2, if_pos e1] at c
    exact c
  · rw [show eqS (.int (bareZ (p * p - 4 * q))) (.int 1) = false from decide_eq_false e1]
    (repeat' (first | refine XS.next ?_ | refine XS.ret ?_ | refine XE.var rfl ?_ | refine XE.int ?_ | refine XE.tup ?_ | refine XE.ofN (XN.lst ?_) | refine XA.nil ?_ | refine XA.cons ?_ | refine go_len rfl ?_))
    rw [rows2, if_neg e1] at c
    exact c
theorem ok_by_squaresD (T : Txt K mg c) {f : Addr} {fd : FuncData} (F : L2.Fun K "by_squares" "by_squares" s_by_squares f fd) (h_root_whole : Cal P w K mg base 1 "root_whole" (spD W_root) []) (h_bare_of : Cal P w K mg base 2 "bare_of" (spD W_bare) []) : FnOk P w K mg base CX0 3 f fd P_by_squares (spD W_by_squares) := by
  refine okD F sc_by_squares (fun ds C ⟨_, _, _, _, _, e, _⟩ => by rw [e]; rfl) fun cdv A outer s H E hr => ⟨_, (pss_cons (ps_par (i := 2) (j := 3) (by rfl) sc_by_squares.nd rfl rfl (by decide) rfl rfl (pa_cons (pe_ix ix_list (pv 0) pe_int (fun _ _ => rfl)) (pa_cons (pe_ix ix_list (pv 0) pe_int (fun _ _ => rfl)) pa_nil)) (by rfl))
      (pss_cons (ps_set (i := 1) sc_by_squares.nd rfl (by first | exact Or.inl rfl | exact Or.inr rfl) (pe_c h_bare_of hr (by decide) rfl (pa_cons (pe_op op_sub (pe_op op_mulW (pv 3) (pv 3)) (pe_op op_mulW pe_int (pv 2))) pa_nil)))
      (pss_one (ps_ret (pe_tup (pa_cons (pv 1) (pa_cons (pe_c h_root_whole hr (by decide) rfl (pa_cons (pe_op op_fdivA (pe_op op_sub (pe_op op_mulW (pv 3) (pv 3)) (pe_op op_mulW pe_int (pv 2))) (pv 1)) pa_nil)) pa_nil))))))), fun z ds C ⟨b, a, x, y, u, e, bb, ba, d0, c⟩ => ?_⟩
  subst e
  have bD : Bd 10400 (a * a - 4 * b) := (ba.mul ba).sub ((bd_lit (n := 4)).mul bb)
  have cA := ba.cm ba
  have cB : CMulW 4 b := Bd.cm (n := 4) bd_lit bb
  (repeat' (first | refine XS.seq ?_ | refine XS.par ?_ | refine XE.var rfl ?_ | refine XE.int ?_ | refine XE.op dr_ixL ?_ | refine XA.nil ?_ | refine XA.cons ?_ | refine go_ix rfl ?_))
  refine ⟨_, _, rfl, ?_⟩
  (repeat' (first | (guard_target =~ XS _ _ _ _ _; first | refine XS.seq ?_ | refine XS.set ?_) | (guard_target =~ XE _ _ _ _ _; first | refine XE.var rfl ?_ | refine XE.int ?_ | refine XE.op dr_I0 ?_ | refine XE.op dr_I ?_ | refine XE.call ?_) | (guard_target =~ XA _ _ _ _ _; first | refine XA.nil ?_ | refine XA.cons ?_) | refine go_I0 ?_ | refine go_I ?_ ?_))
  · exact cA
  · exact cB
  refine ⟨a * a - 4 * b, rfl, d0, Nat.le_trans bD (by decide), fun hn => ?_⟩
  obtain ⟨n0, sn, q, eq⟩ := id hn
  have q0 : q ≠ 0 := fun z => d0 (by rw [eq, z]; simp)
  have bn : (bareZ (a * a - 4 * b)).natAbs ≤ 10400 := by
    have e := congrArg Int.natAbs eq
    rw [Int.natAbs_mul] at e
    have p : 0 < (q * q).natAbs := Int.natAbs_pos.mpr (Int.mul_ne_zero q0 q0)
    have := Nat.le_mul_of_pos_right (bareZ (a * a - 4 * b)).natAbs p
    unfold Bd at bD
    omega
  have bq : (q * q).natAbs ≤ 10400 := by
    have e := congrArg Int.natAbs eq
    rw [Int.natAbs_mul] at e
    have p : 0 < (bareZ (a * a - 4 * b)).natAbs := Int.natAbs_pos.mpr n0
    have := Nat.le_mul_of_pos_left (q * q).natAbs p
    unfold Bd at bD
    omega
  have ef : Int.fdiv (a * a - 4 * b) (bareZ (a * a - 4 * b)) = q * q := Int.fdiv_eq_of_eq_mul_right n0 eq
  (repeat' (first | (guard_target =~ XS _ _ _ _ _; first | refine XS.ret ?_) | (guard_target =~ XE _ _ _ _ _; first | refine XE.var rfl ?_ | refine XE.int ?_ | refine XE.op dr_I0 ?_ | refine XE.op dr_I ?_ | refine XE.tup ?_ | refine XE.call ?_) | (guard_target =~ XA _ _ _ _ _; first | refine XA.nil ?_ | refine XA.cons ?_) | refine go_I0 ?_ | refine go_I ?_ ?_))
  · exact cA
  · exact cB
  · exact ⟨n0, log_small (by omega)⟩
  refine ⟨_, rfl, by rw [ef]; omega, ?_⟩
  have em : optD (rootZ (Int.fdiv (a * a - 4 * b) (bareZ (a * a - 4 * b)))) = .int (manyZ b a) := by
    have er : rootZ (q * q) = some q.natAbs := rootZ_of (by rw [← Int.natAbs_mul_self' q])
    unfold manyZ
    rw [ef, er]
    rfl
  rw [em]
  (repeat' (first | refine XA.nil ?_ | refine go_len rfl ?_))
  exact c bn
theorem ok_rows_by_threeD (T : Txt K mg c) {f : Addr} {fd : FuncData} (F : L2.Fun K "rows_by_three" "rows_by_three" s_rows_by_three f fd) (h_root_whole : Cal P w K mg base 1 "root_whole" (spD W_root) []) (h_bare_of : Cal P w K mg base 2 "bare_of" (spD W_bare) []) (h_whole_root : Cal P w K mg base 1 "whole_root" (spD W_whole_root) [])
    (h_left_by : Cal P w K mg base 1 "left_by" (spD W_left_by) []) (h_rows_by_two : Cal P w K mg base 3 "rows_by_two" (spD W_rows2) []) (h_told_by : Cal P w K mg base 1 "told_by" (spD W_told_by) []) : FnOk P w K mg base CX0 4 f fd P_rows_by_three (spD W_rows3) := by
  refine okD F sc_rows_by_three (fun ds C ⟨_, _, _, e, _⟩ => by rw [e]; rfl) fun cdv A outer s H E hr => ⟨_, (pss_cons (ps_set (i := 1) sc_rows_by_three.nd rfl (by first | exact Or.inl rfl | exact Or.inr rfl) (pe_c h_whole_root hr (by decide) rfl (pa_cons (pv 0) pa_nil)))
      (pss_cons (ps_if (pt_cmpR op_notN (pv 1) pe_non (nomark _)) (pss_cons (ps_asg (pe_c h_left_by hr (by decide) rfl (pa_cons (pv 0) (pa_cons (pv 1) pa_nil))) (pg_tup rfl (pgs_cons (pg_name (i := 4) sc_rows_by_three.nd rfl (by first | exact Or.inl rfl | exact Or.inr rfl)) (pgs_cons (pg_name (i := 5) sc_rows_by_three.nd rfl (by first | exact Or.inl rfl | exact Or.inr rfl)) pgs_nil))))
      (pss_one (ps_ret (pe_c h_rows_by_two hr (by decide) rfl (pa_cons (pv 4) (pa_cons (pv 5) pa_nil)))))) pss_nil)
      (pss_cons (ps_set (i := 2) sc_rows_by_three.nd rfl (by first | exact Or.inl rfl | exact Or.inr rfl) (pe_lst (pa_cons (pe_tup (pa_cons pe_int (pa_cons (pe_lc (own := [("number", 3)]) (g := gName 3) (by rfl) sc_rows_by_three.nd (pi_list (pe_slice sl_list (pv 0) po_none (po_some pe_int))) (blkOk_by (own := [("number", 3)]) (N := N_rows_by_three) (sc := defScope s_rows_by_three) (by decide +kernel)) (fun _ _ _ _ _ => (pg_name (i := 3) sc_rows_by_three.nd rfl (by first | exact Or.inl rfl | exact Or.inr rfl))) (fun _ _ _ _ _ => pts_nil) (fun _ _ _ _ _ => (pe_tup (pa_cons (pe_op op_sub pe_int (pv 3)) (pa_cons pe_int pa_nil))))) pa_nil))) pa_nil)))
      (pss_cons (ps_set (i := 3) sc_rows_by_three.nd rfl (by first | exact Or.inl rfl | exact Or.inr rfl) (pe_c h_told_by hr (by decide) rfl (pa_cons (pv 0) pa_nil)))
      (pss_cons (ps_if (pt_cmpR op_isN (pe_c h_root_whole hr (by decide) rfl (pa_cons (pv 3) pa_nil)) pe_non (nomark _)) (pss_one (ps_expr (pe_bm PySem.F.plainAttrs_list PySem.F.slot_list_append PySem.F.type_list_append mt_append (pv 2) (pa_cons (pe_tup (pa_cons pe_int (pa_cons (pe_lst (pa_cons (pe_tup (pa_cons (pe_c h_bare_of hr (by decide) rfl (pa_cons (pv 3) pa_nil)) (pa_cons pe_int pa_nil))) (pa_cons (pe_tup (pa_cons pe_int (pa_cons pe_int pa_nil))) (pa_cons (pe_tup (pa_cons pe_int (pa_cons pe_int pa_nil))) pa_nil)))) pa_nil))) pa_nil)))) pss_nil)
      (pss_one (ps_ret (pv 2)))))))), fun z ds C ⟨c, b, a, e, bc, bb, ba, t0, q⟩ => ?_⟩
  subst e
  (repeat' (first | refine XS.seq ?_ | refine XS.set ?_ | refine XE.var rfl ?_ | refine XE.call ?_ | refine XA.nil ?_ | refine XA.cons ?_))
  refine ⟨c, b, a, 1, rfl, bc, bb, ba, ?_⟩
  have b18 : Bd 18 18 := bd_lit
  have b4 : Bd 4 4 := bd_lit
  have b27 : Bd 27 27 := bd_lit
  have bt : Bd (10 ^ 9) (toldOf [c, b, a, 1]) := by
    have := (((((((b18.mul ba).mul bb).mul bc).sub ((((b4.mul ba).mul ba).mul ba).mul bc)).add (((ba.mul ba).mul bb).mul bb)).sub (((b4.mul bb).mul bb).mul bb)).sub ((b27.mul bc).mul bc))
    exact Nat.le_trans this (by decide)
  cases ew : wholeZ c b a with
  | some r =>
    have br := wholeZ_in ew
    (repeat' (first | (guard_target =~ XS _ _ _ _ _; first | refine XS.seq ?_ | refine XS.ite ?_ | refine XS.asg ?_) | (guard_target =~ XE _ _ _ _ _; first | refine XE.var rfl ?_ | refine XE.non ?_ | refine XE.op dr_notN ?_ | refine XE.call ?_) | (guard_target =~ XA _ _ _ _ _; first | refine XA.nil ?_ | refine XA.cons ?_) | (guard_target =~ XT _ _ _ _ _; first | refine XT.test ?_) | refine go_non ?_ | refine go_bl ?_))
    refine ⟨c, b, a, 1, r, rfl, bb, ba, br, ?_⟩
    (repeat' (first | refine XS.ret ?_ | refine XE.var rfl ?_ | refine XE.call ?_ | refine XA.nil ?_ | refine XA.cons ?_ | refine XGs.cons ?_ | refine XGs.nil ?_ | refine XG.name rfl ?_ | refine XG.tupG rfl ?_))
    refine ⟨a + r, b + r * (a + r), rfl, Nat.le_trans (ba.add br) (by decide), Nat.le_trans (bb.add (br.mul (ba.add br))) (by decide), left_ne ew t0, ?_⟩
    skip
    rw [rows3, ew] at q
    exact q
  | none =>
    (repeat' (first | (guard_target =~ XS _ _ _ _ _; first | refine XS.next ?_ | refine XS.seq ?_ | refine XS.setO (i := 2) ?_ | refine XS.ite ?_) | (guard_target =~ XE _ _ _ _ _; first | refine XE.var rfl ?_ | refine XE.int ?_ | refine XE.non ?_ | refine XE.op dr_notN ?_ | refine XE.tup ?_) | (guard_target =~ XN _ _ _ _ _; first | refine XN.lst ?_) | (guard_target =~ XA _ _ _ _ _; first | refine XA.cons ?_) | (guard_target =~ XT _ _ _ _ _; first | refine XT.test ?_) | refine go_non ?_ | refine go_bl ?_))
    refine XE.ofN (XN.to (XI.list ?_))
    (repeat' (first | refine XE.var rfl ?_ | refine XE.int ?_ | refine XE.ofN (XN.sl ?_) | refine XO.no ?_ | refine XO.yes ?_ | refine go_int ?_ | refine go_lst ?_))
    show ∃ out : List Dat, ([.int c, .int b, .int a] : List Dat).length = out.length ∧ ([.int c, .int b, .int a] : List Dat).length ≤ 1000 ∧ (∀ i d o, ([.int c, .int b, .int a] : List Dat)[i]? = some d → out[i]? = some o → _) ∧ _
    refine ⟨[qD (0 - c, 1), qD (0 - b, 1), qD (0 - a, 1)], rfl, (show 3 ≤ 1000 by decide), fun i d o hi ho => ?_, ?_⟩
    · have eo : ∃ n : Int, d = .int n ∧ o = qD (0 - n, 1) := by
        rcases i with _ | _ | _ | i <;> simp at hi ho <;> subst hi ho <;> exact ⟨_, rfl, by rw [Int.zero_sub]⟩
      obtain ⟨n, rfl, rfl⟩ := eo
      (repeat' (first | refine XE.var rfl ?_ | refine XE.int ?_ | refine XE.op dr_I0 ?_ | refine XE.tup ?_ | refine XA.nil ?_ | refine XA.cons ?_ | refine XG.name rfl ?_ | refine go_I0 ?_ | refine go_len rfl ?_))
      exact ⟨rfl, rfl⟩
    (repeat' (first | refine XS.seq ?_ | refine XS.set ?_ | refine XE.var rfl ?_ | refine XE.call ?_ | refine XA.nil ?_ | refine XA.cons ?_ | refine go_len rfl ?_))
    refine ⟨[c, b, a, 1], rfl, (by show 2 ≤ 4; decide), (by show 4 ≤ 5; decide), ?_, ?_⟩
    · intro x hx
      simp only [List.mem_cons, List.not_mem_nil, or_false] at hx
      rcases hx with rfl | rfl | rfl | rfl
      · exact bc
      · exact bb
      · exact ba
      · exact bd_lit
    (repeat' (first | refine XS.seq ?_ | refine XS.ite ?_ | refine XE.var rfl ?_ | refine XE.op dr_isN ?_ | refine XE.call ?_ | refine XA.nil ?_ | refine XA.cons ?_ | refine XT.test ?_))
    refine ⟨_, rfl, by unfold Bd at bt; omega, ?_⟩
    rw [rows3, ew] at q
    cases er : rootZ (toldOf [c, b, a, 1]) with
    | some m =>
      (repeat' (first | refine XS.next ?_ | refine XS.retO (i := 2) rfl ?_ | refine XE.non ?_ | refine go_non ?_ | refine go_bl ?_))
      dsimp only at q
      rw [er, if_neg (by simp)] at q
      exact q
    | none =>
      (repeat' (first | (guard_target =~ XS _ _ _ _ _; first | refine XS.app rfl (i := 2) rfl ?_) | (guard_target =~ XE _ _ _ _ _; first | refine XE.var rfl ?_ | refine XE.int ?_ | refine XE.non ?_ | refine XE.tup ?_ | refine XE.ofN (XN.lst ?_) | refine XE.call ?_) | (guard_target =~ XA _ _ _ _ _; first | refine XA.nil ?_ | refine XA.cons ?_) | refine go_non ?_ | refine go_bl ?_))
      refine ⟨_, rfl, t0, Nat.le_trans bt (by decide), fun _ => ?_⟩
      (repeat' (first | refine XS.retO (i := 2) rfl ?_ | refine XE.int ?_ | refine XE.tup ?_ | refine XA.nil ?_ | refine XA.cons ?_ | refine go_len rfl ?_ | refine go_app ?_ ?_))
      · exact (show 1 ≤ 1000 by decide)
      skip
      dsimp only at q
      rw [er, if_pos rfl] at q
      exact q
theorem ok_rows_by_fourD (T : Txt K mg c) {f : Addr} {fd : FuncData} (F : L2.Fun K "rows_by_four" "rows_by_four" s_rows_by_four f fd) (h_root_whole : Cal P w K mg base 1 "root_whole" (spD W_root) []) (h_bare_of : Cal P w K mg base 2 "bare_of" (spD W_bare) []) (h_halves : Cal P w K mg base 2 "halves" (spD W_halves) [])
    (h_nought : Cal P w K mg base 1 "nought" (spD W_nought) []) (h_by_squares : Cal P w K mg base 3 "by_squares" (spD W_by_squares) []) (h_root_within : Cal P w K mg base 2 "root_within" (spD W_within) []) (h_lowest : Cal P w K mg base 2 "lowest" (spD W_lowest) []) : FnOk P w K mg base CX0 4 f fd P_rows_by_four (spD W_rows4) := by
  refine okD F sc_rows_by_four (fun ds C ⟨_, _, e, _⟩ => by rw [e]; rfl) fun cdv A outer s H E hr => ⟨_, (pss_cons (ps_par (i := 3) (j := 4) (by rfl) sc_rows_by_four.nd rfl rfl (by decide) rfl rfl (pa_cons (pe_ix ix_list (pv 0) pe_int (fun _ _ => rfl)) (pa_cons (pe_ix ix_list (pv 0) pe_int (fun _ _ => rfl)) pa_nil)) (by rfl))
      (pss_cons (ps_set (i := 1) sc_rows_by_four.nd rfl (by first | exact Or.inl rfl | exact Or.inr rfl) (pe_c h_halves hr (by decide) rfl (pa_cons (pv 0) pa_nil)))
      (pss_cons (ps_if (pt_cmpR op_notN (pv 1) pe_non (nomark _)) (pss_cons (ps_setLc (i := 5) (own := [("number", 6)]) (g := gName 6) (by rfl) sc_rows_by_four.nd rfl rfl (sw_true rfl rfl rfl (by decide +kernel)) (pi_list (pe_lst (pa_cons (pe_c h_bare_of hr (by decide) rfl (pa_cons (pe_ix ix_list (pv 1) pe_int (fun _ _ => rfl)) pa_nil)) (pa_cons (pe_c h_bare_of hr (by decide) rfl (pa_cons (pe_ix ix_list (pv 1) pe_int (fun _ _ => rfl)) pa_nil)) pa_nil)))) (blkOk_by (own := [("number", 6)]) (N := N_rows_by_four) (sc := defScope s_rows_by_four) (by decide +kernel)) (fun _ _ _ _ _ => (pg_name (i := 6) sc_rows_by_four.nd rfl (by first | exact Or.inl rfl | exact Or.inr rfl))) (fun _ _ _ _ _ => (pts_one (pt_cmpR op_ne (pv 6) pe_int (nomark _)))) (fun _ _ _ _ _ => (pv 6)))
      (pss_cons (ps_if (pt_cmpR op_lt (pe_lenSetD rfl T.z_len rfl T.z_set (pv 5)) (pe_callB call_len_seq (by rfl) T.z_len (by decide +kernel) (pa_cons (pv 5) pa_nil)) (nomark _)) (pss_one (ps_set (i := 5) sc_rows_by_four.nd rfl (by first | exact Or.inl rfl | exact Or.inr rfl) (pe_slice sl_list (pv 5) po_none (po_some pe_int)))) pss_nil)
      (pss_one (ps_ret (pe_lc (own := [("at", 8), ("number", 6)]) (g := gTup K 2 (gCons (gName 8) (gCons (gName 6) gNil))) (by rfl) sc_rows_by_four.nd (pi_enum (by rfl) T.z_enumerate (pa_cons (pv 5) pa_nil)) (blkOk_by (own := [("at", 8), ("number", 6)]) (N := N_rows_by_four) (sc := defScope s_rows_by_four) (by decide +kernel)) (fun _ _ _ _ _ => (pg_tup rfl (pgs_cons (pg_name (i := 8) sc_rows_by_four.nd rfl (by first | exact Or.inl rfl | exact Or.inr rfl)) (pgs_cons (pg_name (i := 6) sc_rows_by_four.nd rfl (by first | exact Or.inl rfl | exact Or.inr rfl)) pgs_nil)))) (fun _ _ _ _ _ => pts_nil) (fun _ _ _ _ _ => (pe_tup (pa_cons pe_int (pa_cons (pe_op op_cat (pe_lst (pa_cons (pe_tup (pa_cons (pv 6) (pa_cons pe_int pa_nil))) pa_nil)) (pe_c h_nought hr (by decide) rfl (pa_cons (pv 8) pa_nil))) pa_nil))))))))) pss_nil)
      (pss_cons (ps_asg (pe_c h_by_squares hr (by decide) rfl (pa_cons (pv 0) pa_nil)) (pg_tup rfl (pgs_cons (pg_name (i := 6) sc_rows_by_four.nd rfl (by first | exact Or.inl rfl | exact Or.inr rfl)) (pgs_cons (pg_name (i := 7) sc_rows_by_four.nd rfl (by first | exact Or.inl rfl | exact Or.inr rfl)) pgs_nil))))
      (pss_cons (ps_set (i := 2) sc_rows_by_four.nd rfl (by first | exact Or.inl rfl | exact Or.inr rfl) (pe_lst (pa_cons (pe_tup (pa_cons pe_int (pa_cons (pe_lst (pa_cons (pe_tup (pa_cons (pv 6) (pa_cons pe_int pa_nil))) pa_nil)) pa_nil))) pa_nil)))
      (pss_cons (ps_if (pt_cmpR op_notN (pe_c h_root_within hr (by decide) rfl (pa_cons (pv 0) pa_nil)) pe_non (nomark _)) (pss_one (ps_ret (pv 2))) pss_nil)
      (pss_cons (ps_expr (pe_bm PySem.F.plainAttrs_list PySem.F.slot_list_append PySem.F.type_list_append mt_append (pv 2) (pa_cons (pe_tup (pa_cons pe_int (pa_cons (pe_lst (pa_cons (pe_c h_lowest hr (by decide) rfl (pa_cons (pe_op op_sub pe_int (pv 4)) (pa_cons pe_int pa_nil))) (pa_cons (pe_c h_lowest hr (by decide) rfl (pa_cons (pv 7) (pa_cons pe_int pa_nil))) pa_nil))) pa_nil))) pa_nil)))
      (pss_cons (ps_if (PW.pt (pw_and (pt_cmpR op_isN (pe_c h_root_whole hr (by decide) rfl (pa_cons (pv 3) pa_nil)) pe_non (nomark _)) (pw_and1 (pt_cmpR op_isN (pe_c h_root_whole hr (by decide) rfl (pa_cons (pe_op op_mulW (pv 3) (pv 6)) pa_nil)) pe_non (nomark _))))) (pss_one (ps_expr (pe_bm PySem.F.plainAttrs_list PySem.F.slot_list_append PySem.F.type_list_append mt_append (pv 2) (pa_cons (pe_tup (pa_cons pe_int (pa_cons (pe_op op_cat (pe_lst (pa_cons (pe_tup (pa_cons (pe_c h_bare_of hr (by decide) rfl (pa_cons (pv 3) pa_nil)) (pa_cons pe_int pa_nil))) pa_nil)) (pe_c h_nought hr (by decide) rfl (pa_cons pe_int pa_nil))) pa_nil))) pa_nil)))) pss_nil)
      (pss_one (ps_ret (pv 2))))))))))), fun z ds C ⟨b, a, e, bb, ba, b0, d0, q⟩ => ?_⟩
  subst e
  (repeat' (first | refine XS.seq ?_ | refine XS.par ?_ | refine XE.var rfl ?_ | refine XE.int ?_ | refine XE.op dr_ixL ?_ | refine XA.nil ?_ | refine XA.cons ?_ | refine go_ix rfl ?_))
  refine ⟨_, _, rfl, ?_⟩
  (repeat' (first | refine XS.seq ?_ | refine XS.set ?_ | refine XE.var rfl ?_ | refine XE.call ?_ | refine XA.nil ?_ | refine XA.cons ?_))
  refine ⟨b, a, 0, 0, 1, rfl, bb, ba, ?_⟩
  cases eh : halvesZ b a with
  | some xy =>
    obtain ⟨x, y⟩ := xy
    obtain ⟨x0, y0, exy⟩ := halves_ne eh b0
    have bx : Bd 100 x := by
      have e := congrArg Int.natAbs exy
      rw [Int.natAbs_mul] at e
      have p0 : 0 < y.natAbs := Int.natAbs_pos.mpr y0
      have := Nat.le_mul_of_pos_right x.natAbs p0
      unfold Bd at bb ⊢
      omega
    have by' : Bd 100 y := by
      have e := congrArg Int.natAbs exy
      rw [Int.natAbs_mul] at e
      have p0 : 0 < x.natAbs := Int.natAbs_pos.mpr x0
      have := Nat.le_mul_of_pos_left y.natAbs p0
      unfold Bd at bb ⊢
      omega
    rw [rows4, eh] at q
    (repeat' (first | refine XS.seq ?_ | refine XS.set ?_ | refine XS.ite ?_ | refine XE.var rfl ?_ | refine XE.non ?_ | refine XE.op dr_notN ?_ | refine XT.test ?_ | refine go_non ?_ | refine go_bl ?_))
    refine XE.ofN (XN.lc (XI.list ?_))
    (repeat' (first | refine XE.var rfl ?_ | refine XE.int ?_ | refine XE.op dr_ixL ?_ | refine XE.ofN (XN.lst ?_) | refine XE.call ?_ | refine XA.nil ?_ | refine XA.cons ?_ | refine go_ix rfl ?_))
    refine ⟨x, rfl, x0, Nat.le_trans bx (by decide), fun _ => ?_⟩
    (repeat' (first | refine XE.var rfl ?_ | refine XE.int ?_ | refine XE.op dr_ixL ?_ | refine XE.call ?_ | refine XA.nil ?_ | refine XA.cons ?_ | refine go_ix rfl ?_))
    refine ⟨y, rfl, y0, Nat.le_trans by' (by decide), fun _ => ?_⟩
    (repeat' (first | refine XA.nil ?_ | refine go_len rfl ?_ | refine go_lst ?_))
    refine ⟨fun i acc m => acc = (([bareZ x, bareZ y].take i).filter (fun n => decide (n ≠ 1))).map Dat.int ∧ m = 0, ⟨rfl, rfl⟩, fun i d acc m2 hi ⟨e1, e2⟩ => ?_, fun acc m2 ⟨e1, e2⟩ => ?_⟩
    · have hd : ∃ n : Int, [bareZ x, bareZ y][i]? = some n ∧ d = .int n := by
        rcases i with _ | _ | i <;> simp at hi <;> subst hi <;> exact ⟨_, rfl, rfl⟩
      obtain ⟨n, hn, rfl⟩ := hd
      subst e1 e2
      (repeat' (first | refine XE.var rfl ?_ | refine XE.int ?_ | refine XE.op dr_ne ?_ | refine XT.test ?_ | refine XG.name rfl ?_ | refine go_ne rfl rfl rfl ?_ | refine go_bl ?_))
      by_cases n1 : n = 1
      · rw [show (!eqS (.int n) (.int 1)) = false by show (!decide (n = 1)) = false; rw [decide_eq_true n1]; rfl]
        refine iteF ?_
        refine ⟨?_, rfl⟩
        rw [take_more hn, List.filter_append, List.filter_cons_of_neg (by simp [n1]), List.filter_nil, List.append_nil]
      · rw [show (!eqS (.int n) (.int 1)) = true by show (!decide (n = 1)) = true; rw [decide_eq_false n1]; rfl]
        refine iteT ?_
        (repeat' (first | refine XE.var rfl ?_))
        refine ⟨?_, ?_, rfl⟩
        · rw [List.length_map]
          have h1 := List.length_filter_le (fun n : Int => decide (n ≠ 1)) ([bareZ x, bareZ y].take i)
          have h2 := List.length_take_le i [bareZ x, bareZ y]
          have h3 := (List.getElem?_eq_some_iff.mp hn).1
          have h4 : [bareZ x, bareZ y].length = 2 := rfl
          omega
        · rw [take_more hn, List.filter_append, List.filter_cons_of_pos (by simp [n1]), List.filter_nil, List.map_append]; rfl
    subst e1 e2
    obtain ⟨ns, hns⟩ : ∃ ns, ns = [bareZ x, bareZ y].filter (fun n => decide (n ≠ 1)) := ⟨_, rfl⟩
    have e3 : ([bareZ x, bareZ y].take ([Dat.int (bareZ x), Dat.int (bareZ y)]).length).filter (fun n => decide (n ≠ 1)) = ns := hns.symm
    rw [e3]
    have nl : ns.length ≤ 2 := by rw [hns]; exact List.length_filter_le _ _
    have en : numsZ x y = numsOf ns := by
      unfold numsZ
      rw [← hns]
    dsimp only at q
    rw [en] at q
    rcases ns with _ | ⟨p, _ | ⟨p', _ | ⟨r, ns⟩⟩⟩
    · (repeat' (first | refine XS.seq ?_ | refine XS.ite ?_ | refine XE.op dr_I0 ?_ | refine XT.test ?_))
      refine XE.lenSetD ?_
      (repeat' (first | refine XE.var rfl ?_))
      refine ⟨[], rfl, by decide, ?_⟩
      (repeat' (first | refine XS.next ?_ | refine XS.ret ?_ | refine XE.var rfl ?_ | refine XE.len1 ?_ | refine go_len1 rfl ?_ | refine go_I0 ?_ | refine go_bl ?_))
      (try refine iteF ?_)
      skip
      refine XE.ofN (XN.to (XI.enum ?_))
      (repeat' (first | refine XE.var rfl ?_ | refine XA.nil ?_ | refine XA.cons ?_ | refine go_enum ?_))
      refine ⟨(rowsOn 0 []).map rwD, rfl, (show 0 ≤ 1000 by decide), fun i d o hi ho => ?_, q⟩
      obtain ⟨n, rfl, rfl, hi1⟩ := enum_row (show (enumD (([] : List Int).map Dat.int))[i]? = some d from hi) ho
      have hi2 : i < 2 := Nat.lt_of_lt_of_le hi1 (show 0 ≤ 2 by decide)
      (repeat' (first | (guard_target =~ XE _ _ _ _ _; first | refine XE.var rfl ?_ | refine XE.int ?_ | refine XE.tup ?_ | refine XE.ofN (XN.lst ?_) | refine XE.ofN (XN.op dn_cat ?_) | refine XE.call ?_) | (guard_target =~ XA _ _ _ _ _; first | refine XA.nil ?_ | refine XA.cons ?_) | (guard_target =~ XGs _ _ _ _ _ _; first | refine XGs.cons ?_ | refine XGs.nil ?_) | (guard_target =~ XG _ _ _ _ _ _; first | refine XG.name rfl ?_ | refine XG.tupG rfl ?_) | refine go_len rfl ?_))
      refine ⟨i, rfl, by omega, ?_⟩
      (repeat' (first | refine XA.nil ?_ | refine go_len rfl ?_ | refine go_cat ?_ ?_))
      · show 1 + _ ≤ 1000
        rw [List.length_map, vz_len]; omega
      skip
      refine ⟨rfl, ?_⟩
      unfold rwD qsD
      rw [List.map_cons, List.map_replicate, vz, List.map_replicate]; rfl
    · (repeat' (first | refine XS.seq ?_ | refine XS.ite ?_ | refine XE.op dr_I0 ?_ | refine XT.test ?_))
      refine XE.lenSetD ?_
      (repeat' (first | refine XE.var rfl ?_))
      refine ⟨[p], rfl, (show 1 ≤ 4000 by decide), ?_⟩
      (repeat' (first | refine XS.next ?_ | refine XS.ret ?_ | refine XE.var rfl ?_ | refine XE.len1 ?_ | refine go_len1 rfl ?_ | refine go_I0 ?_ | refine go_bl ?_))
      (try refine iteF ?_)
      skip
      refine XE.ofN (XN.to (XI.enum ?_))
      (repeat' (first | refine XE.var rfl ?_ | refine XA.nil ?_ | refine XA.cons ?_ | refine go_enum ?_))
      refine ⟨(rowsOn 0 [p]).map rwD, rfl, (show 1 ≤ 1000 by decide), fun i d o hi ho => ?_, q⟩
      obtain ⟨n, rfl, rfl, hi1⟩ := enum_row (show (enumD (([p] : List Int).map Dat.int))[i]? = some d from hi) ho
      have hi2 : i < 2 := Nat.lt_of_lt_of_le hi1 (show 1 ≤ 2 by decide)
      (repeat' (first | (guard_target =~ XE _ _ _ _ _; first | refine XE.var rfl ?_ | refine XE.int ?_ | refine XE.tup ?_ | refine XE.ofN (XN.lst ?_) | refine XE.ofN (XN.op dn_cat ?_) | refine XE.call ?_) | (guard_target =~ XA _ _ _ _ _; first | refine XA.nil ?_ | refine XA.cons ?_) | (guard_target =~ XGs _ _ _ _ _ _; first | refine XGs.cons ?_ | refine XGs.nil ?_) | (guard_target =~ XG _ _ _ _ _ _; first | refine XG.name rfl ?_ | refine XG.tupG rfl ?_) | refine go_len rfl ?_))
      refine ⟨i, rfl, by omega, ?_⟩
      (repeat' (first | refine XA.nil ?_ | refine go_len rfl ?_ | refine go_cat ?_ ?_))
      · show 1 + _ ≤ 1000
        rw [List.length_map, vz_len]; omega
      skip
      refine ⟨rfl, ?_⟩
      unfold rwD qsD
      rw [List.map_cons, List.map_replicate, vz, List.map_replicate]; rfl
    · have q : C (rwsD (rowsOn 0 (if p = p' then [p] else [p, p']))) := q
      (repeat' (first | refine XS.seq ?_ | refine XS.ite ?_ | refine XE.op dr_I0 ?_ | refine XT.test ?_))
      refine XE.lenSetD ?_
      (repeat' (first | refine XE.var rfl ?_))
      refine ⟨[p, p'], rfl, (show 2 ≤ 4000 by decide), ?_⟩
      rw [show (PyProof.Rows.firstMet (fun i => [p, p'].getD i 0) [p, p'].length).length = if p = p' then 1 else 2 from fm2 p p']
      by_cases e : p = p'
      · rw [if_pos e]
        rw [if_pos e] at q
        (repeat' (first | (guard_target =~ XS _ _ _ _ _; first | refine XS.set ?_ | refine XS.ret ?_) | (guard_target =~ XE _ _ _ _ _; first | refine XE.var rfl ?_ | refine XE.int ?_ | refine XE.ofN (XN.sl ?_) | refine XE.len1 ?_) | (guard_target =~ XO _ _ _ _ _; first | refine XO.no ?_ | refine XO.yes ?_) | refine go_len1 rfl ?_ | refine go_I0 ?_ | refine go_int ?_ | refine go_lst ?_ | refine go_bl ?_))
        (try refine iteT ?_)
        skip
        refine XE.ofN (XN.to (XI.enum ?_))
        (repeat' (first | refine XE.var rfl ?_ | refine XA.nil ?_ | refine XA.cons ?_ | refine go_enum ?_))
        refine ⟨(rowsOn 0 [p]).map rwD, rfl, (show 1 ≤ 1000 by decide), fun i d o hi ho => ?_, q⟩
        obtain ⟨n, rfl, rfl, hi1⟩ := enum_row (show (enumD (([p] : List Int).map Dat.int))[i]? = some d from hi) ho
        have hi2 : i < 2 := Nat.lt_of_lt_of_le hi1 (show 1 ≤ 2 by decide)
        (repeat' (first | (guard_target =~ XE _ _ _ _ _; first | refine XE.var rfl ?_ | refine XE.int ?_ | refine XE.tup ?_ | refine XE.ofN (XN.lst ?_) | refine XE.ofN (XN.op dn_cat ?_) | refine XE.call ?_) | (guard_target =~ XA _ _ _ _ _; first | refine XA.nil ?_ | refine XA.cons ?_) | (guard_target =~ XGs _ _ _ _ _ _; first | refine XGs.cons ?_ | refine XGs.nil ?_) | (guard_target =~ XG _ _ _ _ _ _; first | refine XG.name rfl ?_ | refine XG.tupG rfl ?_) | refine go_len rfl ?_))
        refine ⟨i, rfl, by omega, ?_⟩
        (repeat' (first | refine XA.nil ?_ | refine go_len rfl ?_ | refine go_cat ?_ ?_))
        · show 1 + _ ≤ 1000
          rw [List.length_map, vz_len]; omega
        skip
        refine ⟨rfl, ?_⟩
        unfold rwD qsD
        rw [List.map_cons, List.map_replicate, vz, List.map_replicate]; rfl
      · rw [if_neg e]
        rw [if_neg e] at q
        (repeat' (first | refine XS.next ?_ | refine XS.ret ?_ | refine XE.var rfl ?_ | refine XE.len1 ?_ | refine go_len1 rfl ?_ | refine go_I0 ?_ | refine go_bl ?_))
        (try refine iteF ?_)
        skip
        refine XE.ofN (XN.to (XI.enum ?_))
        (repeat' (first | refine XE.var rfl ?_ | refine XA.nil ?_ | refine XA.cons ?_ | refine go_enum ?_))
        refine ⟨(rowsOn 0 [p, p']).map rwD, rfl, (show 2 ≤ 1000 by decide), fun i d o hi ho => ?_, q⟩
        obtain ⟨n, rfl, rfl, hi1⟩ := enum_row (show (enumD (([p, p'] : List Int).map Dat.int))[i]? = some d from hi) ho
        have hi2 : i < 2 := Nat.lt_of_lt_of_le hi1 (show 2 ≤ 2 by decide)
        (repeat' (first | (guard_target =~ XE _ _ _ _ _; first | refine XE.var rfl ?_ | refine XE.int ?_ | refine XE.tup ?_ | refine XE.ofN (XN.lst ?_) | refine XE.ofN (XN.op dn_cat ?_) | refine XE.call ?_) | (guard_target =~ XA _ _ _ _ _; first | refine XA.nil ?_ | refine XA.cons ?_) | (guard_target =~ XGs _ _ _ _ _ _; first | refine XGs.cons ?_ | refine XGs.nil ?_) | (guard_target =~ XG _ _ _ _ _ _; first | refine XG.name rfl ?_ | refine XG.tupG rfl ?_) | refine go_len rfl ?_))
        refine ⟨i, rfl, by omega, ?_⟩
        (repeat' (first | refine XA.nil ?_ | refine go_len rfl ?_ | refine go_cat ?_ ?_))
        · show 1 + _ ≤ 1000
          rw [List.length_map, vz_len]; omega
        skip
        refine ⟨rfl, ?_⟩
        unfold rwD qsD
        rw [List.map_cons, List.map_replicate, vz, List.map_replicate]; rfl
    · simp at nl
  | none =>
    rw [rows4, eh] at q
    dsimp only at q
    have bD : Bd 10400 (a * a - 4 * b) := (ba.mul ba).sub (Bd.mul (n := 4) bd_lit bb)
    have sz2 : Sz 8000 2 := Sz.mono (n := 2) (by unfold Sz; decide) (by decide)
    have low2 : ∀ n : Int, frD (Rat.divInt n 2) = qD (low (n, 2)) := fun n => by rw [low_rat (by decide)]; rfl
    (repeat' (first | (guard_target =~ XS _ _ _ _ _; first | refine XS.next ?_ | refine XS.seq ?_ | refine XS.ite ?_ | refine XS.asg ?_) | (guard_target =~ XE _ _ _ _ _; first | refine XE.var rfl ?_ | refine XE.non ?_ | refine XE.op dr_notN ?_ | refine XE.call ?_) | (guard_target =~ XA _ _ _ _ _; first | refine XA.nil ?_ | refine XA.cons ?_) | (guard_target =~ XT _ _ _ _ _; first | refine XT.test ?_) | refine go_non ?_ | refine go_bl ?_))
    refine ⟨b, a, 0, 0, 1, rfl, bb, ba, d0, fun bn => ?_⟩
    (repeat' (first | (guard_target =~ XS _ _ _ _ _; first | refine XS.seq ?_ | refine XS.setO (i := 2) ?_ | refine XS.ite ?_) | (guard_target =~ XE _ _ _ _ _; first | refine XE.var rfl ?_ | refine XE.int ?_ | refine XE.op dr_notN ?_ | refine XE.tup ?_ | refine XE.ofN (XN.lst ?_) | refine XE.call ?_) | (guard_target =~ XN _ _ _ _ _; first | refine XN.lst ?_) | (guard_target =~ XA _ _ _ _ _; first | refine XA.nil ?_ | refine XA.cons ?_) | (guard_target =~ XT _ _ _ _ _; first | refine XT.test ?_) | (guard_target =~ XGs _ _ _ _ _ _; first | refine XGs.cons ?_ | refine XGs.nil ?_) | (guard_target =~ XG _ _ _ _ _ _; first | refine XG.name rfl ?_ | refine XG.tupG rfl ?_) | refine go_len rfl ?_))
    refine ⟨b, a, 0, 0, 1, rfl, bb, ba, ?_⟩
    cases ew : withinZ b a with
    | some r =>
      rw [ew, if_neg (by simp)] at q
      (repeat' (first | refine XS.retO (i := 2) rfl ?_ | refine XE.non ?_ | refine go_non ?_ | refine go_bl ?_))
      exact q
    | none =>
      rw [ew, if_pos rfl] at q
      (repeat' (first | (guard_target =~ XS _ _ _ _ _; first | refine XS.next ?_ | refine XS.seq ?_ | refine XS.app rfl (i := 2) rfl ?_) | (guard_target =~ XE _ _ _ _ _; first | refine XE.var rfl ?_ | refine XE.int ?_ | refine XE.non ?_ | refine XE.op dr_I0 ?_ | refine XE.tup ?_ | refine XE.ofN (XN.lst ?_) | refine XE.call ?_) | (guard_target =~ XA _ _ _ _ _; first | refine XA.nil ?_ | refine XA.cons ?_) | refine go_non ?_ | refine go_I0 ?_ | refine go_bl ?_))
      refine ⟨_, 2, rfl, by decide, sz2, ?_⟩
      rw [low2]
      (repeat' (first | refine XE.var rfl ?_ | refine XE.int ?_ | refine XE.call ?_ | refine XA.nil ?_ | refine XA.cons ?_))
      refine ⟨_, 2, rfl, by decide, sz2, ?_⟩
      rw [low2]
      (repeat' (first | (guard_target =~ XS _ _ _ _ _; first | refine XS.seq ?_ | refine XS.ite ?_) | (guard_target =~ XE _ _ _ _ _; first | refine XE.var rfl ?_ | refine XE.op dr_isN ?_ | refine XE.call ?_) | (guard_target =~ XA _ _ _ _ _; first | refine XA.nil ?_ | refine XA.cons ?_) | (guard_target =~ XT _ _ _ _ _; first | refine XT.test ?_ | refine XT.and ?_) | refine go_len rfl ?_ | refine go_app ?_ ?_))
      · exact (show 1 ≤ 1000 by decide)
      skip
      refine ⟨b, rfl, by unfold Bd at bb; omega, ?_⟩
      cases eb : rootZ b with
      | some m =>
        rw [eb, if_neg (by simp)] at q
        (repeat' (first | refine XS.next ?_ | refine XS.retO (i := 2) rfl ?_ | refine XE.non ?_ | refine go_non ?_ | refine go_bl ?_))
        exact q
      | none =>
        (repeat' (first | (guard_target =~ XE _ _ _ _ _; first | refine XE.var rfl ?_ | refine XE.non ?_ | refine XE.op dr_I ?_ | refine XE.op dr_isN ?_ | refine XE.call ?_) | (guard_target =~ XA _ _ _ _ _; first | refine XA.nil ?_ | refine XA.cons ?_) | (guard_target =~ XT _ _ _ _ _; first | refine XT.test ?_) | refine go_non ?_ | refine go_I ?_ ?_ | refine go_bl ?_))
        · exact bb.cm bn
        refine ⟨_, rfl, ?_, ?_⟩
        · have := bb.mul bn
          unfold Bd at this
          omega
        cases eq : rootZ (b * bareZ (a * a - 4 * b)) with
        | some m =>
          rw [eq, if_neg (by simp)] at q
          (repeat' (first | refine XS.next ?_ | refine XS.retO (i := 2) rfl ?_ | refine XE.non ?_ | refine go_non ?_ | refine go_bl ?_))
          exact q
        | none =>
          rw [eb, eq, if_pos ⟨rfl, rfl⟩] at q
          (repeat' (first | (guard_target =~ XS _ _ _ _ _; first | refine XS.app rfl (i := 2) rfl ?_) | (guard_target =~ XE _ _ _ _ _; first | refine XE.var rfl ?_ | refine XE.int ?_ | refine XE.non ?_ | refine XE.tup ?_ | refine XE.ofN (XN.lst ?_) | refine XE.ofN (XN.op dn_cat ?_) | refine XE.call ?_) | (guard_target =~ XA _ _ _ _ _; first | refine XA.nil ?_ | refine XA.cons ?_) | refine go_non ?_ | refine go_bl ?_))
          refine ⟨b, rfl, b0, Nat.le_trans bb (by decide), fun _ => ?_⟩
          (repeat' (first | refine XE.int ?_ | refine XE.call ?_ | refine XA.nil ?_ | refine XA.cons ?_ | refine go_len rfl ?_))
          refine ⟨3, rfl, by decide, ?_⟩
          (repeat' (first | refine XS.retO (i := 2) rfl ?_ | refine XA.nil ?_ | refine go_len rfl ?_ | refine go_cat ?_ ?_ | refine go_app ?_ ?_))
          · exact (show 4 ≤ 1000 by decide)
          skip
          · exact (show 2 ≤ 1000 by decide)
          skip
          exact q
theorem ok_rows_ofD (T : Txt K mg c) {f : Addr} {fd : FuncData} (F : L2.Fun K "rows_of" "rows_of" s_rows_of f fd) (h_rows_by_two : Cal P w K mg base 3 "rows_by_two" (spD W_rows2) []) (h_rows_by_three : Cal P w K mg base 4 "rows_by_three" (spD W_rows3) []) (h_rows_by_four : Cal P w K mg base 4 "rows_by_four" (spD W_rows4) []) : FnOk P w K mg base CX0 5 f fd P_rows_of (spD W_rows_of) := by
  refine okD F sc_rows_of (fun ds C ⟨_, e, _⟩ => by rw [e]; rfl) fun cdv A outer s H E hr => ⟨_, (pss_cons (ps_if (pt_cmpR op_eq (pe_callB call_len_seq (by rfl) T.z_len (by decide +kernel) (pa_cons (pv 0) pa_nil)) pe_int (nomark _)) (pss_one (ps_ret (pe_lst pa_nil))) pss_nil)
      (pss_cons (ps_if (pt_cmpR op_eq (pe_callB call_len_seq (by rfl) T.z_len (by decide +kernel) (pa_cons (pv 0) pa_nil)) pe_int (nomark _)) (pss_one (ps_ret (pe_c h_rows_by_two hr (by decide) rfl (pa_cons (pe_ix ix_list (pv 0) pe_int (fun _ _ => rfl)) (pa_cons (pe_ix ix_list (pv 0) pe_int (fun _ _ => rfl)) pa_nil))))) pss_nil)
      (pss_cons (ps_if (pt_cmpR op_eq (pe_callB call_len_seq (by rfl) T.z_len (by decide +kernel) (pa_cons (pv 0) pa_nil)) pe_int (nomark _)) (pss_one (ps_ret (pe_c h_rows_by_three hr (by decide) rfl (pa_cons (pv 0) pa_nil)))) pss_nil)
      (pss_one (ps_ret (pe_c h_rows_by_four hr (by decide) rfl (pa_cons (pv 0) pa_nil))))))), fun z ds C ⟨ns, e, G, q⟩ => ?_⟩
  subst e
  have l2 := G.l2
  have l5 := G.l5
  have gl := G.last
  have g1 := G.mid1
  have g3 := G.mid3
  have gt := G.told
  rcases ns with _ | ⟨n0, _ | ⟨n1, _ | ⟨n2, _ | ⟨n3, _ | ⟨n4, _ | ⟨n5, r⟩⟩⟩⟩⟩⟩
  · simp at l2
  · simp at l2
  · (repeat' (first | (guard_target =~ XS _ _ _ _ _; first | refine XS.seq ?_ | refine XS.ret ?_ | refine XS.ite ?_) | (guard_target =~ XE _ _ _ _ _; first | refine XE.var rfl ?_ | refine XE.int ?_ | refine XE.op dr_eq ?_ | refine XE.ofN (XN.lst ?_) | refine XE.len1 ?_) | (guard_target =~ XA _ _ _ _ _; first | refine XA.nil ?_) | (guard_target =~ XT _ _ _ _ _; first | refine XT.test ?_) | refine go_len1 rfl ?_ | refine go_eq rfl rfl rfl ?_ | refine go_len rfl ?_ | refine go_bl ?_))
    exact q
  · (repeat' (first | (guard_target =~ XS _ _ _ _ _; first | refine XS.next ?_ | refine XS.seq ?_ | refine XS.ret ?_ | refine XS.ite ?_) | (guard_target =~ XE _ _ _ _ _; first | refine XE.var rfl ?_ | refine XE.int ?_ | refine XE.op dr_ixL ?_ | refine XE.op dr_eq ?_ | refine XE.len1 ?_ | refine XE.call ?_) | (guard_target =~ XA _ _ _ _ _; first | refine XA.nil ?_ | refine XA.cons ?_) | (guard_target =~ XT _ _ _ _ _; first | refine XT.test ?_) | refine go_len1 rfl ?_ | refine go_ix rfl ?_ | refine go_eq rfl rfl rfl ?_ | refine go_bl ?_))
    exact ⟨n1, n0, rfl, Nat.le_trans (G.sm n1 (by simp)) (by decide), Nat.le_trans (G.sm n0 (by simp)) (by decide), gt, q⟩
  · have e3 : n3 = 1 := Option.some.inj gl
    subst e3
    (repeat' (first | (guard_target =~ XS _ _ _ _ _; first | refine XS.next ?_ | refine XS.seq ?_ | refine XS.ret ?_ | refine XS.ite ?_) | (guard_target =~ XE _ _ _ _ _; first | refine XE.var rfl ?_ | refine XE.int ?_ | refine XE.op dr_eq ?_ | refine XE.len1 ?_ | refine XE.call ?_) | (guard_target =~ XA _ _ _ _ _; first | refine XA.nil ?_ | refine XA.cons ?_) | (guard_target =~ XT _ _ _ _ _; first | refine XT.test ?_) | refine go_len1 rfl ?_ | refine go_eq rfl rfl rfl ?_ | refine go_bl ?_))
    exact ⟨n0, n1, n2, rfl, G.sm _ (by simp), G.sm _ (by simp), G.sm _ (by simp), gt, q⟩
  · have e4 : n4 = 1 := Option.some.inj gl
    have e1 : n1 = 0 := Option.some.inj (g1 rfl)
    have e3 : n3 = 0 := Option.some.inj (g3 rfl)
    subst e4 e1 e3
    have gt' : n0 * (n2 * n2 - 4 * n0) ≠ 0 := gt
    (repeat' (first | (guard_target =~ XS _ _ _ _ _; first | refine XS.next ?_ | refine XS.seq ?_ | refine XS.ret ?_ | refine XS.ite ?_) | (guard_target =~ XE _ _ _ _ _; first | refine XE.var rfl ?_ | refine XE.int ?_ | refine XE.op dr_eq ?_ | refine XE.len1 ?_ | refine XE.call ?_) | (guard_target =~ XA _ _ _ _ _; first | refine XA.nil ?_ | refine XA.cons ?_) | (guard_target =~ XT _ _ _ _ _; first | refine XT.test ?_) | refine go_len1 rfl ?_ | refine go_eq rfl rfl rfl ?_ | refine go_bl ?_))
    exact ⟨n0, n2, rfl, G.sm _ (by simp), G.sm _ (by simp), fun z => gt' (by rw [z, Int.zero_mul]), fun z => gt' (by rw [z, Int.mul_zero]), q⟩
  · simp at l5
end
end My

set_option maxHeartbeats 1000000
namespace My
open PySem PySem.Spec PyProof.Rows L2
open C8 (Cal pe_c pe_gc)
def wysD (ws : List (List Int)) : Dat := .lst (ws.map nsD)
def W_ways_of : WpD := fun ds C => ∃ rs : List Rw, ds = [rwsD rs] ∧ rs.length ≤ 3 ∧ (∀ r ∈ rs, r.1 = 2 ∨ r.1 = 3) ∧ C (wysD (waysOf rs))
theorem map_get {α : Type} {f : α → Dat} {xs : List α} {i : Nat} {d : Dat} (h : (xs.map f)[i]? = some d) : ∃ x, xs[i]? = some x ∧ d = f x := by
  rw [List.getElem?_map] at h
  cases e : xs[i]? with
  | none => rw [e] at h; cases h
  | some x => rw [e] at h; exact ⟨x, rfl, (Option.some.inj h).symm⟩
theorem rng_get {lo : Int} {n i : Nat} {d : Dat} (h : (rngD lo n)[i]? = some d) : i < n ∧ d = .int (lo + (i : Nat)) := by
  unfold rngD at h
  rw [List.getElem?_map] at h
  by_cases l : i < n
  · rw [List.getElem?_range l] at h
    exact ⟨l, (Option.some.inj h).symm⟩
  · rw [List.getElem?_eq_none (by rw [List.length_range]; omega)] at h; cases h
section

variable {c : Cs} {P : Program} {w : World} {K : PySem.W.Frag} {mg : Str → Option Value} {base : Heap}
theorem ok_ways_ofD (T : Txt K mg c) {f : Addr} {fd : FuncData} (F : L2.Fun K "ways_of" "ways_of" s_ways_of f fd) : FnOk P w K mg base CX0 1 f fd P_ways_of (spD W_ways_of) := by
  refine okD F sc_ways_of (fun ds C ⟨_, e, _⟩ => by rw [e]; rfl) fun cdv A outer s H E hr => ⟨_, (pss_cons (ps_set (i := 1) sc_ways_of.nd rfl (by first | exact Or.inl rfl | exact Or.inr rfl) (pe_lst (pa_cons (pe_lst pa_nil) pa_nil)))
      (pss_cons (ps_for PassesOwn.never rfl (pi_list (pv 0)) (pg_tup rfl (pgs_cons (pg_name (i := 2) sc_ways_of.nd rfl (by first | exact Or.inl rfl | exact Or.inr rfl)) (pgs_cons (pg_name (i := 3) sc_ways_of.nd rfl (by first | exact Or.inl rfl | exact Or.inr rfl)) pgs_nil))) (pss_cons (ps_set (i := 4) sc_ways_of.nd rfl (by first | exact Or.inl rfl | exact Or.inr rfl) (pe_lst pa_nil))
      (pss_cons (ps_for PassesOwn.never rfl (pi_range1 rfl T.z_range (pa_cons (pv 2) pa_nil)) (pg_name (i := 5) sc_ways_of.nd rfl (by first | exact Or.inl rfl | exact Or.inr rfl)) (pss_one (ps_aug (i := 4) sc_ways_of.nd rfl (by first | exact Or.inl rfl | exact Or.inr rfl) (pe_lc (own := [("powers", 6)]) (g := gName 6) (by rfl) sc_ways_of.nd (pi_list (pv 1)) (blkOk_by (own := [("powers", 6)]) (N := N_ways_of) (sc := defScope s_ways_of) (by decide +kernel)) (fun _ _ _ _ _ => (pg_name (i := 6) sc_ways_of.nd rfl (by first | exact Or.inl rfl | exact Or.inr rfl))) (fun _ _ _ _ _ => pts_nil) (fun _ _ _ _ _ => (pe_op op_cat (pv 6) (pe_lst (pa_cons (pv 5) pa_nil))))) iop_ext)))
      (pss_one (ps_set (i := 1) sc_ways_of.nd rfl (by first | exact Or.inl rfl | exact Or.inr rfl) (pv 4))))))
      (pss_one (ps_ret (pv 1))))), fun z ds C ⟨rs, e, hl, hd', q⟩ => ?_⟩
  subst e
  (repeat' (first | refine XS.seq ?_ | refine XS.set ?_ | refine XE.ofN (XN.lst ?_) | refine XA.nil ?_ | refine XA.cons ?_ | refine go_len rfl ?_))
  refine XS.for (XI.list ?_)
  (repeat' (first | refine XE.var rfl ?_ | refine go_lst ?_))
  refine ⟨fun i g m => (∃ s2 s3 s4 s5 s6, g = [.dt (rwsD rs), .dt (wysD (waysOf (rs.take i))), s2, s3, s4, s5, s6]) ∧ m = 0, ⟨⟨_, _, _, _, _, rfl⟩, rfl⟩, fun i d g2 m2 hi ⟨⟨s2, s3, s4, s5, s6, e1⟩, e2⟩ => ?_, fun g2 m2 ⟨⟨s2, s3, s4, s5, s6, e1⟩, e2⟩ => ?_⟩
  · subst e1 e2
    obtain ⟨r, hr', rfl⟩ := map_get hi
    have hd := hd' r (List.mem_of_getElem? hr')
    have i3 : i < 3 := Nat.lt_of_lt_of_le (List.getElem?_eq_some_iff.mp hr').1 hl
    obtain ⟨W, hW⟩ : ∃ W, W = waysOf (rs.take i) := ⟨_, rfl⟩
    have wok := ways_ok (rs.take i) [[]] 1 0 (by decide) (fun p hp => by rw [List.mem_singleton.mp hp]; decide) (fun r hr => hd' r (List.mem_of_mem_take hr))
    rw [← hW]
    (repeat' (first | refine XS.seq ?_ | refine XS.setO (i := 4) ?_ | refine XN.lst ?_ | refine XA.nil ?_ | refine XGs.cons ?_ | refine XGs.nil ?_ | refine XG.name rfl ?_ | refine XG.tupG rfl ?_ | refine go_len rfl ?_))
    refine XS.for (XI.rng1 ?_)
    (repeat' (first | refine XE.var rfl ?_ | refine XA.nil ?_ | refine XA.cons ?_ | refine go_rg1 ?_ ?_))
    · omega
    refine ⟨fun j g m => (∃ t5 t6, g = [.dt (rwsD rs), .dt (wysD W), .dt (.int r.1), .dt (qsD r.2), .ow ((wPart W j).map nsD), t5, t6]) ∧ m = 0, ⟨⟨_, _, rfl⟩, rfl⟩, fun j d g2 m2 hj ⟨⟨t5, t6, e1⟩, e2⟩ => ?_, fun g2 m2 ⟨⟨t5, t6, e1⟩, e2⟩ => ?_⟩
    · subst e1 e2
      obtain ⟨jl, rfl⟩ := rng_get hj
      (repeat' (first | refine XS.ext (i := 4) rfl ?_ | refine XG.name rfl ?_))
      refine XE.ofN (XN.to (XI.list ?_))
      (repeat' (first | refine XE.var rfl ?_ | refine go_lst ?_))
      have Wl : W.length ≤ 9 := by
        rw [hW]
        refine Nat.le_trans wok.1 ?_
        rw [Nat.one_mul]
        exact Nat.le_trans (Nat.pow_le_pow_right (by decide) (show (rs.take i).length ≤ 2 by rw [List.length_take]; omega)) (by decide)
      have Wp : ∀ p ∈ W, p.length ≤ 2 := fun p hp => by
        rw [hW] at hp
        have := wok.2 p hp
        have : (rs.take i).length ≤ 2 := by rw [List.length_take]; omega
        omega
      have pl := (wPart_ok Wp j).1
      have j3 : j ≤ 3 := by omega
      have pl27 : (wPart W j).length ≤ 27 := by
        rw [pl]
        exact Nat.mul_le_mul j3 Wl
      refine ⟨(W.map fun p => p ++ [((j : Nat) : Int)]).map nsD, by simp, by rw [List.length_map]; omega, fun k d o hk ho => ?_, ?_⟩
      · obtain ⟨ws, hws, rfl⟩ := map_get hk
        have eo : o = nsD (ws ++ [((j : Nat) : Int)]) := by
          rw [List.getElem?_map, List.getElem?_map, hws] at ho
          exact (Option.some.inj ho).symm
        subst eo
        have wl := Wp ws (List.mem_of_getElem? hws)
        (repeat' (first | refine XE.var rfl ?_ | refine XE.ofN (XN.lst ?_) | refine XE.ofN (XN.op dn_cat ?_) | refine XA.nil ?_ | refine XA.cons ?_ | refine XG.name rfl ?_ | refine go_len rfl ?_ | refine go_cat ?_ ?_))
        · show (ws.map Dat.int).length + 1 ≤ 1000
          rw [List.length_map]; omega
        refine ⟨rfl, ?_⟩
        unfold nsD
        rw [List.map_append, Int.zero_add]; rfl
      (repeat' (first | refine go_ext ?_ ?_))
      · simp only [List.length_map]; omega
      refine ⟨⟨.dt (.int (0 + (j : Int))), t6, ?_⟩, rfl⟩
      rw [wPart_more, List.map_append]
      rfl
    · subst e1 e2
      refine XS.frz (i := 4) rfl ?_
      (repeat' (first | refine XS.set ?_ | refine XE.var rfl ?_))
      have el : (rngD 0 r.1.toNat).length = r.1.toNat := by unfold rngD; rw [List.length_map, List.length_range]
      rw [el]
      refine ⟨⟨.dt (.int r.1), .dt (qsD r.2), .dt (.lst ((wPart W r.1.toNat).map nsD)), t5, t6, ?_⟩, rfl⟩
      rw [take_more hr']
      unfold waysOf
      rw [List.foldl_append]
      show _ = [Sl.dt (rwsD rs), .dt (wysD (waysStep (waysOf (rs.take i)) r)), _, _, _, _, _]
      rw [← hW]
      rfl
  · subst e1 e2
    rw [List.length_map, List.take_length]
    (repeat' (first | refine XS.ret ?_ | refine XE.var rfl ?_))
    exact q
end
end My

namespace My
open PySem PySem.Spec PyProof.Rows L2
/-! ### the steps of a house as steps of fractions -/
def qR (q : Int × Int) : Rat := Rat.divInt q.1 q.2
def rrOf (rs : List Rw) : RR := (rs.map fun r => (r.1.toNat, r.2.map qR)).reverse
theorem qR_nd (x : Rat) : qR (nd x) = x := Rat.num_divInt_den x
structure RQ (q : Int × Int) : Prop where
  low : ∃ x : Rat, q = nd x
  sm : VB 2 bigM (qR q)
theorem RQ.d {q : Int × Int} (h : RQ q) : frD (qR q) = qD q := by
  obtain ⟨⟨x, rfl⟩, _⟩ := h
  rw [qR_nd]; rfl
theorem RQ.int {n : Int} (h : n.natAbs ≤ 2 ^ 63) : RQ (n, 1) := ⟨⟨(n : Rat), rfl⟩, by
  show VB 2 bigM (qR (nd (n : Rat)))
  rw [qR_nd]
  refine ⟨n * 2, by rw [Rat.intCast_mul]; rfl, ?_⟩
  unfold bigM
  omega⟩
theorem RQ.half {n : Int} (h : n.natAbs ≤ 2 ^ 64) : RQ (My.low (n, 2)) := by
  have e : My.low (n, 2) = nd (Rat.divInt n 2) := low_rat (by decide)
  refine ⟨⟨_, e⟩, ?_⟩
  rw [e, qR_nd]
  exact VB.of (d := 2) (by decide) h
structure HsRows (rs : List Rw) : Prop where
  ok : OkR (rrOf rs)
  q : ∀ r ∈ rs, ∀ q ∈ r.2, RQ q
  d : ∀ r ∈ rs, r.1 = 2 ∨ r.1 = 3
  l : rs.length ≤ 3
theorem rrOf_snoc (rs : List Rw) (r : Rw) : rrOf (rs ++ [r]) = (r.1.toNat, r.2.map qR) :: rrOf rs := by simp [rrOf]
theorem VBs_q {p : List (Int × Int)} (h : ∀ q ∈ p, RQ q) : VBs 2 bigM (p.map qR) := fun x hx => by
  obtain ⟨q, hq, rfl⟩ := List.mem_map.mp hx
  exact (h q hq).sm
theorem HsRows.nil : HsRows [] := ⟨.nil, (fun r hr => nomatch hr), (fun r hr => nomatch hr), Nat.zero_le _⟩
theorem HsRows.snoc {rs : List Rw} (h : HsRows rs) (l : rs.length ≤ 2) {p : List (Int × Int)} (hp : p.length = manyR (rrOf rs)) (hq : ∀ q ∈ p, RQ q) : HsRows (rs ++ [(2, p)]) where
  ok := by rw [rrOf_snoc]; exact .two (by rw [List.length_map]; exact hp) (VBs_q hq) h.ok
  q := fun r hr => by
    rcases List.mem_append.mp hr with hr | hr
    · exact h.q r hr
    · rw [List.mem_singleton.mp hr]; exact hq
  d := fun r hr => by
    rcases List.mem_append.mp hr with hr | hr
    · exact h.d r hr
    · rw [List.mem_singleton.mp hr]; exact .inl rfl
  l := by rw [List.length_append]; show _ + 1 ≤ 3; omega
theorem HsRows.three {p : List (Int × Int)} (hp : p.length = 3) (hq : ∀ q ∈ p, RQ q) : HsRows [(3, p)] where
  ok := .three (by rw [List.length_map]; exact hp) (VBs_q hq)
  q := fun r hr => by rw [List.mem_singleton.mp hr]; exact hq
  d := fun r hr => by rw [List.mem_singleton.mp hr]; exact .inr rfl
  l := (show 1 ≤ 3 by decide)
theorem manyR_app (xs ys : RR) : manyR (xs ++ ys) = manyR xs * manyR ys := by
  induction xs with
  | nil => show manyR ys = 1 * manyR ys; rw [Nat.one_mul]
  | cons s xs ih => show s.1 * manyR (xs ++ ys) = s.1 * manyR xs * manyR ys; rw [ih, Nat.mul_assoc]
theorem many_fold : ∀ (rs : List Rw) (ws : List (List Int)), (rs.foldl waysStep ws).length = manyR (rrOf rs) * ws.length
  | [], ws => by show ws.length = 1 * ws.length; rw [Nat.one_mul]
  | r :: rs, ws => by
    have h := (wPart_ok (found := ws) (m := ws.flatten.length) (fun p hp => by
      obtain ⟨s, t, e⟩ := List.append_of_mem hp
      rw [e]; simp; omega) r.1.toNat).1
    show (rs.foldl waysStep (waysStep ws r)).length = _
    rw [many_fold rs]
    have e : (waysStep ws r).length = r.1.toNat * ws.length := h
    have e2 : rrOf (r :: rs) = rrOf rs ++ [(r.1.toNat, r.2.map qR)] := by simp [rrOf]
    rw [e, e2, manyR_app]
    show _ = manyR (rrOf rs) * (r.1.toNat * 1) * ws.length
    rw [Nat.mul_one, Nat.mul_assoc]
theorem many_ways (rs : List Rw) : manyR (rrOf rs) = (waysOf rs).length := by
  rw [waysOf, many_fold]
  exact (Nat.mul_one _).symm
theorem rws_rows {rs : List Rw} (h : HsRows rs) : rwsD rs = rowsD (rrOf rs).reverse := by
  unfold rwsD rowsD rrOf
  rw [List.reverse_reverse, List.map_map]
  congr 1
  refine List.map_congr_left fun r hr => ?_
  show Dat.tup [.int r.1, .lst (r.2.map qD)] = .tup [.int (r.1.toNat : Int), .lst ((r.2.map qR).map frD)]
  rw [List.map_map]
  have e1 : (r.1.toNat : Int) = r.1 := by
    rcases h.d r hr with e | e <;> rw [e] <;> rfl
  have e2 : r.2.map qD = r.2.map (frD ∘ qR) := List.map_congr_left fun q hq => (h.q r hr q hq).d.symm
  rw [e1, e2]
theorem bareZ_le {n : Int} (h : n ≠ 0) : (bareZ n).natAbs ≤ n.natAbs := by
  by_cases e : ∃ b, Bare b n
  · obtain ⟨b, hb⟩ := e
    rw [bareZ_of h hb]
    obtain ⟨b0, _, k, ek⟩ := hb
    have k0 : k ≠ 0 := fun z => h (by rw [ek, z]; simp)
    have e1 := congrArg Int.natAbs ek
    rw [Int.natAbs_mul] at e1
    have p : 0 < (k * k).natAbs := Int.natAbs_pos.mpr (Int.mul_ne_zero k0 k0)
    have := Nat.le_mul_of_pos_right b.natAbs p
    omega
  · unfold bareZ
    rw [dif_neg e]
    exact Nat.zero_le _
theorem manyZ_le {b a : Int} (h : a * a - 4 * b ≠ 0) : (manyZ b a).natAbs ≤ (a * a - 4 * b).natAbs := by
  unfold manyZ
  generalize a * a - 4 * b = D at *
  by_cases e : ∃ c, Bare c D
  · obtain ⟨c, hb⟩ := e
    rw [bareZ_of h hb]
    obtain ⟨b0, _, k, ek⟩ := hb
    have ef : Int.fdiv D c = k * k := Int.fdiv_eq_of_eq_mul_right b0 ek
    rw [ef, rootZ_of (r := k.natAbs) (by rw [← Int.natAbs_mul_self' k])]
    show ((k.natAbs : Nat) : Int).natAbs ≤ D.natAbs
    have e1 := congrArg Int.natAbs ek
    rw [Int.natAbs_mul, Int.natAbs_mul] at e1
    have p : 0 < c.natAbs := Int.natAbs_pos.mpr b0
    have h1 := Nat.le_mul_of_pos_left (k.natAbs * k.natAbs) p
    have h2 : k.natAbs ≤ k.natAbs * k.natAbs := by
      rcases Nat.eq_zero_or_pos k.natAbs with z | z
      · rw [z]; exact Nat.le_refl _
      · exact Nat.le_mul_of_pos_left _ z
    omega
  · have z : bareZ D = 0 := by unfold bareZ; rw [dif_neg e]
    rw [z, Int.fdiv_zero, rootZ_of (n := 0) (r := 0) rfl]
    exact Nat.zero_le _
theorem rows2_hs {p q : Int} (h : p * p - 4 * q ≠ 0) (l : (p * p - 4 * q).natAbs ≤ 2 ^ 63) : HsRows (rows2 p q) := by
  unfold rows2
  split
  · exact .nil
  · exact HsRows.snoc (rs := []) .nil (by decide) rfl fun x hx => by
      rw [List.mem_singleton.mp hx]
      exact .int (Nat.le_trans (bareZ_le h) l)
theorem rows3_hs {c b a : Int} (bc : Bd 100 c) (bb : Bd 100 b) (ba : Bd 100 a) (t : toldOf [c, b, a, 1] ≠ 0) : HsRows (rows3 c b a) := by
  unfold rows3
  cases e : wholeZ c b a with
  | some r =>
    have br := wholeZ_in e
    refine rows2_hs (left_ne e t) ?_
    have := (((ba.add br).mul (ba.add br)).sub (Bd.mul (show Bd 4 4 from bd_lit) (bb.add (br.mul (ba.add br)))))
    exact Nat.le_trans this (by decide)
  | none =>
    have h3 : HsRows [(3, [(0 - c, 1), (0 - b, 1), (0 - a, 1)])] := HsRows.three rfl fun x hx => by
      simp only [List.mem_cons, List.not_mem_nil, or_false] at hx
      unfold Bd at bc bb ba
      rcases hx with rfl | rfl | rfl <;> exact .int (by omega)
    dsimp only
    split
    · have b18 : Bd 18 18 := bd_lit
      have b4 : Bd 4 4 := bd_lit
      have b27 : Bd 27 27 := bd_lit
      have bt : Bd (10 ^ 9) (toldOf [c, b, a, 1]) := by
        have := (((((((b18.mul ba).mul bb).mul bc).sub ((((b4.mul ba).mul ba).mul ba).mul bc)).add (((ba.mul ba).mul bb).mul bb)).sub (((b4.mul bb).mul bb).mul bb)).sub ((b27.mul bc).mul bc))
        exact Nat.le_trans this (by decide)
      refine h3.snoc (p := [(bareZ (toldOf [c, b, a, 1]), 1), (0, 1), (0, 1)]) (show 1 ≤ 2 by decide) rfl fun x hx => ?_
      simp only [List.mem_cons, List.not_mem_nil, or_false, or_self] at hx
      rcases hx with rfl | rfl
      · refine .int (Nat.le_trans (bareZ_le t) (Nat.le_trans bt (by decide)))
      · exact .int (by decide)
    · exact h3
theorem rep01 {k : Nat} {q : Int × Int} (h : q ∈ List.replicate k ((0 : Int), (1 : Int))) : RQ q := by
  rw [(List.mem_replicate.mp h).2]
  exact .int (by decide)
theorem rowsOn_hs {ms : List Int} (l : ms.length ≤ 2) (s : ∀ n ∈ ms, n.natAbs ≤ 2 ^ 63) : HsRows (rowsOn 0 ms) := by
  have h1 : ∀ n ∈ ms, HsRows [(2, [(n, 1)])] := fun n hn => HsRows.snoc (rs := []) .nil (by decide) rfl fun x hx => by
    rw [List.mem_singleton.mp hx]
    exact .int (s n hn)
  rcases ms with _ | ⟨n, _ | ⟨m, _ | ⟨k, r⟩⟩⟩
  · exact .nil
  · exact h1 n (by simp)
  · refine HsRows.snoc (rs := [(2, [(n, 1)])]) (h1 n (by simp)) (show 1 ≤ 2 by decide) (p := [(m, 1), (0, 1)]) rfl fun x hx => ?_
    simp only [List.mem_cons, List.not_mem_nil, or_false] at hx
    rcases hx with rfl | rfl
    · exact .int (s m (by simp))
    · exact .int (by decide)
  · simp at l
theorem numsOf_mem {l : List Int} {n : Int} (h : n ∈ numsOf l) : n ∈ l := by
  unfold numsOf at h
  split at h
  · split at h
    · rw [List.mem_singleton.mp h]; simp
    · exact h
  · exact h
theorem rows4_hs {b a : Int} (bb : Bd 100 b) (ba : Bd 100 a) (b0 : b ≠ 0) (d0 : a * a - 4 * b ≠ 0) : HsRows (rows4 b a) := by
  unfold rows4
  have bD : Bd 10400 (a * a - 4 * b) := (ba.mul ba).sub (Bd.mul (show Bd 4 4 from bd_lit) bb)
  cases e : halvesZ b a with
  | some p =>
    obtain ⟨x, y⟩ := p
    obtain ⟨x0, y0, exy⟩ := halves_ne e b0
    have e1 := congrArg Int.natAbs exy
    rw [Int.natAbs_mul] at e1
    have hx := Nat.le_mul_of_pos_right x.natAbs (Int.natAbs_pos.mpr y0)
    have hy := Nat.le_mul_of_pos_left y.natAbs (Int.natAbs_pos.mpr x0)
    unfold Bd at bb
    refine rowsOn_hs (numsOf_len (List.length_filter_le _ _)) fun n hn => ?_
    have hn2 := (List.mem_filter.mp (numsOf_mem hn)).1
    simp only [List.mem_cons, List.not_mem_nil, or_false] at hn2
    rcases hn2 with rfl | rfl
    · have := bareZ_le x0; omega
    · have := bareZ_le y0; omega
  | none =>
    have h1 : HsRows [(2, [(bareZ (a * a - 4 * b), 1)])] := HsRows.snoc (rs := []) .nil (by decide) rfl fun x hx => by
      rw [List.mem_singleton.mp hx]
      exact .int (Nat.le_trans (bareZ_le d0) (Nat.le_trans bD (by decide)))
    dsimp only
    split
    · have h2 := h1.snoc (p := [My.low (0 - a, 2), My.low (manyZ b a, 2)]) (show 1 ≤ 2 by decide) rfl fun x hx => by
        simp only [List.mem_cons, List.not_mem_nil, or_false] at hx
        rcases hx with rfl | rfl
        · unfold Bd at ba; exact .half (by omega)
        · exact .half (Nat.le_trans (manyZ_le d0) (Nat.le_trans bD (by decide)))
      split
      · exact h2.snoc (p := (bareZ b, 1) :: List.replicate 3 (0, 1)) (show 2 ≤ 2 by decide) rfl fun x hx => by
          rcases List.mem_cons.mp hx with rfl | hx
          · exact .int (Nat.le_trans (bareZ_le b0) (Nat.le_trans bb (by decide)))
          · exact rep01 hx
      · exact h2
    · exact h1
theorem rowsZ_hs {ns : List Int} (G : GoodP ns) : HsRows (rowsZ ns) := by
  have l2 := G.l2
  have l5 := G.l5
  have gt := G.told
  have g1 := G.mid1
  have g3 := G.mid3
  have gl := G.last
  rcases ns with _ | ⟨n0, _ | ⟨n1, _ | ⟨n2, _ | ⟨n3, _ | ⟨n4, _ | ⟨n5, r⟩⟩⟩⟩⟩⟩
  · exact .nil
  · exact .nil
  · exact .nil
  · have b1 := G.sm n1 (by simp)
    have b0 := G.sm n0 (by simp)
    exact rows2_hs gt (Nat.le_trans ((b1.mul b1).sub (Bd.mul (show Bd 4 4 from bd_lit) b0)) (by decide))
  · have e3 : n3 = 1 := Option.some.inj gl
    subst e3
    exact rows3_hs (G.sm _ (by simp)) (G.sm _ (by simp)) (G.sm _ (by simp)) gt
  · have gt' : n0 * (n2 * n2 - 4 * n0) ≠ 0 := gt
    exact rows4_hs (G.sm _ (by simp)) (G.sm _ (by simp)) (fun z => gt' (by rw [z, Int.zero_mul])) fun z => gt' (by rw [z, Int.mul_zero])
  · simp at l5
end My

namespace My
open PySem PySem.Spec PyProof.Rows L2
open C8 (Cal pe_c pe_gc)
/-! ### fields, methods, classes: single steps -/
abbrev rListOf (K : PySem.W.Frag) : List V → Hp → VK → Prop := fun xs H Q => ∃ p ys, xs = [.ref p] ∧ (SqL K H p ys ∨ SqT K H p ys) ∧ ∀ l, H l = none → Q (.ref l) (upd H l (.lst ys))
def tyN : Dat → Option String
  | .non => some "NoneType"
  | .bl _ => some "bool"
  | .int _ => some "int"
  | .str _ => some "str"
  | .lst _ => some "list"
  | .tup _ => some "tuple"
  | _ => none
theorem rp_tyX {K : PySem.W.Frag} {O : List Addr} {H : Hp} {v : V} {d : Dat} {a : String} (r : Rp (hid O H) v d) (h : tyN d = some a) : TyX K H v (.type a) := by
  cases r with
  | non => cases h; exact .base .non
  | bl b => cases h; exact .base (.bl b)
  | int i => cases h; exact .base (.int i)
  | str x => cases h; exact .base (.str x)
  | lst e r => cases h; exact .base (.lst (hid_some e).2)
  | tup e r => cases h; exact .base (.tup (hid_some e).2)
  | ins _ _ _ => cases h
  | exc0 _ => cases h
  | exc1 _ _ _ => cases h
section
variable {z : Cz} {g : List Sl} {m n nk : Nat} {C : Nat → Dat → Prop} {CL : Nat → List Dat → Prop} {t tk : TA} {ta to : TE} {tm : List Pk} {E : L2.St → XK} {K : PySem.W.Frag}
theorem XE.isTy {n : String} (h : XE z ta g m fun m1 d => ∃ a b, tyN d = some a ∧ kitB a n = some b ∧ C m1 (.bl b)) : XE z (tCB (rIsi K) (tCons ta (tCons (tC (.ty n)) tNil))) g m C := fun O σ H R Q k =>
  h O σ H R _ fun m1 d v H1 ⟨a, b, e, kb, c⟩ R1 l1 q1 => ⟨v, .ty n, .type a, .type n, b, rfl, .ty n, rp_tyX q1 e, kit_ty kb, k m1 _ _ H1 c R1 l1 (.bl b)⟩
theorem XE.isC {Ca : Addr} (h : XE z ta g m fun m1 d => ∃ fs, d = .ins Ca fs ∧ C m1 (.bl true)) : XE z (tCB (fun xs H Q => ∃ a dx fs, xs = [.ref a, .ref Ca] ∧ H a = some (.ins Ca dx fs) ∧ Q (.bl true) H) (tCons ta (tCons (tC (.ref Ca)) tNil))) g m C := fun O σ H R Q k =>
  h O σ H R _ fun m1 d v H1 ⟨fs, e, c⟩ R1 l1 q1 => by
    subst e
    obtain ⟨a, dx, gs, rfl, ha⟩ := ins_at q1
    exact ⟨a, dx, gs, rfl, ha, k m1 _ _ H1 c R1 l1 (.bl true)⟩
theorem XE.kmX0 {W : WpX} {Ca : Addr} {x : Str} (ok : tm.all (pkOk n nk) = true) (h : XE z to g m fun m0 d0 => IsIns Ca x d0 ∧ XA z t g m0 fun m1 ds => XA z tk g m1 fun m2 es => ds.length + 1 = n ∧ es.length = nk ∧ W (pickD tm (d0 :: ds) es) (C m2) fun _ => False) : XE z (tKm Ca x (spX W) n nk tm E to t tk) g m C :=
  XE.kmX (X := fun _ _ => False) ok (fun _ _ _ _ _ _ _ x _ _ => x.elim) h
theorem XE.kcX0 {W : WpX} (ok : tm.all (pkOk n nk) = true) (h : XA z t g m fun m1 ds => XA z tk g m1 fun m2 es => ds.length = n ∧ es.length = nk ∧ W (pickD tm ds es) (C m2) fun _ => False) : XE z (tKc (spX W) n nk tm E t tk) g m C :=
  XE.kcX (X := fun _ _ => False) ok (fun _ _ _ _ _ _ _ x _ _ => x.elim) h
theorem XS.rai {F : Hp → Prop} {D : DE} (h : ∀ O σ H, Real z O g m σ H → F H) : XS z (fun _ _ H => F H) g m D := fun O σ H R _ _ => h O σ H R
/-- a compare with an own list -/
theorem XE.neDO {i : Nat} {ds : List Dat} (hg : g[i]? = some (.ow ds)) (h : XE z ta g m fun m1 d1 => Cmp d1 ∧ Cmp (.lst ds) ∧ C m1 (.bl (!eqD d1 (.lst ds)))) : XE z (tOp (rNeD K) ta (tVar i)) g m C := fun O σ H R Q k =>
  h O σ H R _ fun m1 d1 x H1 ⟨c1, c2, c⟩ R1 l1 q1 => by
    obtain ⟨p, vs, e, po, pG, hp, q⟩ := R1.sl i _ hg
    exact ⟨_, e, toP d1, toP (.lst ds), q1.dp c1.p, .lst (SqL.of hp) (q.dp (by simpa [plain] using c2.p)), c1.s, c2.s, k m1 _ _ H1 c R1 l1 (.bl _)⟩
theorem XE.eqDO {i : Nat} {ds : List Dat} (hg : g[i]? = some (.ow ds)) (h : XE z ta g m fun m1 d1 => Cmp d1 ∧ Cmp (.lst ds) ∧ C m1 (.bl (eqD d1 (.lst ds)))) : XE z (tOp (rEqD K) ta (tVar i)) g m C := fun O σ H R Q k =>
  h O σ H R _ fun m1 d1 x H1 ⟨c1, c2, c⟩ R1 l1 q1 => by
    obtain ⟨p, vs, e, po, pG, hp, q⟩ := R1.sl i _ hg
    exact ⟨_, e, toP d1, toP (.lst ds), q1.dp c1.p, .lst (SqL.of hp) (q.dp (by simpa [plain] using c2.p)), c1.s, c2.s, k m1 _ _ H1 c R1 l1 (.bl _)⟩
end
theorem go_fld {Ca : Addr} {gs : List (Str × Dat)} {f : Str} {x : Dat} {q : Dat → Prop} (h : gs.lookup f = some x) (c : q x) : ∃ fs y, Dat.ins Ca gs = .ins Ca fs ∧ fs.lookup f = some y ∧ q y := ⟨gs, x, rfl, h, c⟩
theorem go_ins {Ca : Addr} {gs : List (Str × Dat)} {x : Str} {q : Prop} (h1 : cachF x = false) (h2 : gs.lookup x = none) (c : q) : IsIns Ca x (.ins Ca gs) ∧ q := ⟨⟨gs, rfl, h1, h2⟩, c⟩
theorem go_kc {a b n k : Nat} {q : Prop} (h1 : a = n) (h2 : b = k) (c : q) : a = n ∧ b = k ∧ q := ⟨h1, h2, c⟩
theorem go_isC {Ca : Addr} {gs : List (Str × Dat)} {q : Prop} (c : q) : ∃ fs, Dat.ins Ca gs = .ins Ca fs ∧ q := ⟨gs, rfl, c⟩
theorem go_isTy {d : Dat} {n a : String} {b : Bool} {q : Bool → Prop} (h1 : tyN d = some a) (h2 : kitB a n = some b) (c : q b) : ∃ a b, tyN d = some a ∧ kitB a n = some b ∧ q b := ⟨a, b, h1, h2, c⟩
theorem kb_int_int : kitB "int" "int" = some true := by decide +kernel
theorem kb_int_bool : kitB "int" "bool" = some false := by decide +kernel
theorem kb_bool_int : kitB "bool" "int" = some true := by decide +kernel
theorem kb_bool_bool : kitB "bool" "bool" = some true := by decide +kernel
theorem kb_str_str : kitB "str" "str" = some true := by decide +kernel
theorem kb_list_list : kitB "list" "list" = some true := by decide +kernel
theorem kb_tuple_tuple : kitB "tuple" "tuple" = some true := by decide +kernel
theorem kb_tuple_list : kitB "tuple" "list" = some false := by decide +kernel
theorem kb_list_tuple : kitB "list" "tuple" = some false := by decide +kernel
theorem kb_NoneType_list : kitB "NoneType" "list" = some false := by decide +kernel
theorem kb_NoneType_int : kitB "NoneType" "int" = some false := by decide +kernel
theorem kb_str_int : kitB "str" "int" = some false := by decide +kernel
theorem kb_int_list : kitB "int" "list" = some false := by decide +kernel
theorem kb_int_tuple : kitB "int" "tuple" = some false := by decide +kernel
theorem kb_NoneType_tuple : kitB "NoneType" "tuple" = some false := by decide +kernel
theorem kb_list_int : kitB "list" "int" = some false := by decide +kernel
theorem kb_tuple_int : kitB "tuple" "int" = some false := by decide +kernel
theorem kb_str_bool : kitB "str" "bool" = some false := by decide +kernel
end My

set_option maxHeartbeats 1000000
namespace My
open PySem PySem.Spec PyProof.Rows L2
open C8 (Cal pe_c pe_gc)
/-! ### objects made: what __init__ does, told of data -/
abbrev WpI := List Dat → (List (Str × Dat) → Prop) → Prop
def spI (W : WpI) (CH : Addr) : Sp := fun vs H Q _ => ∃ (a dx : Addr) (us : List V) (G : List Addr) (ds : List Dat) (Cf : List (Str × Dat) → Prop), vs = .ref a :: us ∧ H a = some (.ins CH dx []) ∧ a ∉ G ∧ Dom G H ∧ RpL (hid (a :: G) H) us ds ∧ W ds Cf ∧
  ∀ fs H' fvs, Cf fs → LeX [a] H H' → H' a = some (.ins CH dx fvs) → RpF (hid (a :: G) H') fvs fs → (∀ f, cachF f = false → fs.lookup f = none → fvs.lookup f = none) → Q .non H'
section
variable {z : Cz} {g : List Sl} {m : Nat} {C : Nat → Dat → Prop} {tr : TA} {E : XK}
theorem XE.make {W : WpI} {CH : Addr} (h : XA z tr g m fun m1 ds => W ds fun fs => C m1 (.ins CH fs)) : XE z (tMake CH (spI W CH) [] E tr) g m C := fun O σ H R Q k => h O σ H R _ fun m1 ds vs H1 c R1 l1 q1 => by
  intro x dx hx hdx ne
  have nO : x ∉ O := fun q => by obtain ⟨o, ho⟩ := R1.dom x q; rw [hx] at ho; cases ho
  have hx1 : upd H1 dx (.own x) x = none := by rw [upd_ne (Ne.symm ne)]; exact hx
  have la : Le H1 (upd (upd H1 dx (.own x)) x (.ins CH dx [])) := (Le.new hdx).trans (Le.new hx1)
  have lh : Le (hid O H1) (hid (x :: O) (upd (upd H1 dx (.own x)) x (.ins CH dx []))) := hid_more (la.hid) hx
  rw [List.append_nil]
  refine ⟨x, dx, vs, O, ds, _, rfl, upd_same, nO, fun p hp => ?_, q1.mono lh, c, fun fs H' fvs c' l' ha' rf no => ⟨rfl, ?_⟩⟩
  · obtain ⟨o, ho⟩ := R1.dom p hp
    exact (la p o ho).get.imp fun o' h => h
  have lf : Le H1 H' := fun b o hb => by
    have nb : b ≠ x := fun y => by subst y; rw [hx] at hb; cases hb
    have h2 := la b o hb
    obtain ⟨o', ho'⟩ := h2.get
    rw [ho'] at h2
    exact h2.trans (l' b o' (by simp [nb]) ho')
  exact k m1 _ _ H' c' (R1.up lf) (l1.trans lf.x) (.ins (by rw [hid_out nO]; exact ha') (rf.mono (hid_sub fun p hp => List.mem_cons_of_mem _ hp)) no)
end
end My
namespace My
open PySem PySem.Spec PyProof.Rows L2
open C8 (Cal pe_c pe_gc)
theorem Kp.refl (fs : List (Str × V)) : Kp fs fs := ⟨fun _ _ => rfl, rfl⟩
theorem Kp.len {fs fs' : List (Str × V)} (k : Kp fs fs') : fs'.length = fs.length := by simpa using congrArg List.length k.keys
theorem Lo.ins {C dx : Addr} {fs : List (Str × V)} {x : Option HO} (h : Lo (.ins C dx fs) x) : ∃ fs', x = some (.ins C dx fs') ∧ Kp fs fs' := by
  rcases h with h | ⟨C', dx', gs, gs', e, h, k⟩
  · exact ⟨fs, h, Kp.refl _⟩
  · cases e; exact ⟨_, h, k⟩
def houseF3 (ns : List Int) (rs : List Rw) : List (Str × Dat) := [("poly", nsD ns), ("rows", rwsD rs), ("ways", wysD (waysOf rs))]
noncomputable def houseD (CH : Addr) (ns : List Int) : Dat := .ins CH (houseF3 ns (rowsZ ns))
noncomputable def numD (CN CH : Addr) (ns : List Int) (xs : List Rat) : Dat := .ins CN [("home", houseD CH ns), ("parts", rsD xs)]
def W_House_init : WpI := fun ds Cf => ∃ (ns : List Int) (rs : List Rw), ds = [nsD ns, rwsD rs] ∧ rs.length ≤ 3 ∧ (∀ r ∈ rs, r.1 = 2 ∨ r.1 = 3) ∧ Cf (houseF3 ns rs)
def W_Number_init (CH : Addr) : WpI := fun ds Cf => ∃ (ns : List Int) (xs : List Rat), ds = [houseD CH ns, rsD xs] ∧ Cf [("home", houseD CH ns), ("parts", rsD xs)]
def W_must_poly (c : Cs) : WpX := fun ds C X => ∃ ns : List Int, ds = [nsD ns] ∧ ((faultOf ns).1 = true → C .non) ∧ ((faultOf ns).1 = false → X ⟨c.NoPoly, [("at", optD (faultOf ns).2)]⟩)
def W_house_of (c : Cs) (CH : Addr) : WpX := fun ds C X => ∃ ns : List Int, ds = [nsD ns] ∧ ((faultOf ns).1 = true → C (houseD CH ns)) ∧ ((faultOf ns).1 = false → X ⟨c.NoPoly, [("at", optD (faultOf ns).2)]⟩)
def W_must_fraction (c : Cs) : WpX := fun ds C X => ∃ q : Int × Int, ds = [qD q] ∧ Sz 8000 q.2 ∧ (q.2 ≠ 0 → C (frD (qR q))) ∧ (q.2 = 0 → X ⟨c.NoNumber, []⟩)
theorem ad_must_poly {c : Cs} {K : PySem.W.Frag} {vs : List V} {H : Hp} {Q : VK} {E : XK} (h : spX (W_must_poly c) vs H Q E) : sp_must_poly K c vs H Q E := by
  obtain ⟨G, ds, C, X, hd, r, ⟨ns, rfl, q, x⟩, k, kx⟩ := h
  cases r with
  | cons r t =>
    cases t
    obtain ⟨l, rfl, hl⟩ := rp_ns r
    refine ⟨l, ns, rfl, SqL.of hl, fun g H' s => k _ _ H' (q g) (.of s) .non, fun g d H' s n hdx => kx _ _ _ H' (x g) (.of s) ⟨rfl, .inr ⟨d, _, rfl, no_of_dom hd n, hdx, .cons rfl rfl ?_ .nil⟩⟩⟩
    cases (faultOf ns).2 with
    | none => exact .non
    | some m => exact .int _
theorem rp_q {K : PySem.W.Frag} {G : List Addr} {H : Hp} {v : V} {q : Int × Int} (r : Rp (hid G H) v (qD q)) : FrAt K H v q := by
  unfold qD at r
  cases r with
  | tup h r =>
    cases r with
    | cons a t =>
      cases t with
      | cons b t =>
        cases a; cases b; cases t
        exact ⟨_, rfl, (hid_some h).2⟩
theorem ad_must_fraction {c : Cs} {K : PySem.W.Frag} {vs : List V} {H : Hp} {Q : VK} {E : XK} (h : spX (W_must_fraction c) vs H Q E) : sp_must_fraction K c vs H Q E := by
  obtain ⟨G, ds, C, X, hd, r, ⟨q, rfl, hs, y, x⟩, k, kx⟩ := h
  cases r with
  | cons r t =>
    cases t
    refine ⟨_, q, rfl, rp_q r, hs, fun z => kx _ _ _ H (x z) (Le.refl H) ⟨rfl, .inl ⟨rfl, rfl⟩⟩, fun z H' p s hp n => k _ _ H' (y z) (.of s) (fr_rp hd n ?_)⟩
    rw [hp]
    have e := low_rat (t := q.1) z
    have e' : low q = nd (qR q) := e
    rw [e']
structure NmOk (K : PySem.W.Frag) (C : Addr) : Prop where
  cls : Cls K C
  home : NoAttr K C "home"
  parts : NoAttr K C "parts"
theorem no_look {f g : Str} {x : Dat} {fs : List (Str × Dat)} (h : List.lookup f ((g, x) :: fs) = none) : g ≠ f ∧ List.lookup f fs = none := by
  rw [List.lookup_cons] at h
  cases e : (f == g) with
  | true => rw [e] at h; cases h
  | false =>
    rw [e] at h
    exact ⟨fun z => by subst z; simp at e, h⟩
section
variable {c : Cs} {CH CN : Addr} {P : Program} {w : World} {K : PySem.W.Frag} {mg : Str → Option Value} {base : Heap}
abbrev s_Number_init : Stmt := inClass (top 46) 0
abbrev N_Number_init : List Str := ["self", "home", "parts"]
abbrev P_Number_init : List Str := ["self", "home", "parts"]
theorem sc_Number_init : FnScope N_Number_init ["self", "home", "parts"] (defScope s_Number_init) := ⟨rfl, rfl, rfl, by decide +kernel, rfl, by decide +kernel, by decide +kernel⟩

theorem ok_House_initD (T : Txt K mg c) (hC : HsOk K CH) {f : Addr} {fd : FuncData} (F : L2.Fun K "__init__" "House.__init__" s_House_init f fd) (h_ways_of : Cal P w K mg base 1 "ways_of" (spD W_ways_of) []) : FnOk P w K mg base CX0 2 f fd P_House_init (spI W_House_init CH) := by
  refine F.ok sc_House_init (fun vs H Q E h => ?_) (fun cdv A outer s H vs Q E hr h => ?_)
  · obtain ⟨a, dx, us, G, ds, Cf, rfl, _, _, _, r, ⟨ns, rs, rfl, _⟩, _⟩ := h
    cases r with
    | cons r t => cases t with
      | cons r t => cases t; rfl
  · obtain ⟨a, dx, us, G, ds, Cf, rfl, ha, aG, hd, r, ⟨ns, rs, rfl, l3, dg, cf⟩, k⟩ := h
    cases r with
    | cons r1 t => cases t with
      | cons r2 t =>
        cases t
        rename_i v1 v2
        refine ⟨_, (pss_cons (ps_fld (pv 0) (pv 1) rfl)
      (pss_cons (ps_fld (pv 0) (pv 2) rfl)
      (pss_cons (ps_fld (pv 0) (pe_c h_ways_of hr (by decide) rfl (pa_cons (pv 2) pa_nil)) rfl)
      (pss_cons (ps_fld (pv 0) pe_non rfl)
      (pss_one (ps_fld (pv 0) pe_non rfl)))))), ?_⟩
        have z0 : ([] : List (Str × V)).length = 0 := rfl
        have z1 := putF_len "poly" v1 []
        have z2 := putF_len "rows" v2 (putF "poly" v1 [])
        refine ⟨_, rfl, _, rfl, a, CH, dx, _, rfl, ha, hC.cls, hC.poly, (show 0 < 1000 by decide), ?_⟩
        refine ⟨_, rfl, _, rfl, a, CH, dx, _, rfl, upd_same, hC.cls, hC.rows, (by show (putF "poly" v1 []).length < 1000; omega), ?_⟩
        have x1 : LeX [a] H (upd H a (.ins CH dx (putF "poly" v1 []))) := fun b o n hb => .inl (by rw [upd_ne (by simpa using n)]; exact hb)
        have x2 : LeX [a] (upd H a (.ins CH dx (putF "poly" v1 []))) (upd (upd H a (.ins CH dx (putF "poly" v1 []))) a (.ins CH dx (putF "rows" v2 (putF "poly" v1 [])))) := fun b o n hb => .inl (by rw [upd_ne (by simpa using n)]; exact hb)
        have e2 : hid (a :: G) (upd (upd H a (.ins CH dx (putF "poly" v1 []))) a (.ins CH dx (putF "rows" v2 (putF "poly" v1 [])))) = hid (a :: G) H := by rw [hid_upd (List.mem_cons_self ..), hid_upd (List.mem_cons_self ..)]
        obtain ⟨H2, eH2⟩ : ∃ H2, H2 = upd (upd H a (.ins CH dx (putF "poly" v1 []))) a (.ins CH dx (putF "rows" v2 (putF "poly" v1 []))) := ⟨_, rfl⟩
        rw [← eH2] at x2 e2 ⊢
        have ha2 : H2 a = some (.ins CH dx (putF "rows" v2 (putF "poly" v1 []))) := by rw [eH2]; exact upd_same
        refine ⟨_, rfl, a :: G, [rwsD rs], (fun d => d = wysD (waysOf rs)), ?_, by rw [e2]; exact .cons r2 .nil, ⟨rs, rfl, l3, dg, rfl⟩, fun d v3 H1 ed s1 q3 => ?_⟩
        · intro p hp
          rcases List.mem_cons.mp hp with e | hp
          · subst e; exact ⟨_, ha2⟩
          · rw [eH2]
            by_cases e : p = a
            · subst e; exact ⟨_, upd_same⟩
            · rw [upd_ne e, upd_ne e]; exact hd p hp
        subst ed
        obtain ⟨F2, hF2, kp⟩ := (s1 a _ ha2).ins
        have kl := kp.len
        have z3 := putF_len "ways" v3 F2
        have z4 := putF_len "known" .non (putF "ways" v3 F2)
        refine ⟨_, rfl, a, CH, dx, _, rfl, hF2, hC.cls, hC.ways, by omega, ?_⟩
        refine ⟨_, rfl, a, CH, dx, _, rfl, upd_same, hC.cls, hC.known, by omega, ?_⟩
        refine ⟨_, rfl, a, CH, dx, _, rfl, upd_same, hC.cls, hC.moved, by omega, ?_⟩
        have ux : ∀ (H : Hp) (o : HO), LeX [a] H (upd H a o) := fun H o b o' n hb => .inl (by rw [upd_ne (by simpa using n)]; exact hb)
        have le12 : Le (hid (a :: G) H) (hid (a :: G) H1) := by rw [← e2]; exact s1.hid
        refine k _ _ _ cf (((((x1.trans x2).trans s1.x).trans (ux _ _)).trans (ux _ _)).trans (ux _ _)) upd_same ?_ ?_
        · rw [hid_upd (List.mem_cons_self ..), hid_upd (List.mem_cons_self ..), hid_upd (List.mem_cons_self ..)]
          have l1 : F2.lookup ("poly" : Str) = some v1 := by rw [kp.look _ rfl, lookup_putF, lookup_putF]; rfl
          have l2 : F2.lookup ("rows" : Str) = some v2 := by rw [kp.look _ rfl, lookup_putF]; rfl
          refine .cons rfl ?_ (r1.mono le12) (.cons rfl ?_ (r2.mono le12) (.cons rfl ?_ q3 .nil))
          · rw [lookup_putF, lookup_putF, lookup_putF, if_neg (by decide), if_neg (by decide), if_neg (by decide)]; exact l1
          · rw [lookup_putF, lookup_putF, lookup_putF, if_neg (by decide), if_neg (by decide), if_neg (by decide)]; exact l2
          · rw [lookup_putF, lookup_putF, lookup_putF, if_neg (by decide), if_neg (by decide), if_pos rfl]
        · intro g hc hl
          obtain ⟨n1, hl⟩ := no_look hl
          obtain ⟨n2, hl⟩ := no_look hl
          obtain ⟨n3, hl⟩ := no_look hl
          have nk : g ≠ "known" := fun z => by subst z; exact absurd hc (by decide)
          have nm : g ≠ "moved" := fun z => by subst z; exact absurd hc (by decide)
          rw [lookup_putF, lookup_putF, lookup_putF, if_neg nm, if_neg nk, if_neg (Ne.symm n3), kp.look _ hc, lookup_putF, lookup_putF, if_neg (Ne.symm n2), if_neg (Ne.symm n1)]
          rfl
theorem ok_Number_initD (T : Txt K mg c) (hC : NmOk K CN) {f : Addr} {fd : FuncData} (F : L2.Fun K "__init__" "Number.__init__" s_Number_init f fd) : FnOk P w K mg base CX0 1 f fd P_Number_init (spI (W_Number_init CH) CN) := by
  refine F.ok sc_Number_init (fun vs H Q E h => ?_) (fun cdv A outer s H vs Q E hr h => ?_)
  · obtain ⟨a, dx, us, G, ds, Cf, rfl, _, _, _, r, ⟨ns, rs, rfl, _⟩, _⟩ := h
    cases r with
    | cons r t => cases t with
      | cons r t => cases t; rfl
  · obtain ⟨a, dx, us, G, ds, Cf, rfl, ha, aG, hd, r, ⟨ns, xs, rfl, cf⟩, k⟩ := h
    cases r with
    | cons r1 t => cases t with
      | cons r2 t =>
        cases t
        rename_i v1 v2
        refine ⟨_, (pss_cons (ps_fld (pv 0) (pv 1) rfl)
      (pss_one (ps_fld (pv 0) (pv 2) rfl))), ?_⟩
        have z0 : ([] : List (Str × V)).length = 0 := rfl
        have z1 := putF_len "home" v1 []
        refine ⟨_, rfl, _, rfl, a, CN, dx, _, rfl, ha, hC.cls, hC.home, (show 0 < 1000 by decide), ?_⟩
        refine ⟨_, rfl, _, rfl, a, CN, dx, _, rfl, upd_same, hC.cls, hC.parts, (by show (putF "home" v1 []).length < 1000; omega), ?_⟩
        have ux : ∀ (H : Hp) (o : HO), LeX [a] H (upd H a o) := fun H o b o' n hb => .inl (by rw [upd_ne (by simpa using n)]; exact hb)
        refine k _ _ _ cf ((ux _ _).trans (ux _ _)) upd_same ?_ ?_
        · rw [hid_upd (List.mem_cons_self ..), hid_upd (List.mem_cons_self ..)]
          refine .cons rfl ?_ r1 (.cons rfl ?_ r2 .nil)
          · rw [lookup_putF, lookup_putF, if_neg (by decide), if_pos rfl]
          · rw [lookup_putF, if_pos rfl]
        · intro g hc hl
          obtain ⟨n1, hl⟩ := no_look hl
          obtain ⟨n2, hl⟩ := no_look hl
          rw [lookup_putF, lookup_putF, if_neg (Ne.symm n2), if_neg (Ne.symm n1)]
          rfl
theorem ok_house_ofD (T : Txt K mg c) {f : Addr} {fd : FuncData} (F : L2.Fun K "house_of" "house_of" s_house_of f fd) (h_must_poly : CalX P w K mg base 3 "must_poly" (spX (W_must_poly c))) (h_rows_of : Cal P w K mg base 5 "rows_of" (spD W_rows_of) []) (m_House : C8.Mak P w K mg base 2 "House" CH (spI W_House_init CH) []) : FnOk P w K mg base (L2.CX P w) 6 f fd P_house_of (spX (W_house_of c CH)) := by
  refine okX F sc_house_of (fun ds C X ⟨_, e, _⟩ => by rw [e]; rfl) fun cdv A outer s H E hr => ⟨_, (pss_cons (ps_expr (pe_cS h_must_poly hr (by decide) rfl (fun σ => passAt (takes_of rfl rfl rfl rfl) σ) (pa_cons (pv 0) pa_nil)))
      (pss_one (ps_ret (C8.pe_mk m_House hr (by decide) rfl (pa_cons (pe_callTy call_list_of (by rfl) T.z_list (by decide +kernel) (pa_cons (pv 0) pa_nil)) (pa_cons (pe_c h_rows_of hr (by decide) rfl (pa_cons (pv 0) pa_nil)) pa_nil)))))), fun z ds C X hX ⟨ns, e, q, x⟩ => ?_⟩
  subst e
  refine XS.seq (XS.drop (XE.callX (X := fun _ e => X e) (fun O σ m' H' e cls d x R q => hX O _ m' σ H' e cls d x R q) ?_))
  (repeat' (first | refine XE.var rfl ?_ | refine XA.nil ?_ | refine XA.cons ?_))
  refine ⟨ns, rfl, fun g => ?_, fun g => x g⟩
  have G := good_of g
  have rk := rowsZ_ok ns
  (repeat' (first | refine XS.ret ?_ | refine XE.var rfl ?_ | refine XE.ofN (XN.cb dn_listOf ?_) | refine XE.make ?_ | refine XA.nil ?_ | refine XA.cons ?_))
  refine ⟨_, _, rfl, rfl, ?_⟩
  (repeat' (first | refine XE.var rfl ?_ | refine XE.call ?_ | refine XA.nil ?_ | refine XA.cons ?_))
  refine ⟨ns, rfl, G, ?_⟩
  (repeat' (first | refine XA.nil ?_))
  exact ⟨ns, rowsZ ns, rfl, rk.1, rk.2, q g⟩
end
end My

namespace My
open PySem PySem.Spec PyProof.Rows L2
open C8 (Cal pe_c pe_gc)
/-! ### what is caught and kept, told of data; max with a default -/
abbrev rLenS (K : PySem.W.Frag) : List V → Hp → VK → Prop := fun xs H Q => ∃ p ys, xs = [.ref p] ∧ (SqL K H p ys ∨ SqT K H p ys) ∧ Q (.int ys.length) H
def Catch (K : PySem.W.Frag) : List Value → Addr → Prop
  | [], _ => False
  | c :: cs, C => PySem.W.exmOne K (.ref C) c = some true ∨ (PySem.W.exmOne K (.ref C) c = some false ∧ Catch K cs C)
def keepS (i j : Nat) (cs : List Value) : List (Value × (Addr → Value → Option Addr → TS)) := cs.map fun c => (c, fun _ _ _ => tAsg (tVar i) (gName j))
theorem wKeep_ok {K : PySem.W.Frag} {i j : Nat} {Wout : WX} {D : Ends} {C : Addr} {d : Option Addr} {σ : L2.St} {H : Hp} (hf : ∀ a, H a = none → (tAsg (tVar i) (gName j)) (DKeep i a (.ref C) d D) (σ.set i (some (.ref a))) H) :
    ∀ {cs : List Value}, Catch K cs C → wKeep K i Wout D (keepS i j cs) (.ref C) d σ H
  | [], h => h.elim
  | c :: cs, h => by
    rcases h with h | ⟨h, t⟩
    · exact ⟨true, h, fun _ a ha => hf a ha, fun z => nomatch z⟩
    · exact ⟨false, h, (fun z => nomatch z), fun _ => wKeep_ok hf t⟩
section
variable {z : Cz} {g : List Sl} {m : Nat} {tr tk : TA} {E : DE} {K : PySem.W.Frag} {i j : Nat} {cs : List Value} {Wout : WX}
theorem exc_rp {O : List Addr} {H : Hp} {e : Err} {a : Addr} {d : Option Addr} (n : a ∉ O) (ha : H a = none) (q : ErrAt O H e (.ref e.C) d) : Rp (hid O (upd H a (ExV (.ref e.C) d a))) (.ref a) (.exc e.C e.fs) := by
  obtain ⟨_, ⟨hf, rfl⟩ | ⟨dd, fvs, rfl, nd, hd, rf⟩⟩ := q
  · rw [hf]
    exact .exc0 (by rw [hid_out n]; exact upd_same)
  · have l : Le H (upd H a (ExV (.ref e.C) (some dd) a)) := .new ha
    refine .exc1 (by rw [hid_out n]; exact upd_same) ?_ (rf.mono l.hid)
    rw [hid_out nd, upd_ne (fun y => by subst y; rw [ha] at hd; cases hd)]
    exact hd
/-- try: x(..) with clauses that keep what was caught -/
theorem XS.tryDrop {Wp : WpX} {X : Nat → Err → Prop} (hx : XA z tr g m fun m1 ds => Wp ds (fun _ => E.nx g m1) (X m1)) (hc : ∀ m' e, X m' e → Catch K cs e.C ∧ E.nx ((g.set j (.dt (.exc e.C e.fs))).set i .un) m') (ij : i ≠ j) (il : i < g.length) :
    XS z (fun D σ H => tDrop (tCallS (spX Wp) (fun σ cls d H' => wKeep K i Wout D (keepS i j cs) cls d σ H') tr) D σ H) g m E := fun O σ H R D k =>
  hx O σ H R _ fun m1 ds vs H1 c R1 l1 q1 => ⟨O, ds, _, X m1, R1.dom, q1, c, fun d v H' c' l' q' => k.nx _ _ _ _ _ c' (R1.up l') ((l1.trans l'.x).z R.po), fun e cls d H' x l' q => by
    obtain ⟨hcat, hn⟩ := hc m1 e x
    have ec := q.1
    subst ec
    refine wKeep_ok (fun a ha => ?_) hcat
    have R2 := R1.up l'
    have n : a ∉ O := no_of_dom R2.dom ha
    have l3 : Le H' (upd H' a (ExV (.ref e.C) d a)) := .new ha
    have R3 := R2.up l3
    have R4 := (R3.set j (exc_rp n ha q)).un i none
    refine ⟨.ref a, by rw [List.getElem?_set_self (by rw [R.len]; exact il)], fun _ => ?_⟩
    have es : (((σ.set i (some (V.ref a))).set j (some (.ref a))).set i none) = ((σ.set j (some (.ref a))).set i none) := by
      rw [List.set_comm _ _ ij, List.set_set]
    show D.nx (((σ.set i (some (V.ref a))).set j (some (.ref a))).set i none) _
    rw [es]
    exact k.nx _ _ _ _ _ hn R4 (((l1.trans l'.x).trans l3.x).z R.po)⟩
end
/-! max(xs, default=d) -/
def tMaxD (K : PySem.W.Frag) (t tk : TA) : TE := fun σ H Q => t σ H fun vs H1 => tk σ H1 fun zs H2 => ∃ (a : Addr) (n d : Int) (r : List Int), vs = [.ref a] ∧ zs = [.int d] ∧ SqL K H2 a ((n :: r).map V.int) ∧ Q (.int (r.foldl max n)) H2
theorem dpI {K : PySem.W.Frag} {H : Hp} : ∀ ns : List Int, DpAll K H (ns.map V.int) (ns.map PyData.int)
  | [] => .nil
  | n :: r => .cons (.int n) (dpI r)
theorem depI : ∀ ns : List Int, PyData.depthAll (ns.map PyData.int) ≤ 1
  | [] => by simp [PyData.depthAll]
  | n :: r => by
    have := depI r
    simp only [List.map_cons, PyData.depthAll, PyData.depth]
    omega
theorem alikeI (ns : List Int) : PySem.W.AlikeAll (ns.map PyData.int) := ⟨fun x hx y hy => by
  obtain ⟨i, _, rfl⟩ := List.mem_map.mp hx
  obtain ⟨j, _, rfl⟩ := List.mem_map.mp hy
  rfl, fun x hx => by
  obtain ⟨i, _, rfl⟩ := List.mem_map.mp hx
  exact fun z => nomatch z⟩
theorem pe_maxD {X : Cx} {e : Expr} {t tk : TA} {p pos : Pos} {kws : List Keyword} (hu : X.A.units + 64 < cLine) (hc : X.calm = true) (hg : Gl X "max") (hm : X.mg "max" = none) (ha : PA X [e] t) (hk : PK X kws tk)
    (he : backTo pos (starEach [e] X.env) = (false, eval e X.env) :: backTo pos (starEach [] X.env) := by rfl) (hpl : (backTo pos (starEach [e] X.env)).any (·.1) = false := by rfl)
    (hall : (backToKw pos (keywordEach kws X.env)).all (·.1.isSome) = true := by rfl) (hnone : (backToKw pos (keywordEach kws X.env)).any (·.1.isNone) = false := by rfl) (hks : (backToKw pos (keywordEach kws X.env)).filterMap (·.1) = [Str.ofString "default"] := by rfl) :
    PE X (.Call (.Name "max" p) [e] kws pos) (tMaxD X.K t tk) := by
  refine ⟨fun pins s σ H Q I h => ?_⟩
  refine wpAny_Call_Name_kw (ld_blt I hg hm (show bootBuiltins "max" = some (.builtin "max") from by kernel_rfl) ?_ (by decide) (by decide))
  refine PyProof.Rows.callWith_kw (thn (ha.run pos pins s σ H _ I h) fun us s1 ⟨vs, H1, I1, r, q⟩ => thn (hk.run pos pins s1 σ H1 _ I1 q) fun ws s2 ⟨zs, H2, I2, rz, a, n, d, r', e1, e2, hs, q2⟩ => ?_) he hpl hall hnone
  subst e1 e2
  rw [hks]
  obtain ⟨w', rfl, rw'⟩ := vals1 rz
  obtain ⟨its, rv, hl, _⟩ := I2.list hs
  rw [Vals.ref1 r]
  obtain ⟨as, hr⟩ := Dp.readsAll I2 ((n :: r').map PyData.int) _ its (dpI _) rv
  refine PySem.W.max_list_default (I2.ok.hd hc) hl.isList hr (alikeI _) (by have := depI (n :: r'); omega) (fun z => nomatch z) fun y ys i v h' tk bs e hv rd hk' => ?_
  have ey : y = PyData.int n ∧ ys = r'.map PyData.int := by
    have e' : PyData.int n :: r'.map PyData.int = y :: ys := e
    injection e' with e1 e2
    exact ⟨e1.symm, e2.symm⟩
  rw [ey.1, ey.2, PySem.W.maxD_ints] at rd
  cases rd with
  | int i t => exact ⟨.int _, H2, I2.kept hk', ⟨_, rfl⟩, q2⟩
section
variable {z : Cz} {g : List Sl} {m : Nat} {C : Nat → Dat → Prop} {t tk : TA} {K : PySem.W.Frag}
theorem XE.maxD (h : XA z t g m fun m1 ds => XA z tk g m1 fun m2 es => ∃ (n d : Int) (r : List Int), ds = [.lst ((n :: r).map Dat.int)] ∧ es = [.int d] ∧ C m2 (.int (r.foldl max n))) : XE z (tMaxD K t tk) g m C := fun O σ H R Q k =>
  h O σ H R _ fun m1 ds vs H1 c1 R1 l1 q1 => c1 O σ H1 R1 _ fun m2 es zs H2 ⟨n, d, r, e1, e2, c⟩ R2 l2 q2 => by
    subst e1 e2
    cases q1 with
    | cons q1 t1 =>
      cases t1
      cases q2 with
      | cons q2 t2 =>
        cases q2; cases t2
        obtain ⟨a, rfl, ha⟩ := rp_ns (ns := n :: r) (q1.mono (l2.hid R1.po))
        exact ⟨a, n, d, r, rfl, rfl, SqL.of ha, k m2 _ _ H2 c R2 (l1.trans l2) (.int _)⟩
end
end My

/-! ### a list that came as an argument, by reference; comprehensions that may raise -/
namespace My
open PySem PySem.Spec PyProof.Rows L2
section
variable {z : Cz} {g : List Sl} {m : Nat} {C : Nat → Dat → Prop} {CL : Nat → List Dat → Prop} {t ta te to : TE} {tr : TA} {E : DE} {wi : TI} {gt : TG} {K : PySem.W.Frag}
theorem XN.toX {vs : List Nat} (h : XIc z wi g m fun m1 ds => ∃ (out : List Dat) (P : Nat → Prop), ds.length = out.length ∧ ds.length ≤ 1000 ∧ (∀ (i : Nat) (d o : Dat), ds[i]? = some d → out[i]? = some o → XG z vs gt d (wipeG g vs) fun g3 => XE z te g3 m1 fun m4 y => m4 = m1 ∧ y = o ∧ P i) ∧ ((∀ i, i < ds.length → P i) → CL m1 out)) :
    XN z (tLc wi gt tYes te vs) g m CL := XN.lcC fun O σ H R Q k => h O σ H R Q fun m1 ds J H1 ⟨out, P, hl, h1, hb, c⟩ R1 l1 w =>
  k m1 ds J H1 ⟨fun i acc m2 => acc = out.take i ∧ m2 = m1 ∧ ∀ j, j < i → P j, ⟨rfl, rfl, fun j hj => absurd hj (Nat.not_lt_zero j)⟩, fun i d acc m2 hi ⟨e1, e2, e3⟩ => by
    subst e1 e2
    have hlt : i < out.length := by rw [← hl]; exact (List.getElem?_eq_some_iff.mp hi).1
    have ho := List.getElem?_eq_getElem hlt
    intro O m σ H v R q R' k'
    refine hb i d _ hi ho O m σ H v R q R' fun g' σ' c' R'' w' => k' g' σ' (XT.yes ?_) R'' w'
    rw [if_pos rfl]
    intro O σ H R Q k
    refine c' O σ H R Q fun m' y v H' ⟨e1, e2, e4⟩ => k m' y v H' ⟨?_, ?_, e1, fun j hj => ?_⟩
    · rw [List.length_take]; omega
    · rw [e2, take_more ho]
    · by_cases q : j = i
      · subst q; exact e4
      · exact e3 j (by omega), fun acc m2 ⟨e1, e2, e3⟩ => by
    subst e1 e2
    rw [hl, List.take_of_length_le (Nat.le_refl _)]
    exact c e3⟩ R1 l1 w
/-- the list in a slot that holds the argument itself -/
structure ArgL (z : Cz) (p : Addr) (ws : List V) (ds : List Dat) : Prop where
  b : z.B p = some (.lst ws)
  n : p ∉ z.P
  r : RpL (hid z.G z.B) ws ds
theorem XIc.rawL {i : Nat} {p : Addr} {ws : List V} {ds : List Dat} (hg : g[i]? = some (.raw (.ref p))) (a : ArgL z p ws ds) (c : CL m ds) : XIc z (iList K (tVar i)) g m CL := fun O σ H R Q k => by
  have hp := R.le.lst a.n a.b
  refine ⟨_, R.sl i _ hg, _, rfl, ⟨_, SqL.of hp⟩, k m ds _ H c R (LeX.refl _ _) fun D j H' hD nO le' dom' => ?_⟩
  have hp2 := (hid_some (le'.lst a.n hp)).2
  have lg : Le (hid z.G z.B) (hid (D :: O) H') := fun b o hb => by
    obtain ⟨nb, hb⟩ := hid_some hb
    have nP : b ∉ z.P := fun q => nb (R.pg b q)
    have nO : b ∉ O := fun q => (R.new b q).elim nb fun z => by rw [hb] at z; cases z
    rw [← hid_hid1, hid_out nO]
    exact (R.le.trans le') b o nP hb
  refine ⟨fun d hi => ?_, fun hi => ⟨_, SqL.of hp2, a.r.none hi⟩⟩
  obtain ⟨v, hv, rv⟩ := a.r.get hi
  refine ⟨⟨_, v, SqL.of hp2, hv⟩, fun x H'' ⟨e1, e2⟩ => ?_⟩
  subst e1
  have := e2 _ (SqL.of hp2)
  rw [hv] at this; cases this
  exact ⟨Le.refl _, rv.mono lg⟩
theorem XE.lenR {i : Nat} {p : Addr} {ws : List V} {ds : List Dat} (hg : g[i]? = some (.raw (.ref p))) (a : ArgL z p ws ds) (c : C m (.int ds.length)) : XE z (tCB (fun xs H Q => ∃ p ys, xs = [.ref p] ∧ (SqL K H p ys ∨ SqT K H p ys) ∧ Q (.int ys.length) H) (tCons (tVar i) tNil)) g m C := fun O σ H R Q k =>
  ⟨_, R.sl i _ hg, p, ws, rfl, .inl (SqL.of (R.le.lst a.n a.b)), k m _ _ H c R (LeX.refl _ _) (by rw [a.r.length]; exact .int _)⟩
/-- self and a list by reference -/
def spL (W : WpX) : Sp := fun vs H Q E => ∃ (G : List Addr) (d0 : Dat) (es : List Dat) (v0 : V) (p : Addr) (ws : List V) (C : Dat → Prop) (X : Err → Prop), vs = [v0, .ref p] ∧ Dom G H ∧ Rp (hid G H) v0 d0 ∧ H p = some (.lst ws) ∧ RpL (hid G H) ws es ∧ W [d0, .lst es] C X ∧
  (∀ d v H', C d → Le H H' → Rp (hid G H') v d → Q v H') ∧ (∀ e cls d H', X e → Le H H' → ErrAt G H' e cls d → E cls d H')
theorem spL_of {W : WpX} (hW : ∀ ds C X, W ds C X → ∃ d0 es, ds = [d0, .lst es]) {vs : List V} {H : Hp} {Q : VK} {E : XK} (h : spX W vs H Q E) : spL W vs H Q E := by
  obtain ⟨G, ds, C, X, hd, r, w, k, kx⟩ := h
  obtain ⟨d0, es, rfl⟩ := hW _ _ _ w
  cases r with
  | cons r0 t => cases t with
    | cons r1 t =>
      cases t
      cases r1 with
      | lst ha ra => exact ⟨G, d0, es, _, _, _, C, X, rfl, hd, r0, (hid_some ha).2, ra, w, k, kx⟩
theorem Real.setR {z : Cz} {O : List Addr} {g : List Sl} {m : Nat} {σ : L2.St} {H : Hp} (R : Real z O g m σ H) (i : Nat) (v : V) : Real z O (g.set i (.raw v)) m (σ.set i (some v)) H where
  dom := R.dom
  sub := R.sub
  new := R.new
  pg := R.pg
  pur := R.pur
  le := R.le
  len := by rw [List.length_set, List.length_set, R.len]
  sl := fun j x h => by
    by_cases e : i = j
    · subst e
      have hl : i < g.length := by
        have := (List.getElem?_eq_some_iff.mp h).1
        rwa [List.length_set] at this
      rw [List.getElem?_set_self hl] at h
      cases h
      show (σ.set i (some v))[i]? = some (some v)
      rw [List.getElem?_set_self (by rw [R.len]; exact hl)]
    · rw [List.getElem?_set_ne e] at h
      have := R.sl j x h
      rw [List.getElem?_set_ne e]
      exact this
  inj := fun a b p ds es ha hb sa sb => by
    by_cases e : i = a
    · subst e
      have hl : i < g.length := by
        have := (List.getElem?_eq_some_iff.mp ha).1
        rwa [List.length_set] at this
      rw [List.getElem?_set_self hl] at ha
      cases ha
    by_cases e' : i = b
    · subst e'
      have hl : i < g.length := by
        have := (List.getElem?_eq_some_iff.mp hb).1
        rwa [List.length_set] at this
      rw [List.getElem?_set_self hl] at hb
      cases hb
    rw [List.getElem?_set_ne e] at ha sa
    rw [List.getElem?_set_ne e'] at hb sb
    exact R.inj a b p ds es ha hb sa sb
variable {n nk : Nat} {tm : List Pk} {Ca : Addr} {x : Str} {Ek : L2.St → XK} {tk : TA} {W : WpX} {X : Nat → Err → Prop}
/-- the list is data -/
theorem XE.kmLd (hW : ∀ ds C X, W ds C X → ∃ d0 es, ds = [d0, .lst es]) (ok : tm.all (pkOk n nk) = true) (hX : ∀ O σ m' H' e cls d, X m' e → Real z O g m' σ H' → ErrAt O H' e cls d → Ek σ cls d H')
    (h : XE z to g m fun m0 d0 => IsIns Ca x d0 ∧ XA z tr g m0 fun m1 ds => XA z tk g m1 fun m2 es => ds.length + 1 = n ∧ es.length = nk ∧ W (pickD tm (d0 :: ds) es) (C m2) (X m2)) : XE z (tKm Ca x (spL W) n nk tm Ek to tr tk) g m C := fun O σ H R Q k =>
  h O σ H R _ fun m0 d0 v0 H0 ⟨hi, c0⟩ R0 l0 q0 => by
    obtain ⟨a, dx, fs, ev, ha, hl⟩ := hi.get q0
    refine ⟨a, dx, fs, ev, ha, hl, c0 O σ H0 R0 _ fun m1 ds vs H1 c1 R1 l1 q1 => c1 O σ H1 R1 _ fun m2 es zs H2 ⟨e1, e2, c⟩ R2 l2 q2 => ?_⟩
    have q1' := RpL.cons (q0.mono ((l1.trans l2).hid R0.po)) (q1.mono (l2.hid R1.po))
    exact ⟨by rw [q1.length]; exact e1, by rw [q2.length]; exact e2, spL_of hW ⟨O, _, C m2, X m2, R2.dom, q1'.pick q2 ok, c, fun d v H' c' l' q' => k m2 d v H' c' (R2.up l') (((l0.trans l1).trans l2).trans l'.x) q', fun e cls d H' x l' q' => hX O σ m2 H' e cls d x (R2.up l') q'⟩⟩
/-- the list is the def's own, and stays so -/
theorem XE.kmLo {i : Nat} {es : List Dat} (hX : ∀ O σ m' H' e cls d, X m' e → Real z O g m' σ H' → ErrAt O H' e cls d → Ek σ cls d H') (hg : g[i]? = some (.ow es))
    (h : XE z to g m fun m0 d0 => IsIns Ca x d0 ∧ W [d0, .lst es] (C m0) (X m0)) : XE z (tKm Ca x (spL W) 2 0 [.p 0, .p 1] Ek to (tCons (tVar i) tNil) tNil) g m C := fun O σ H R Q k =>
  h O σ H R _ fun m0 d0 v0 H0 ⟨hi, c⟩ R0 l0 q0 => by
    obtain ⟨a, dx, fs, ev, ha, hl⟩ := hi.get q0
    obtain ⟨p, ws, e, po, pG, hp, q⟩ := R0.sl i _ hg
    exact ⟨a, dx, fs, ev, ha, hl, _, e, rfl, rfl, O, d0, es, v0, p, ws, C m0, X m0, rfl, R0.dom, q0, hp, q, c, fun d v H' c' l' q' => k m0 d v H' c' (R0.up l') (l0.trans l'.x) q', fun e cls d H' x l' q' => hX O σ m0 H' e cls d x (R0.up l') q'⟩
/-- try: y = x(..) with clauses that keep what was caught -/
theorem XS.trySet {Wp : WpX} {Xe : Nat → Err → Prop} {cs : List Value} {i j q : Nat} {Wout : WX} (hx : XA z tr g m fun m1 ds => Wp ds (fun d => E.nx (g.set q (.dt d)) m1) (Xe m1)) (hc : ∀ m' e, Xe m' e → Catch K cs e.C ∧ E.nx ((g.set j (.dt (.exc e.C e.fs))).set i .un) m') (ij : i ≠ j) (il : i < g.length) :
    XS z (fun D σ H => tAsg (tCallS (spX Wp) (fun σ cls d H' => wKeep K i Wout D (keepS i j cs) cls d σ H') tr) (gName q) D σ H) g m E := fun O σ H R D k =>
  hx O σ H R _ fun m1 ds vs H1 c R1 l1 q1 => ⟨O, ds, _, Xe m1, R1.dom, q1, c, fun d v H' c' l' q' => k.nx _ _ _ _ _ c' ((R1.up l').set q q') ((l1.trans l'.x).z R.po), fun e cls d H' x l' q => by
    obtain ⟨hcat, hn⟩ := hc m1 e x
    have ec := q.1
    subst ec
    refine wKeep_ok (fun a ha => ?_) hcat
    have R2 := R1.up l'
    have n : a ∉ O := no_of_dom R2.dom ha
    have l3 : Le H' (upd H' a (ExV (.ref e.C) d a)) := .new ha
    have R3 := R2.up l3
    have R4 := (R3.set j (exc_rp n ha q)).un i none
    refine ⟨.ref a, by rw [List.getElem?_set_self (by rw [R.len]; exact il)], fun _ => ?_⟩
    have es : (((σ.set i (some (V.ref a))).set j (some (.ref a))).set i none) = ((σ.set j (some (.ref a))).set i none) := by
      rw [List.set_comm _ _ ij, List.set_set]
    show D.nx (((σ.set i (some (V.ref a))).set j (some (.ref a))).set i none) _
    rw [es]
    exact k.nx _ _ _ _ _ hn R4 (((l1.trans l'.x).trans l3.x).z R.po)⟩
/-- an own list lent to a call that tells a truth -/
theorem XE.callO {W : WpD} {Eo : XK} {i : Nat} {es : List Dat} (hg : g[i]? = some (.ow es)) (h : XA z tr g m fun m1 ds => W (.lst es :: ds) fun d => ∃ b, d = .bl b ∧ C m1 (.bl b)) : XE z (tCall (spD W) [] Eo (tCons (tVar i) tr)) g m C := fun O σ H R Q k => by
  obtain ⟨p, ws, e, po, pG, hp, q⟩ := R.sl i _ hg
  refine ⟨_, e, h O σ H R _ fun m1 ds vs H1 c R1 l1 q1 => ?_⟩
  obtain ⟨p', ws', e', po', pG', hp', q'⟩ := R1.sl i _ hg
  have ep : p = p' := by
    rw [e] at e'
    cases e'
    rfl
  subst ep
  have le : Le (hid O H1) (hid (O.filter fun b => b != p) H1) := hid_sub fun b hb => (List.mem_filter.mp hb).1
  have lo : hid (O.filter fun b => b != p) H1 p = some (.lst ws') := by
    rw [hid_out (by simp)]
    exact hp'
  rw [List.append_nil]
  refine ⟨O.filter fun b => b != p, _, _, fun b hb => R1.dom b (List.mem_filter.mp hb).1, .cons (.lst lo (q'.mono le)) (q1.mono le), c, fun d v H' ⟨b, eb, cb⟩ l' r' => ?_⟩
  subst eb
  cases r'
  exact k m1 _ _ H' cb (R1.up l') (l1.trans l'.x) (.bl b)
theorem dr_in : DR2 (rIn K false) (fun d e C => ∃ (i : Int) (ns : List Int), d = .int i ∧ e = nsD ns ∧ C (.bl (inV (.int i) (ns.map V.int)))) := fun O H x y d e C Q _ rx ry ⟨i, ns, e1, e2, c⟩ k => by
  subst e1 e2
  cases rx
  obtain ⟨a, rfl, ha⟩ := rp_ns ry
  exact ⟨_, _, rfl, .inl (SqL.of ha), rfl, by rw [List.all_map]; exact List.all_eq_true.mpr fun _ _ => rfl, k _ _ H c (Le.refl H) (.bl _)⟩
end
section
variable {P : Program} {w : World} {K : PySem.W.Frag} {mg : Str → Option Value} {base : Heap} {x qual : Str} {st : Stmt} {f : Addr} {fd : FuncData} {N ps : List Str} {k : Nat}
theorem okL {W : WpX} (F : L2.Fun K x qual st f fd) (S : FnScope N ps (defScope st)) (hps : ps.length = 2)
    (hb : ∀ (cdv : Value) (A : Around) (outer : List Env) (s : Shared) (H : Hp) (E : XK), Room k (A.deeper (envOfC qual (defScope st) s.heap.objs.size f cdv)) →
      ∃ t, PSs (cxOf (L2.CX P w) P w K mg base N qual (defScope st) f cdv A outer s H E) (defBody st) t ∧ ∀ (z : Cz) (d0 : Dat) (es : List Dat) (p : Addr) (ws : List V) (C : Dat → Prop) (X : Err → Prop), ArgL z p ws es → (∀ O g m σ H' e cls d, X e → Real z O g m σ H' → ErrAt O H' e cls d → E cls d H') → W [d0, .lst es] C X →
        XS z t ((argsG N.length [d0, .non]).set 1 (.raw (.ref p))) 0 { nx := fun _ _ => C .non, rt := fun _ d => C d, rn := fun _ es => C (.lst es) }) :
    FnOk P w K mg base (L2.CX P w) (k + 1) f fd ps (spL W) := by
  refine F.okX S (fun vs H Q E h => ?_) (fun cdv A outer s H vs Q E hr h => ?_)
  · obtain ⟨G, d0, es, v0, p, ws, C, X, rfl, _⟩ := h
    rw [hps]; rfl
  · obtain ⟨G, d0, es, v0, p, ws, C, X, rfl, hd, r0, hp, rl, hW, hk, hx'⟩ := h
    obtain ⟨t, ht, hx⟩ := hb cdv A outer s H E hr
    have RS := (real_start (z := ⟨G, [], H⟩) (N := N) (vs := [v0, .non]) (ds := [d0, .non]) (m := 0) rfl hd (by simp) (by simp) (.cons r0 (.cons .non .nil))).setR 1 (.ref p)
    have es' : (L2.start N [v0, .non]).set 1 (some (.ref p)) = L2.start N [v0, .ref p] := rfl
    rw [es'] at RS
    refine ⟨t, ht, hx ⟨G, [], H⟩ d0 es p ws C X ⟨hp, by simp, rl⟩ (fun O g m σ H' e cls d x R' q => ?_) hW G _ H RS _ ⟨fun O' g' m' σ' H' c R' l => ?_, fun O' g' m' σ' d v H' c R' q => ?_, fun O' g' m' σ' es p H' c R' n nb f => ?_, fun _ _ _ _ _ c => c.elim, fun _ _ _ _ _ c => c.elim⟩⟩
    · refine hx' e cls d H' x (LeX.le R'.le) ⟨q.1, ?_⟩
      rcases q.2 with q | ⟨a, fvs, e1, n, ha, rf⟩
      · exact .inl q
      · exact .inr ⟨a, fvs, e1, fun z => n (R'.sub a z), ha, rf.mono (hid_sub R'.sub)⟩
    · exact hk _ _ H' c (LeX.le R'.le) .non
    · exact hk d v H' c (LeX.le R'.le) (q.mono (hid_sub R'.sub))
    · obtain ⟨vs, hp, q⟩ := f
      have l := hid1_le H' p
      exact hk _ _ H' c ((LeX.le R'.le).trans l) (.lst (by rw [hid_out (fun z => n (R'.sub p z))]; exact hp) ((q.mono (hid_sub R'.sub)).mono l.hid))
end
end My

namespace My
open PySem PySem.Spec PyProof.Rows L2
open C8 (Cal pe_c pe_gc InsC call_isC)
theorem okXD {P : Program} {w : World} {K : PySem.W.Frag} {mg : Str → Option Value} {base : Heap} {x qual : Str} {st : Stmt} {f : Addr} {fd : FuncData} {N ps : List Str} {k : Nat} {dvs : List V} {kws : List (Str × V)} {W : WpX} (F : FunD K x qual (defArgs st) (defBody st) (defScope st) dvs kws f fd) (S : FnScope N ps (defScope st)) (hl : ∀ ds C X, W ds C X → ds.length = ps.length)
    (hb : ∀ (cdv : Value) (A : Around) (outer : List Env) (s : Shared) (H : Hp) (E : XK), Room k (A.deeper (envOfC qual (defScope st) s.heap.objs.size f cdv)) →
      ∃ t, PSs (cxOf (L2.CX P w) P w K mg base N qual (defScope st) f cdv A outer s H E) (defBody st) t ∧ ∀ (z : Cz) (ds : List Dat) (C : Dat → Prop) (X : Err → Prop), (∀ O g m σ H' e cls d, X e → Real z O g m σ H' → ErrAt O H' e cls d → E cls d H') → W ds C X →
        XS z t (argsG N.length ds) 0 { nx := fun _ _ => C .non, rt := fun _ d => C d, rn := fun _ es => C (.lst es) }) :
    FnOk P w K mg base (L2.CX P w) (k + 1) f fd ps (spX W) := by
  refine F.ok S (fun vs H Q E h => ?_) (fun cdv A outer s H vs Q E hr h => ?_)
  · obtain ⟨G, ds, C, X, hd, r, hW, _⟩ := h
    rw [r.length]; exact hl ds C X hW
  · obtain ⟨G, ds, C, X, hd, r, hW, hk, hx'⟩ := h
    obtain ⟨t, ht, hx⟩ := hb cdv A outer s H E hr
    refine ⟨t, ht, hx ⟨G, [], H⟩ ds C X (fun O g m σ H' e cls d x R' q => ?_) hW G _ H (real_start rfl hd (by simp) (by simp) r) _ ⟨fun O' g' m' σ' H' c R' l => ?_, fun O' g' m' σ' d v H' c R' q => ?_, fun O' g' m' σ' es p H' c R' n nb f => ?_, fun _ _ _ _ _ c => c.elim, fun _ _ _ _ _ c => c.elim⟩⟩
    · refine hx' e cls d H' x (LeX.le R'.le) ⟨q.1, ?_⟩
      rcases q.2 with q | ⟨a, fvs, e1, n, ha, rf⟩
      · exact .inl q
      · exact .inr ⟨a, fvs, e1, fun z => n (R'.sub a z), ha, rf.mono (hid_sub R'.sub)⟩
    · exact hk _ _ H' c (LeX.le R'.le) .non
    · exact hk d v H' c (LeX.le R'.le) (q.mono (hid_sub R'.sub))
    · obtain ⟨vs, hp, q⟩ := f
      have l := hid1_le H' p
      refine hk _ _ H' c ((LeX.le R'.le).trans l) (.lst (by rw [hid_out (fun z => n (R'.sub p z))]; exact hp) ((q.mono (hid_sub R'.sub)).mono l.hid))
theorem rel2d {vs : List V} {us : List Value} {zs : List V} {ws : List Value} {t : Tok} (h1 : vs.length = 2) (h2 : zs.length = 0) (r1 : Vals vs us) (r2 : Vals zs ws) : Vals (pickV [.p 0, .p 1, .c (.int 1)] vs zs) (us ++ [.int 1 t]) := by
  cases r1 with
  | nil => cases h1
  | cons a r1 => cases r1 with
    | nil => simp at h1
    | cons b r1 => cases r1 with
      | nil => exact .cons a (.cons b (.cons ⟨_, rfl⟩ .nil))
      | cons _ _ => simp at h1
noncomputable def manyH (ns : List Int) : Nat := (waysOf (rowsZ ns)).length
theorem manyH_le (ns : List Int) : manyH ns ≤ 27 := by
  have h := rowsZ_ok ns
  have := (ways_ok (rowsZ ns) [[]] 1 0 (by decide) (fun p hp => by rw [List.mem_singleton.mp hp]; decide) h.2).1
  unfold manyH waysOf
  refine Nat.le_trans this ?_
  rw [Nat.one_mul]
  exact Nat.le_trans (Nat.pow_le_pow_right (by decide) h.1) (by decide)
theorem manyH_R (ns : List Int) : manyR (rrOf (rowsZ ns)) = manyH ns := many_ways _
theorem eqD_ns : ∀ ns ms : List Int, eqD (nsD ns) (nsD ms) = decide (ns = ms)
  | [], [] => by simp [eqD, nsD, toP, toPs, PyData.eqv, PyData.eqvAll]
  | [], _ :: _ => by simp [eqD, nsD, toP, toPs, PyData.eqv, PyData.eqvAll]
  | _ :: _, [] => by simp [eqD, nsD, toP, toPs, PyData.eqv, PyData.eqvAll]
  | n :: ns, m :: ms => by
    have h := eqD_ns ns ms
    simp [eqD, nsD, toP, toPs, PyData.eqv, PyData.eqvAll] at h ⊢
    rw [h]
    by_cases e1 : n = m <;> simp [e1]
theorem plain_ns (ns : List Int) : plains (ns.map Dat.int) = true := by
  induction ns with
  | nil => rfl
  | cons x xs ih => exact ih
theorem dep_ns (ns : List Int) : deps (ns.map Dat.int) = 0 := by
  induction ns with
  | nil => rfl
  | cons x xs ih => show max 0 (deps (xs.map Dat.int)) = 0; rw [ih]; rfl
theorem cmp_ns (ns : List Int) : Cmp (nsD ns) := Cmp.of (plain_ns ns) (by show deps (ns.map Dat.int) + 1 ≤ 60; rw [dep_ns]; decide)
theorem rs_qs (xs : List Rat) : rsD xs = qsD (xs.map nd) := by
  unfold rsD qsD
  rw [List.map_map]; rfl
theorem map_qR (xs : List Rat) : (xs.map nd).map qR = xs := by
  rw [List.map_map]
  conv => rhs; rw [← List.map_id xs]
  exact List.map_congr_left fun x _ => qR_nd x
theorem Sm_neg {x : Rat} (h : Sm x) : Sm (x * (-1)) := by
  have e : x * (-1) = -x := by grind
  rw [e]
  obtain ⟨h1, h2, h3⟩ := h
  refine ⟨?_, ?_, ?_⟩
  · simpa [nd] using h1
  · simpa [nd, Sz] using h2
  · simpa [nd, Sz] using h3
theorem Sms_neg {xs : List Rat} (h : Sms xs) : Sms (vscl xs (-1)) := fun x hx => by
  obtain ⟨y, hy, rfl⟩ := List.mem_map.mp hx
  exact Sm_neg (h y hy)
theorem Sm_int {n : Int} (h : n.natAbs < 2 ^ 4000) : Sm (n : Rat) := ⟨(show 0 < (1 : Int) by decide), h, (show (1 : Int).natAbs < 2 ^ 4000 from Nat.lt_of_lt_of_le (by decide : 1 < 2 ^ 1) (Nat.pow_le_pow_right (by decide) (by decide)))⟩
def W_Hlen (CH : Addr) : WpD := fun ds C => ∃ ns, ds = [houseD CH ns] ∧ C (.int (manyH ns))
def W_Heq (CH : Addr) : WpD := fun ds C => ∃ ns ms, ds = [houseD CH ns, houseD CH ms] ∧ C (.bl (decide (ns = ms)))
def W_steps (CH : Addr) : WpD := fun ds C => ∃ ns, ds = [houseD CH ns] ∧ C (rwsD (rowsZ ns))
def W_made (CH CN : Addr) : WpD := fun ds C => ∃ ns xs, ds = [houseD CH ns, rsD xs] ∧ C (numD CN CH ns xs)
def W_Neq (CH CN : Addr) : WpD := fun ds C => ∃ ns xs, ds = [numD CN CH ns xs, numD CN CH ns xs] ∧ C (.bl true)
def W_shares (CH CN : Addr) : WpN := fun ds C => ∃ ns xs, ds = [numD CN CH ns xs] ∧ C (xs.map frD)
def W_house (CH CN : Addr) : WpD := fun ds C => ∃ ns xs, ds = [numD CN CH ns xs] ∧ C (houseD CH ns)
def TmOk (ns : List Int) (xs ys : List Rat) : Prop := xs.length = manyH ns ∧ ys.length = manyH ns ∧ ∃ d1 N1 d2 N2, VBs d1 N1 xs ∧ VBs d2 N2 ys ∧ 0 < d1 * d2 ∧ 0 < N1 * N2 ∧ d1 * d2 * Qr (rrOf (rowsZ ns)) < 2 ^ 3999 ∧ N1 * N2 * Cr (rrOf (rowsZ ns)) < 2 ^ 3999
/-- the shares' numbers may be none: more than the ways, or a bottom of 0 -/
def W_number (c : Cs) (CH CN : Addr) : WpX := fun ds C X => ∃ (ns : List Int) (qs : List (Int × Int)), ds = [houseD CH ns, qsD qs] ∧ qs.length ≤ 900 ∧ (∀ q ∈ qs, Sz 8000 q.2) ∧ ((manyH ns < qs.length ∨ ∃ q ∈ qs, q.2 = 0) → X ⟨c.NoNumber, []⟩) ∧
  (qs.length ≤ manyH ns → (∀ q ∈ qs, q.2 ≠ 0) → C (numD CN CH ns (qs.map qR ++ vz (manyH ns - qs.length))))
theorem num_arg {c : Cs} {CH CN : Addr} : ∀ ds C X, W_number c CH CN ds C X → ∃ d0 es, ds = [d0, .lst es] := fun ds C X ⟨ns, qs, e, _⟩ => ⟨_, _, e⟩
def W_whole (c : Cs) (CH CN : Addr) : WpX := fun ds C X => ∃ (ns : List Int) (a b : Int), ds = [houseD CH ns, .int a, .int b] ∧ Sz 8000 b ∧ 1 ≤ manyH ns ∧ (b = 0 → X ⟨c.NoNumber, []⟩) ∧ (b ≠ 0 → C (numD CN CH ns (qR (a, b) :: vz (manyH ns - 1))))
/-- the place of a letter's product -/
noncomputable def spotH (ns : List Int) (k : Nat) : Nat := manyR (rrOf ((rowsZ ns).take k))
def unitL (n j : Nat) : List Rat := (List.range n).map fun k => if k = j then 1 else 0
theorem spot_step {rs : List Rw} {k : Nat} {r : Rw} (h : rs[k]? = some r) : manyR (rrOf (rs.take (k + 1))) = r.1.toNat * manyR (rrOf (rs.take k)) := by
  rw [take_more h, rrOf_snoc]; rfl
theorem spot_mono {rs : List Rw} (hd : ∀ r ∈ rs, r.1 = 2 ∨ r.1 = 3) : ∀ (k m : Nat), 0 < manyR (rrOf (rs.take k)) ∧ manyR (rrOf (rs.take k)) ≤ manyR (rrOf (rs.take (k + m)))
  | k, 0 => by
    refine ⟨?_, Nat.le_refl _⟩
    induction k with
    | zero => exact Nat.one_pos
    | succ k ih =>
      by_cases hk : k < rs.length
      · rw [spot_step (List.getElem?_eq_getElem hk)]
        have := hd _ (List.getElem_mem hk)
        exact Nat.mul_pos (by omega) ih
      · rw [List.take_of_length_le (by omega)]
        rw [List.take_of_length_le (by omega)] at ih
        exact ih
  | k, m + 1 => by
    obtain ⟨h1, h2⟩ := spot_mono hd k m
    refine ⟨h1, Nat.le_trans h2 ?_⟩
    by_cases hk : k + m < rs.length
    · rw [← Nat.add_assoc, spot_step (List.getElem?_eq_getElem hk)]
      have := hd _ (List.getElem_mem hk)
      exact Nat.le_mul_of_pos_left _ (by omega)
    · rw [List.take_of_length_le (by omega), List.take_of_length_le (by omega)]
      exact Nat.le_refl _
theorem spot_le {rs : List Rw} (hd : ∀ r ∈ rs, r.1 = 2 ∨ r.1 = 3) (k : Nat) : manyR (rrOf (rs.take k)) ≤ manyR (rrOf rs) := by
  have := (spot_mono hd k rs.length).2
  rwa [List.take_of_length_le (show rs.length ≤ k + rs.length by omega)] at this
theorem spot_lt {rs : List Rw} (hd : ∀ r ∈ rs, r.1 = 2 ∨ r.1 = 3) {k : Nat} (hk : k < rs.length) : manyR (rrOf (rs.take k)) < manyR (rrOf rs) := by
  refine Nat.lt_of_lt_of_le ?_ (spot_le hd (k + 1))
  rw [spot_step (List.getElem?_eq_getElem hk)]
  have h1 := (spot_mono hd k 0).1
  have := hd _ (List.getElem_mem hk)
  have h2 : 2 ≤ (rs[k].1).toNat := by omega
  have h3 := Nat.mul_le_mul_right (manyR (rrOf (rs.take k))) h2
  omega
def W_letter (c : Cs) (CH CN : Addr) : WpX := fun ds C X => ∃ (ns : List Int) (j : Int), ds = [houseD CH ns, .int j] ∧ GoodP ns ∧ (¬(0 ≤ j ∧ j < ((rowsZ ns).length : Int)) → X ⟨c.NoLetter, []⟩) ∧
  ((0 ≤ j ∧ j < ((rowsZ ns).length : Int)) → C (numD CN CH ns (unitL (manyH ns) (spotH ns j.toNat))))
section

variable {c : Cs} {CH CN : Addr} {P : Program} {w : World} {K : PySem.W.Frag} {mg : Str → Option Value} {base : Heap}
abbrev s_House_len : Stmt := inClass (top 45) 1
abbrev N_House_len : List Str := ["self"]
abbrev P_House_len : List Str := ["self"]
theorem sc_House_len : FnScope N_House_len ["self"] (defScope s_House_len) := ⟨rfl, rfl, rfl, by decide +kernel, rfl, by decide +kernel, by decide +kernel⟩

theorem ok_House_len (T : Txt K mg c) (hH : HsOk K CH) {f : Addr} {fd : FuncData} (F : L2.Fun K "__len__" "House.__len__" s_House_len f fd) : FnOk P w K mg base CX0 1 f fd P_House_len (spD (W_Hlen CH)) := by
  refine okD F sc_House_len (fun ds C ⟨_, e, _⟩ => by rw [e]; rfl) fun cdv A outer s H E hr => ⟨_, (pss_one (ps_ret (pe_callB call_len_seq (by rfl) T.z_len (by decide +kernel) (pa_cons (pe_fld (pv 0) rfl) pa_nil)))), fun z ds C ⟨ns, e, q⟩ => ?_⟩
  subst e
  (repeat' (first | refine XS.ret ?_ | refine XE.var rfl ?_ | refine XE.len1 ?_ | refine XE.fld hH.cls hH.ways ?_ | refine go_len1 rfl ?_ | refine go_fld rfl ?_))
  rw [List.length_map]
  exact q
abbrev s_House_eq : Stmt := inClass (top 45) 2
abbrev N_House_eq : List Str := ["self", "other"]
abbrev P_House_eq : List Str := ["self", "other"]
theorem sc_House_eq : FnScope N_House_eq ["self", "other"] (defScope s_House_eq) := ⟨rfl, rfl, rfl, by decide +kernel, rfl, by decide +kernel, by decide +kernel⟩

theorem ok_House_eq (T : Txt K mg c) (hH : HsOk K CH) (iC_House : InsC K CH) (gC_House : mg "House" = some (.ref CH)) {f : Addr} {fd : FuncData} (F : L2.Fun K "__eq__" "House.__eq__" s_House_eq f fd) : FnOk P w K mg base CX0 1 f fd P_House_eq (spD (W_Heq CH)) := by
  refine okD F sc_House_eq (fun ds C ⟨_, _, e, _⟩ => by rw [e]; rfl) fun cdv A outer s H E hr => ⟨_, (pss_one (ps_ret (pe_and (pe_callB (call_isC iC_House) (by rfl) T.z_isinstance (by decide +kernel) (pa_cons (pv 1) (pa_cons (pe_gc (v := .ref CH) rfl ⟨_, gC_House, rfl⟩) pa_nil))) (pe_one (pe_cmpR (op_eqD hr.units) (pe_fld (pv 0) rfl) (pe_fld (pv 1) rfl) (nomark _)))))), fun z ds C ⟨ns, ms, e, q⟩ => ?_⟩
  subst e
  (repeat' (first | refine XS.ret ?_ | refine XE.var rfl ?_ | refine XE.op dr_eqD ?_ | refine XE.andV ?_ | refine XE.isC ?_ | refine XE.fld hH.cls hH.poly ?_ | refine go_fld rfl ?_ | refine go_isC ?_ | refine go_bl ?_))
  refine go_eqD (cmp_ns _) (cmp_ns _) ?_
  rw [eqD_ns]
  exact q
abbrev s_House_steps : Stmt := inClass (top 45) 4
abbrev N_House_steps : List Str := ["self", "degree", "power"]
abbrev P_House_steps : List Str := ["self"]
theorem sc_House_steps : FnScope N_House_steps ["self"] (defScope s_House_steps) := ⟨rfl, rfl, rfl, by decide +kernel, rfl, by decide +kernel, by decide +kernel⟩

theorem ok_House_steps (T : Txt K mg c) (hH : HsOk K CH) {f : Addr} {fd : FuncData} (F : L2.Fun K "steps" "House.steps" s_House_steps f fd) : FnOk P w K mg base CX0 1 f fd P_House_steps (spD (W_steps CH)) := by
  refine okD F sc_House_steps (fun ds C ⟨_, e, _⟩ => by rw [e]; rfl) fun cdv A outer s H E hr => ⟨_, (pss_one (ps_ret (pe_lc (own := [("degree", 1), ("power", 2)]) (g := gTup K 2 (gCons (gName 1) (gCons (gName 2) gNil))) (by rfl) sc_House_steps.nd (pi_list (pe_fld (pv 0) rfl)) (blkOk_by (own := [("degree", 1), ("power", 2)]) (N := N_House_steps) (sc := defScope s_House_steps) (by decide +kernel)) (fun _ _ _ _ _ => (pg_tup rfl (pgs_cons (pg_name (i := 1) sc_House_steps.nd rfl (by first | exact Or.inl rfl | exact Or.inr rfl)) (pgs_cons (pg_name (i := 2) sc_House_steps.nd rfl (by first | exact Or.inl rfl | exact Or.inr rfl)) pgs_nil)))) (fun _ _ _ _ _ => pts_nil) (fun _ _ _ _ _ => (pe_tup (pa_cons (pv 1) (pa_cons (pe_callTy (show CallR _ (.type "list") (rListOf K) from call_list_of) (by rfl) T.z_list (by decide +kernel) (pa_cons (pv 2) pa_nil)) pa_nil))))))), fun z ds C ⟨ns, e, q⟩ => ?_⟩
  subst e
  refine XS.ret (XE.ofN (XN.to (XI.list ?_)))
  (repeat' (first | refine XE.var rfl ?_ | refine XE.fld hH.cls hH.rows ?_ | refine go_fld rfl ?_ | refine go_lst ?_))
  refine ⟨_, rfl, by rw [List.length_map]; exact Nat.le_trans (rowsZ_ok ns).1 (by decide), fun i d o hi ho => ?_, q⟩
  rw [hi] at ho
  cases ho
  obtain ⟨r, hr, rfl⟩ := map_get hi
  (repeat' (first | refine XE.var rfl ?_ | refine XE.tup ?_ | refine XE.ofN (XN.cb dn_listOf ?_) | refine XA.nil ?_ | refine XA.cons ?_ | refine XGs.cons ?_ | refine XGs.nil ?_ | refine XG.name rfl ?_ | refine XG.tupG rfl ?_))
  refine ⟨_, _, rfl, rfl, ?_⟩
  (repeat' (first | refine XA.nil ?_ | refine go_len rfl ?_))
  exact ⟨rfl, rfl⟩
abbrev s_made : Stmt := top 47
abbrev N_made : List Str := ["home", "parts"]
abbrev P_made : List Str := ["home", "parts"]
theorem sc_made : FnScope N_made ["home", "parts"] (defScope s_made) := ⟨rfl, rfl, rfl, by decide +kernel, rfl, by decide +kernel, by decide +kernel⟩

theorem ok_made (T : Txt K mg c) {f : Addr} {fd : FuncData} (F : L2.Fun K "made" "made" s_made f fd) (m_Number : C8.Mak P w K mg base 1 "Number" CN (spI (W_Number_init CH) CN) []) : FnOk P w K mg base CX0 3 f fd P_made (spD (W_made CH CN)) := by
  refine okD F sc_made (fun ds C ⟨_, _, e, _⟩ => by rw [e]; rfl) fun cdv A outer s H E hr => ⟨_, (pss_one (ps_ret (C8.pe_mk m_Number hr (by decide) rfl (pa_cons (pv 0) (pa_cons (pv 1) pa_nil))))), fun z ds C ⟨ns, xs, e, q⟩ => ?_⟩
  subst e
  (repeat' (first | refine XS.ret ?_ | refine XE.var rfl ?_ | refine XE.make ?_ | refine XA.nil ?_ | refine XA.cons ?_))
  exact ⟨ns, xs, rfl, q⟩
abbrev s_House_number : Stmt := inClass (top 45) 6
abbrev N_House_number : List Str := ["self", "shares", "parts", "share"]
abbrev P_House_number : List Str := ["self", "shares"]
theorem sc_House_number : FnScope N_House_number ["self", "shares"] (defScope s_House_number) := ⟨rfl, rfl, rfl, by decide +kernel, rfl, by decide +kernel, by decide +kernel⟩

theorem ok_House_number (T : Txt K mg c) (hH : HsOk K CH) {f : Addr} {fd : FuncData} (F : L2.Fun K "number" "House.number" s_House_number f fd) (h_must_fraction : CalX P w K mg base 3 "must_fraction" (spX (W_must_fraction c))) (h_nought : Cal P w K mg base 1 "nought" (spN W_noughtN) []) (h_made : Cal P w K mg base 3 "made" (spD (W_made CH CN)) []) (n_House_len : SpM P w K mg base 1 CH "__len__" (spD (W_Hlen CH))) :
    FnOk P w K mg base (L2.CX P w) 4 f fd P_House_number (spL (W_number c CH CN)) := by
  refine okL F sc_House_number rfl fun cdv A outer s H E hr => ⟨_, (pss_cons (ps_if (pt_cmpR op_gt (pe_callB call_len_seq (by rfl) T.z_len (by decide +kernel) (pa_cons (pv 1) pa_nil)) (pe_callB (call_lenS n_House_len hr (by decide)) (by rfl) T.z_len (by decide +kernel) (pa_cons (pv 0) pa_nil)) (nomark _)) (pss_one (ps_raise rfl (takes_of rfl rfl rfl rfl) (pmk_own PySem.F.excBase_ValueError T.x_NoNumber T.g_NoNumber T.k_NoNumber (raises_own T.b_NoNumber T.t_NoNumber) rfl))) pss_nil)
      (pss_cons (ps_setLcX (i := 2) (own := [("share", 3)]) (g := gName 3) (takes_of rfl rfl rfl rfl) rfl rfl (by rfl) sc_House_number.nd rfl rfl (sw_true rfl rfl rfl (by decide +kernel)) (pi_list (pv 1)) (blkOk_by (own := [("share", 3)]) (N := N_House_number) (sc := defScope s_House_number) (by decide +kernel)) (fun _ _ _ _ _ => (pg_name (i := 3) sc_House_number.nd rfl (by first | exact Or.inl rfl | exact Or.inr rfl))) (fun _ _ _ _ _ => pts_nil) (fun _ _ _ _ _ hp => (pe_cS h_must_fraction hr (by decide) rfl (fun σ => hp σ) (pa_cons (pv 3) pa_nil))))
      (pss_one (ps_ret (pe_c h_made hr (by decide) rfl (pa_cons (pv 0) (pa_cons (pe_op op_cat (pv 2) (pe_c h_nought hr (by decide) rfl (pa_cons (pe_op op_sub (pe_callB (call_lenS n_House_len hr (by decide)) (by rfl) T.z_len (by decide +kernel) (pa_cons (pv 0) pa_nil)) (pe_callB call_len_seq (by rfl) T.z_len (by decide +kernel) (pa_cons (pv 2) pa_nil))) pa_nil))) pa_nil))))))), fun z d0 es p ws C X aL hX ⟨ns, qs, e, l1, sz, x1, q⟩ => ?_⟩
  cases e
  have ml := manyH_le ns
  show XS z _ [.dt (houseD CH ns), .raw (.ref p), .un, .un] 0 _
  (repeat' (first | refine XS.seq ?_ | refine XS.ite ?_ | refine XE.op dr_I0 ?_ | refine XT.test ?_))
  refine XE.lenR (i := 1) rfl aL ?_
  (repeat' (first | refine XE.var rfl ?_ | refine XE.cb db_lenO ?_ | refine XA.nil ?_ | refine XA.cons ?_))
  refine ⟨_, _, rfl, rfl, ns, rfl, _, rfl, by omega, by omega, ?_⟩
  (repeat' (first | refine go_I0 ?_ | refine go_bl ?_))
  refine ite2 (fun hc => ?_) (fun hc => ?_)
  · have hl := of_decide_eq_true hc
    rw [List.length_map] at hl
    exact XS.rai fun O σ H R => hX O _ _ σ H _ _ _ (x1 (.inl (by omega))) R ⟨rfl, .inl ⟨rfl, rfl⟩⟩
  · have hl : qs.length ≤ manyH ns := by
      have := hc
      simp at this
      omega
    refine XS.next ?_
    refine XS.seq (XS.set (XE.ofN (XN.toX (XIc.rawL (i := 1) rfl aL ?_))))
    refine ⟨qs.map fun q => frD (qR q), fun i => ∀ q, qs[i]? = some q → q.2 ≠ 0, by rw [List.length_map, List.length_map], by rw [List.length_map]; omega, fun i d o hi ho => ?_, fun hP => ?_⟩
    · obtain ⟨q', hq, rfl⟩ := map_get hi
      have hm := List.mem_of_getElem? hq
      have eo : o = frD (qR q') := by
        rw [List.getElem?_map, hq] at ho
        exact (Option.some.inj ho).symm
      subst eo
      refine XG.name rfl ?_
      refine XE.callX (X := fun _ e => X e) (fun O σ m' H' e cls d x R q => hX O _ m' σ H' e cls d x R q) ?_
      (repeat' (first | refine XE.var rfl ?_ | refine XA.nil ?_ | refine XA.cons ?_))
      refine ⟨q', rfl, sz q' hm, fun nz => ⟨rfl, rfl, fun q hq' => ?_⟩, fun z0 => x1 (.inr ⟨q', hm, z0⟩)⟩
      rw [hq] at hq'
      cases hq'
      exact nz
    · have hz : ∀ q ∈ qs, q.2 ≠ 0 := fun q hm => by
        obtain ⟨i, hi, e⟩ := List.mem_iff_getElem.mp hm
        exact hP i (by rw [List.length_map]; exact hi) q (by rw [List.getElem?_eq_getElem hi, e])
      have em : (qs.map fun q => frD (qR q)).length = qs.length := List.length_map _
      (repeat' (first | refine XS.ret ?_ | refine XE.var rfl ?_ | refine XE.ofN (XN.op dn_cat ?_) | refine XE.call ?_ | refine XA.cons ?_))
      refine XE.ofN (XN.call ?_)
      (repeat' (first | refine XE.var rfl ?_ | refine XE.op dr_I0 ?_ | refine XE.cb db_lenO ?_ | refine XA.nil ?_ | refine XA.cons ?_))
      refine ⟨_, _, rfl, rfl, ns, rfl, _, rfl, by omega, by omega, ?_⟩
      (repeat' (first | refine XE.var rfl ?_ | refine XE.len1 ?_ | refine XA.nil ?_ | refine go_len1 rfl ?_ | refine go_I0 ?_))
      refine ⟨manyH ns - qs.length, ?_, by omega, ?_⟩
      · rw [em]
        show [Dat.int ((manyH ns : Int) - (qs.length : Int))] = _
        congr 2
        omega
      (repeat' (first | refine XA.nil ?_ | refine go_cat ?_ ?_))
      · rw [em, List.length_map, vz_len]; omega
      refine ⟨ns, qs.map qR ++ vz (manyH ns - qs.length), ?_, q hl hz⟩
      unfold rsD
      rw [List.map_append, List.map_map]; rfl
abbrev s_House_whole : Stmt := inClass (top 45) 7
abbrev N_House_whole : List Str := ["self", "top", "bottom"]
abbrev P_House_whole : List Str := ["self", "top", "bottom"]
theorem sc_House_whole : FnScope N_House_whole ["self", "top", "bottom"] (defScope s_House_whole) := ⟨rfl, rfl, rfl, by decide +kernel, rfl, by decide +kernel, by decide +kernel⟩

theorem ok_House_whole (T : Txt K mg c) {dvs : List V} {kws : List (Str × V)} {f : Addr} {fd : FuncData} (F : FunD K "whole" "House.whole" (defArgs s_House_whole) (defBody s_House_whole) (defScope s_House_whole) dvs kws f fd) (m_House_number_2 : KMet (L2.CX P w) P w K mg base 4 CH "number" (spL (W_number c CH CN)) 2 [] [.p 0, .p 1]) : FnOk P w K mg base (L2.CX P w) 5 f fd P_House_whole (spX (W_whole c CH CN)) := by
  refine okXD F sc_House_whole (fun ds C X ⟨_, _, _, e, _⟩ => by rw [e]; rfl) fun cdv A outer s H E hr => ⟨_, (pss_one (ps_ret (pe_km (pv 0) m_House_number_2 hr (by decide) (fun σ => passAt (takes_of rfl rfl rfl rfl) σ) (pa_cons (pe_lst (pa_cons (pe_tup (pa_cons (pv 1) (pa_cons (pv 2) pa_nil))) pa_nil)) pa_nil) pk_nil))), fun z ds C X hX ⟨ns, a, b, e, sz, m1, x0, q⟩ => ?_⟩
  subst e
  refine XS.ret (XE.kmLd num_arg rfl (X := fun _ e => X e) (fun O σ m' H' e cls d x R q => hX O _ m' σ H' e cls d x R q) ?_)
  (repeat' (first | refine XE.var rfl ?_ | refine XE.tup ?_ | refine XE.ofN (XN.lst ?_) | refine XA.nil ?_ | refine XA.cons ?_ | refine go_ins rfl rfl ?_ | refine go_kc rfl rfl ?_ | refine go_len rfl ?_))
  refine ⟨ns, [(a, b)], rfl, (show 1 ≤ 900 by decide), fun y hy => by rw [List.mem_singleton.mp hy]; exact sz, fun h => ?_, fun _ hz => q (hz (a, b) (List.mem_singleton.mpr rfl))⟩
  rcases h with h | ⟨y, hy, h⟩
  · exact absurd h (by show ¬ manyH ns < 1; omega)
  · rw [List.mem_singleton.mp hy] at h
    exact x0 h
abbrev s_House_letter : Stmt := inClass (top 45) 8
abbrev N_House_letter : List Str := ["self", "place", "parts", "at", "degree", "power"]
abbrev P_House_letter : List Str := ["self", "place"]
theorem sc_House_letter : FnScope N_House_letter ["self", "place"] (defScope s_House_letter) := ⟨rfl, rfl, rfl, by decide +kernel, rfl, by decide +kernel, by decide +kernel⟩

theorem ok_House_letter (T : Txt K mg c) (hH : HsOk K CH) {f : Addr} {fd : FuncData} (F : L2.Fun K "letter" "House.letter" s_House_letter f fd) (h_nought : Cal P w K mg base 1 "nought" (spN W_noughtN) []) (h_made : Cal P w K mg base 3 "made" (spD (W_made CH CN)) []) (n_House_len : SpM P w K mg base 1 CH "__len__" (spD (W_Hlen CH))) :
    FnOk P w K mg base (L2.CX P w) 4 f fd P_House_letter (spX (W_letter c CH CN)) := by
  refine okX F sc_House_letter (fun ds C X ⟨_, _, e, _⟩ => by rw [e]; rfl) fun cdv A outer s H E hr => ⟨_, (pss_cons (ps_if (pt_not (pt_chain op_le op_lt pe_int (pv 1) (pe_callB call_len_seq (by rfl) T.z_len (by decide +kernel) (pa_cons (pe_fld (pv 0) rfl) pa_nil)))) (pss_one (ps_raise rfl (takes_of rfl rfl rfl rfl) (pmk_own PySem.F.excBase_ValueError T.x_NoLetter T.g_NoLetter T.k_NoLetter (raises_own T.b_NoLetter T.t_NoLetter) rfl))) pss_nil)
      (pss_cons (ps_set (i := 2) sc_House_letter.nd rfl (by first | exact Or.inl rfl | exact Or.inr rfl) (pe_c h_nought hr (by decide) rfl (pa_cons (pe_callB (call_lenS n_House_len hr (by decide)) (by rfl) T.z_len (by decide +kernel) (pa_cons (pv 0) pa_nil)) pa_nil)))
      (pss_cons (ps_set (i := 3) sc_House_letter.nd rfl (by first | exact Or.inl rfl | exact Or.inr rfl) pe_int)
      (pss_cons (ps_for (passes_of rfl) rfl (pi_list (pe_slice sl_list (pe_fld (pv 0) rfl) po_none (po_some (pv 1)))) (pg_tup rfl (pgs_cons (pg_name (i := 4) sc_House_letter.nd rfl (by first | exact Or.inl rfl | exact Or.inr rfl)) (pgs_cons (pg_name (i := 5) sc_House_letter.nd rfl (by first | exact Or.inl rfl | exact Or.inr rfl)) pgs_nil))) (pss_one (ps_aug (i := 3) sc_House_letter.nd rfl (by first | exact Or.inl rfl | exact Or.inr rfl) (pv 4) ip_mul)))
      (pss_cons (ps_asg (pe_tup (pa_cons pe_int (pa_cons pe_int pa_nil))) (pg_sub (pv 2) (pv 3) set_list))
      (pss_one (ps_ret (pe_c h_made hr (by decide) rfl (pa_cons (pv 0) (pa_cons (pv 2) pa_nil)))))))))), fun z ds C X hX ⟨ns, j, e, G, x1, q⟩ => ?_⟩
  subst e
  have ml := manyH_le ns
  have hs := rowsZ_hs G
  (repeat' (first | refine XS.seq ?_ | refine XS.ite ?_ | refine XT.test ?_ | refine XT.not ?_))
  refine XE.chain dr_I0 dr_I0 ?_
  (repeat' (first | refine XE.var rfl ?_ | refine XE.int ?_ | refine go_I0 ?_ | refine go_bl ?_))
  have raise : ¬(0 ≤ j ∧ j < ((rowsZ ns).length : Int)) → ∀ {g : List Sl} {m : Nat} {D : DE}, XS z (fun x σ H => (fun cls d H' => E cls d H') (Value.ref c.NoLetter) none H) g m D := fun h => XS.rai fun O σ H R => hX O _ _ σ H _ _ _ (x1 h) R ⟨rfl, .inl ⟨rfl, rfl⟩⟩
  refine ite2 (fun h0 => ?_) (fun h0 => ?_)
  · have h0 := of_decide_eq_true h0
    (repeat' (first | refine XE.var rfl ?_ | refine XE.len1 ?_ | refine XE.fld hH.cls hH.rows ?_ | refine go_len1 rfl ?_ | refine go_fld rfl ?_ | refine go_I0 ?_ | refine go_bl ?_))
    refine ite2 (fun h1 => ?_) (fun h1 => ?_)
    · exact raise fun h => by
        rw [List.length_map] at h1
        simp at h1
        omega
    · have h1 : j < ((rowsZ ns).length : Int) := by
        rw [List.length_map] at h1
        simpa using h1
      obtain ⟨k, rfl⟩ := Int.eq_ofNat_of_zero_le h0
      have hk : k < (rowsZ ns).length := by omega
      refine XS.next ?_
      refine XS.seq (XS.setO (i := 2) (XN.call ?_))
      (repeat' (first | refine XE.var rfl ?_ | refine XE.cb db_lenO ?_ | refine XA.nil ?_ | refine XA.cons ?_))
      refine ⟨_, _, rfl, rfl, ns, rfl, _, rfl, by omega, by omega, ?_⟩
      (repeat' (first | refine XA.nil ?_))
      refine ⟨manyH ns, rfl, by omega, ?_⟩
      (repeat' (first | refine XS.seq ?_ | refine XS.set ?_ | refine XE.int ?_))
      refine XS.for (XI.list ?_)
      (repeat' (first | refine XE.var rfl ?_ | refine XE.ofN (XN.sl ?_) | refine XE.fld hH.cls hH.rows ?_ | refine XO.no ?_ | refine XO.yes ?_ | refine go_fld rfl ?_ | refine go_int ?_ | refine go_lst ?_))
      have ec : cutD ((rowsZ ns).map rwD) none (some (k : Int)) = ((rowsZ ns).take k).map rwD := by
        unfold cutD
        rw [HT.sIx_none, HT.sIx_nat, List.length_map, Nat.min_eq_left (by omega), List.drop_zero, Nat.sub_zero, List.map_take]
      rw [ec]
      have el : (((rowsZ ns).take k).map rwD).length = k := by rw [List.length_map, List.length_take]; omega
      refine ⟨fun i g m => (∃ s4 s5, g = [.dt (houseD CH ns), .dt (.int (k : Int)), .ow ((vz (manyH ns)).map frD), .dt (.int ((manyR (rrOf ((rowsZ ns).take i)) : Nat) : Int)), s4, s5]) ∧ m = 0, ⟨⟨_, _, rfl⟩, rfl⟩, fun i d g2 m2 hi ⟨⟨s4, s5, e1⟩, e2⟩ => ?_, fun g2 m2 ⟨⟨s4, s5, e1⟩, e2⟩ => ?_⟩
      · subst e1 e2
        obtain ⟨r, hr, rfl⟩ := map_get hi
        have il : i < k := by rw [← el]; exact (List.getElem?_eq_some_iff.mp hi).1
        have hr2 : (rowsZ ns)[i]? = some r := by rw [List.getElem?_take_of_lt il] at hr; exact hr
        have hdr := hs.d r (List.mem_of_getElem? hr2)
        have hm := spot_le hs.d i
        have hmm := manyH_R ns
        have hau : ([Sl.dt (houseD CH ns), Sl.dt (Dat.int (k : Int)), Sl.ow ((vz (manyH ns)).map frD), Sl.dt (Dat.int ((manyR (rrOf ((rowsZ ns).take i)) : Nat) : Int)), Sl.dt (Dat.int r.1), Sl.dt (qsD r.2)] : List Sl)[3]? = some (Sl.dt (Dat.int ((manyR (rrOf ((rowsZ ns).take i)) : Nat) : Int))) := rfl
        (repeat' (first | refine XGs.cons ?_ | refine XGs.nil ?_ | refine XG.name rfl ?_ | refine XG.tupG rfl ?_))
        refine XS.augR (f := fun i j => V.int (i * j)) hau ?_ (fun _ _ => rfl)
        (repeat' (first | refine XE.var rfl ?_ | refine go_int ?_))
        refine ⟨.inr (by rcases hdr with h | h <;> rw [h] <;> decide), ⟨.dt (.int r.1), .dt (qsD r.2), ?_⟩, rfl⟩
        have e3 : ((manyR (rrOf ((rowsZ ns).take (i + 1))) : Nat) : Int) = ((manyR (rrOf ((rowsZ ns).take i)) : Nat) : Int) * r.1 := by
          rw [spot_step hr2, Int.natCast_mul, Int.toNat_of_nonneg (by omega), Int.mul_comm]
        rw [e3]
        rfl
      · subst e1 e2
        rw [el]
        have hm := spot_lt hs.d hk
        have hmm := manyH_R ns
        (repeat' (first | refine XS.seq ?_ | refine XS.setI (i := 2) rfl ?_ | refine XE.var rfl ?_ | refine XE.int ?_ | refine XE.tup ?_ | refine XA.nil ?_ | refine XA.cons ?_ | refine go_len rfl ?_))
        have ex : ixN ((vz (manyH ns)).map frD).length ((manyR (rrOf ((rowsZ ns).take k)) : Nat) : Int) = some (spotH ns k) := by
          unfold ixN
          rw [List.length_map, vz_len, if_pos (by omega), if_pos (by omega)]
          congr 1
        refine go_put ex ?_
        refine XS.frz (i := 2) rfl ?_
        (repeat' (first | refine XS.ret ?_ | refine XE.var rfl ?_ | refine XE.call ?_ | refine XA.nil ?_ | refine XA.cons ?_))
        refine ⟨ns, unitL (manyH ns) (spotH ns k), ?_, q ⟨h0, h1⟩⟩
        have eu : ((vz (manyH ns)).map frD).set (spotH ns k) (.tup [.int 1, .int 1]) = (unitL (manyH ns) (spotH ns k)).map frD := by
          refine List.ext_getElem? fun n => ?_
          unfold unitL
          rw [List.map_map, List.getElem?_map]
          by_cases en : spotH ns k = n
          · subst en
            have lt : spotH ns k < manyH ns := by rw [← hmm]; exact hm
            rw [List.getElem?_set_self (by rw [List.length_map, vz_len]; exact lt), List.getElem?_range lt]
            show _ = some (frD (if spotH ns k = spotH ns k then 1 else 0))
            rw [if_pos rfl]; rfl
          · rw [List.getElem?_set_ne en, List.getElem?_map]
            unfold vz
            rw [List.getElem?_replicate]
            by_cases lt : n < manyH ns
            · rw [List.getElem?_range lt, if_pos lt]
              show _ = some (frD (if n = spotH ns k then 1 else 0))
              rw [if_neg (Ne.symm en)]; rfl
            · rw [if_neg lt, List.getElem?_eq_none (by rw [List.length_range]; omega)]; rfl
        rw [eu]; rfl
  · have h0 : ¬ 0 ≤ j := fun h => h0 (decide_eq_true h)
    (repeat' (first | refine go_bl ?_))
    exact raise fun h => h0 h.1
abbrev s_Number_eq : Stmt := inClass (top 46) 2
abbrev N_Number_eq : List Str := ["self", "other"]
abbrev P_Number_eq : List Str := ["self", "other"]
theorem sc_Number_eq : FnScope N_Number_eq ["self", "other"] (defScope s_Number_eq) := ⟨rfl, rfl, rfl, by decide +kernel, rfl, by decide +kernel, by decide +kernel⟩

theorem ok_Number_eq (T : Txt K mg c) (hN : NmOk K CN) (iC_Number : InsC K CN) (gC_Number : mg "Number" = some (.ref CN)) {f : Addr} {fd : FuncData} (F : L2.Fun K "__eq__" "Number.__eq__" s_Number_eq f fd) (e_House : SpE P w K mg base 1 CH (spD (W_Heq CH))) : FnOk P w K mg base CX0 2 f fd P_Number_eq (spD (W_Neq CH CN)) := by
  refine okD F sc_Number_eq (fun ds C ⟨_, _, e, _⟩ => by rw [e]; rfl) fun cdv A outer s H E hr => ⟨_, (pss_one (ps_ret (pe_and (pe_callB (call_isC iC_Number) (by rfl) T.z_isinstance (by decide +kernel) (pa_cons (pv 1) (pa_cons (pe_gc (v := .ref CN) rfl ⟨_, gC_Number, rfl⟩) pa_nil))) (pe_and (pe_cmpR (op_eqS e_House hr (by decide)) (pe_fld (pv 0) rfl) (pe_fld (pv 1) rfl) (nomark _)) (pe_one (pe_cmpR (op_eqD hr.units) (pe_fld (pv 0) rfl) (pe_fld (pv 1) rfl) (nomark _))))))), fun z ds C ⟨ns, xs, e, q⟩ => ?_⟩
  subst e
  (repeat' (first | refine XS.ret ?_ | refine XE.var rfl ?_ | refine XE.op dr_eqO ?_ | refine XE.andV ?_ | refine XE.isC ?_ | refine XE.fld hN.cls hN.home ?_ | refine go_fld rfl ?_ | refine go_isC ?_ | refine go_bl ?_))
  refine ⟨_, _, rfl, rfl, ns, ns, rfl, _, rfl, ?_⟩
  (repeat' (first | refine go_bl ?_))
  rw [decide_eq_true (show ns = ns from rfl)]
  refine iteT ?_
  (repeat' (first | refine XE.var rfl ?_ | refine XE.op dr_eqD ?_ | refine XE.fld hN.cls hN.parts ?_ | refine go_fld rfl ?_))
  refine go_eqD (cmp_rs _) (cmp_rs _) ?_
  rw [eqD_refl (cmp_rs _)]
  exact q
abbrev s_Number_shares : Stmt := inClass (top 46) 4
abbrev N_Number_shares : List Str := ["self"]
abbrev P_Number_shares : List Str := ["self"]
theorem sc_Number_shares : FnScope N_Number_shares ["self"] (defScope s_Number_shares) := ⟨rfl, rfl, rfl, by decide +kernel, rfl, by decide +kernel, by decide +kernel⟩

theorem ok_Number_shares (T : Txt K mg c) (hN : NmOk K CN) {f : Addr} {fd : FuncData} (F : L2.Fun K "shares" "Number.shares" s_Number_shares f fd) : FnOk P w K mg base CX0 1 f fd P_Number_shares (spN (W_shares CH CN)) := by
  refine okN F sc_Number_shares (fun ds C ⟨_, _, e, _⟩ => by rw [e]; rfl) fun cdv A outer s H E hr => ⟨_, (pss_one (ps_ret (pe_callTy call_list_of (by rfl) T.z_list (by decide +kernel) (pa_cons (pe_fld (pv 0) rfl) pa_nil)))), fun z ds C ⟨ns, xs, e, q⟩ => ?_⟩
  subst e
  refine XS.retF (XN.cb dn_listOf ?_)
  (repeat' (first | refine XE.var rfl ?_ | refine XE.fld hN.cls hN.parts ?_ | refine XA.nil ?_ | refine XA.cons ?_ | refine go_fld rfl ?_))
  refine ⟨_, _, rfl, rfl, ?_⟩
  exact q
abbrev s_Number_house : Stmt := inClass (top 46) 5
abbrev N_Number_house : List Str := ["self"]
abbrev P_Number_house : List Str := ["self"]
theorem sc_Number_house : FnScope N_Number_house ["self"] (defScope s_Number_house) := ⟨rfl, rfl, rfl, by decide +kernel, rfl, by decide +kernel, by decide +kernel⟩

theorem ok_Number_house (T : Txt K mg c) (hN : NmOk K CN) {f : Addr} {fd : FuncData} (F : L2.Fun K "house" "Number.house" s_Number_house f fd) : FnOk P w K mg base CX0 1 f fd P_Number_house (spD (W_house CH CN)) := by
  refine okD F sc_Number_house (fun ds C ⟨_, _, e, _⟩ => by rw [e]; rfl) fun cdv A outer s H E hr => ⟨_, (pss_one (ps_ret (pe_fld (pv 0) rfl))), fun z ds C ⟨ns, xs, e, q⟩ => ?_⟩
  subst e
  (repeat' (first | refine XS.ret ?_ | refine XE.var rfl ?_ | refine XE.fld hN.cls hN.home ?_ | refine go_fld rfl ?_))
  exact q
end
end My

namespace My
open PySem PySem.Spec PyProof.Rows L2
open C8 (Cal pe_c pe_gc)
section
variable {c : Cs} {P : Program} {w : World} {K : PySem.W.Frag} {mg : Str → Option Value} {base : Heap}

abbrev s_Lalike_roots : Stmt := top 79
abbrev N_Lalike_roots : List Str := ["_law_poly_here", "_law_told", "_law_c", "_law_b", "_law_a"]
abbrev P_Lalike_roots : List Str := ["_law_poly_here"]
theorem sc_Lalike_roots : FnScope N_Lalike_roots ["_law_poly_here"] (defScope s_Lalike_roots) := ⟨rfl, rfl, rfl, by decide +kernel, rfl, by decide +kernel, by decide +kernel⟩

def sp_Lalike_roots : Sp := fun vs H Q _ => ∃ (a : Addr) (ns : List Int), vs = [.ref a] ∧ H a = some (.lst (ns.map V.int)) ∧ 2 ≤ ns.length ∧ ns.length ≤ 5 ∧ (∀ x ∈ ns, Bd 100 x) ∧ ∀ H', Same H H' → Q (.bl (decide (toldOf ns = 0))) H'
theorem dec_int {x y : Int} {p : Prop} [Decidable p] (h : x = y ↔ p) : decide (V.int x = V.int y) = decide p := by
  apply decide_eq_decide.mpr
  constructor
  · intro e
    injection e with e
    exact h.mp e
  · intro e
    rw [h.mpr e]
theorem ok_Lalike_roots (T : Txt K mg c) {f : Addr} {fd : FuncData} (F : L2.Fun K "_law_alike_roots" "_law_alike_roots" s_Lalike_roots f fd) : FnOk P w K mg base CX0 1 f fd P_Lalike_roots sp_Lalike_roots := by
  refine F.ok sc_Lalike_roots (fun vs H Q E h => ?_) (fun cdv A outer s H vs Q E hr h => ?_)
  · obtain ⟨a, ns, rfl, _⟩ := h
    rfl
  · obtain ⟨p, ns, rfl, hL, l2, l5, sm, k⟩ := h
    have hS : SqL K H p (ns.map V.int) := SqL.of hL
    refine ⟨_, (pss_cons (ps_if (pt_cmpR op_eq (pe_callB call_len_seq (by rfl) T.z_len (by decide +kernel) (pa_cons (pv 0) pa_nil)) pe_int (nomark _)) (pss_one (ps_ret (pe_cmpR op_eq (pe_op op_mulW (pe_ix ix_list (pv 0) pe_int (fun _ _ => rfl)) (pe_ix ix_list (pv 0) pe_int (fun _ _ => rfl))) (pe_op op_mulW pe_int (pe_ix ix_list (pv 0) pe_int (fun _ _ => rfl))) (nomark _)))) pss_nil)
      (pss_cons (ps_asg (pe_slice sl_list (pe_op op_cat (pv 0) (pe_lst (pa_cons pe_int pa_nil))) po_none (po_some pe_int)) (pg_unl rfl (pgs_cons (pg_name (i := 2) sc_Lalike_roots.nd rfl (by first | exact Or.inl rfl | exact Or.inr rfl)) (pgs_cons (pg_name (i := 3) sc_Lalike_roots.nd rfl (by first | exact Or.inl rfl | exact Or.inr rfl)) (pgs_cons (pg_name (i := 4) sc_Lalike_roots.nd rfl (by first | exact Or.inl rfl | exact Or.inr rfl)) pgs_nil)))))
      (pss_cons (ps_if (pt_cmpR op_eq (pe_callB call_len_seq (by rfl) T.z_len (by decide +kernel) (pa_cons (pv 0) pa_nil)) pe_int (nomark _)) (pss_one (ps_ret (pe_or (pe_cmpR op_eq (pv 2) pe_int (nomark _)) (pe_one (pe_cmpR op_eq (pe_op op_mulW (pv 4) (pv 4)) (pe_op op_mulW pe_int (pv 2)) (nomark _)))))) pss_nil)
      (pss_cons (ps_set (i := 1) sc_Lalike_roots.nd rfl (by first | exact Or.inl rfl | exact Or.inr rfl) (pe_op op_sub (pe_op op_mulW (pe_op op_mulW (pe_op op_mulW pe_int (pv 4)) (pv 3)) (pv 2)) (pe_op op_mulW (pe_op op_mulW (pe_op op_mulW (pe_op op_mulW pe_int (pv 4)) (pv 4)) (pv 4)) (pv 2))))
      (pss_cons (ps_set (i := 1) sc_Lalike_roots.nd rfl (by first | exact Or.inl rfl | exact Or.inr rfl) (pe_op op_sub (pe_op op_add (pv 1) (pe_op op_mulW (pe_op op_mulW (pe_op op_mulW (pv 4) (pv 4)) (pv 3)) (pv 3))) (pe_op op_mulW (pe_op op_mulW (pe_op op_mulW pe_int (pv 3)) (pv 3)) (pv 3))))
      (pss_one (ps_ret (pe_and (pe_cmpR op_eq (pe_callB call_len_seq (by rfl) T.z_len (by decide +kernel) (pa_cons (pv 0) pa_nil)) pe_int (nomark _)) (pe_one (pe_cmpR op_eq (pv 1) (pe_op op_mulW (pe_op op_mulW pe_int (pv 2)) (pv 2)) (nomark _))))))))))), ?_⟩
    refine ⟨_, rfl, p, _, rfl, .inl hS, rfl, _, rfl, ?_⟩
    have b4 : Bd 4 4 := bd_lit
    rcases ns with _ | ⟨c, _ | ⟨b, _ | ⟨a, _ | ⟨d, _ | ⟨e, _ | ⟨g, r⟩⟩⟩⟩⟩⟩
    · simp at l2
    · simp at l2
    · -- two numbers
      have bc : Bd 100 c := sm _ (by simp)
      have bb : Bd 100 b := sm _ (by simp)
      refine ite2 (fun hc => absurd hc (by simp)) (fun hc => ?_)
      refine ⟨_, rfl, (by show 1 ≤ sizeLine; decide), fun l hl => ?_⟩
      refine ⟨p, l, _, _, rfl, rfl, same_new hl _ _ hL, upd_same, (by show 3 ≤ sizeLine; decide), fun l3 hl3 => ?_⟩
      have s1 : Same H (upd (upd H l (.lst [V.int 0])) l3 (.lst (List.map V.int [c, b] ++ [V.int 0]))) := (same_new hl).trans (same_new hl3)
      refine ⟨_, rfl, l3, _, rfl, SqL.of upd_same, fun l4 hl4 => ?_⟩
      refine ⟨l4, _, rfl, SqL.of upd_same, rfl, _, _, rfl, _, _, rfl, _, _, rfl, rfl, ?_⟩
      have s2 := s1.trans (same_new (o := .lst (cutV (List.map V.int [c, b] ++ [V.int 0]) none (some 3))) hl4)
      refine ⟨_, rfl, p, _, rfl, .inl (s2.seq hS), rfl, _, rfl, ?_⟩
      refine ite2 (fun hc => absurd hc (by simp)) (fun hc => ?_)
      have b18 : Bd 18 18 := bd_lit
      have b0 : Bd 0 0 := bd_lit
      have b27 : Bd 27 27 := bd_lit
      refine ⟨_, rfl, _, _, rfl, rfl, b18.cm b0, _, rfl, _, _, rfl, rfl, (b18.mul b0).cm bb, _, rfl, _, _, rfl, rfl, ((b18.mul b0).mul bb).cm bc,
        _, rfl, _, _, rfl, rfl, b4.cm b0, _, rfl, _, _, rfl, rfl, (b4.mul b0).cm b0, _, rfl, _, _, rfl, rfl, ((b4.mul b0).mul b0).cm b0, _, rfl, _, _, rfl, rfl, (((b4.mul b0).mul b0).mul b0).cm bc, _, _, rfl, rfl, ?_⟩
      refine ⟨_, rfl, _, rfl, _, rfl, _, _, rfl, rfl, b0.cm b0, _, rfl, _, _, rfl, rfl, (b0.mul b0).cm bb, _, rfl, _, _, rfl, rfl, ((b0.mul b0).mul bb).cm bb, _, _, rfl, rfl,
        _, rfl, _, _, rfl, rfl, b4.cm bb, _, rfl, _, _, rfl, rfl, (b4.mul bb).cm bb, _, rfl, _, _, rfl, rfl, ((b4.mul bb).mul bb).cm bb, _, _, rfl, rfl, ?_⟩
      refine ⟨_, rfl, p, _, rfl, .inl (s2.seq hS), rfl, _, rfl, ?_⟩
      refine ite2 (fun hc => absurd hc (by simp)) (fun hc => ?_)
      have e : (decide (V.int ((List.map V.int [c, b]).length : Nat) = V.int 4)) = decide (toldOf [c, b] = 0) := by
        rw [decide_eq_false (by simp), decide_eq_false (show ¬ toldOf [c, b] = 0 from (by decide : ¬ (1 : Int) = 0))]
      show Q (.bl (decide (V.int ((List.map V.int [c, b]).length : Nat) = V.int 4))) _
      rw [e]
      exact k _ s2
    · have bc : Bd 100 c := sm _ (by simp)
      have bb : Bd 100 b := sm _ (by simp)
      refine ite2 (fun hc => ?_) (fun hc => absurd (by simp) hc)
      refine ⟨_, rfl, p, _, _, _, rfl, rfl, hS, rfl, _, rfl, p, _, _, _, rfl, rfl, hS, rfl, _, _, rfl, rfl, bb.cm bb, _, rfl, p, _, _, _, rfl, rfl, hS, rfl, _, _, rfl, rfl, b4.cm bc, rfl, ?_⟩
      have e : decide (V.int (b * b) = V.int (4 * c)) = decide (toldOf [c, b, a] = 0) := dec_int (by show _ ↔ b * b - 4 * c = 0; omega)
      show Q (.bl (decide (V.int (b * b) = V.int (4 * c)))) _
      rw [e]
      exact k _ (Same.refl H)
    · have bc : Bd 100 c := sm _ (by simp)
      have bb : Bd 100 b := sm _ (by simp)
      have ba : Bd 100 a := sm _ (by simp)
      refine ite2 (fun hc => absurd hc (by simp)) (fun hc => ?_)
      refine ⟨_, rfl, (by show 1 ≤ sizeLine; decide), fun l hl => ?_⟩
      refine ⟨p, l, _, _, rfl, rfl, same_new hl _ _ hL, upd_same, (by show 5 ≤ sizeLine; decide), fun l3 hl3 => ?_⟩
      have s1 : Same H (upd (upd H l (.lst [V.int 0])) l3 (.lst (List.map V.int [c, b, a, d] ++ [V.int 0]))) := (same_new hl).trans (same_new hl3)
      refine ⟨_, rfl, l3, _, rfl, SqL.of upd_same, fun l4 hl4 => ?_⟩
      refine ⟨l4, _, rfl, SqL.of upd_same, rfl, _, _, rfl, _, _, rfl, _, _, rfl, rfl, ?_⟩
      have s2 := s1.trans (same_new (o := .lst (cutV (List.map V.int [c, b, a, d] ++ [V.int 0]) none (some 3))) hl4)
      refine ⟨_, rfl, p, _, rfl, .inl (s2.seq hS), rfl, _, rfl, ?_⟩
      refine ite2 (fun hc => absurd hc (by simp)) (fun hc => ?_)
      have b18 : Bd 18 18 := bd_lit
      have b27 : Bd 27 27 := bd_lit
      refine ⟨_, rfl, _, _, rfl, rfl, b18.cm ba, _, rfl, _, _, rfl, rfl, (b18.mul ba).cm bb, _, rfl, _, _, rfl, rfl, ((b18.mul ba).mul bb).cm bc,
        _, rfl, _, _, rfl, rfl, b4.cm ba, _, rfl, _, _, rfl, rfl, (b4.mul ba).cm ba, _, rfl, _, _, rfl, rfl, ((b4.mul ba).mul ba).cm ba, _, rfl, _, _, rfl, rfl, (((b4.mul ba).mul ba).mul ba).cm bc, _, _, rfl, rfl, ?_⟩
      refine ⟨_, rfl, _, rfl, _, rfl, _, _, rfl, rfl, ba.cm ba, _, rfl, _, _, rfl, rfl, (ba.mul ba).cm bb, _, rfl, _, _, rfl, rfl, ((ba.mul ba).mul bb).cm bb, _, _, rfl, rfl,
        _, rfl, _, _, rfl, rfl, b4.cm bb, _, rfl, _, _, rfl, rfl, (b4.mul bb).cm bb, _, rfl, _, _, rfl, rfl, ((b4.mul bb).mul bb).cm bb, _, _, rfl, rfl, ?_⟩
      refine ⟨_, rfl, p, _, rfl, .inl (s2.seq hS), rfl, _, rfl, ?_⟩
      refine ite2 (fun hc => ?_) (fun hc => absurd (by simp) hc)
      refine ⟨_, rfl, _, rfl, _, _, rfl, rfl, b27.cm bc, _, rfl, _, _, rfl, rfl, (b27.mul bc).cm bc, rfl, ?_⟩
      have e : decide (V.int (18 * a * b * c - 4 * a * a * a * c + a * a * b * b - 4 * b * b * b) = V.int (27 * c * c)) = decide (toldOf [c, b, a, d] = 0) := dec_int (by
        show _ ↔ 18 * a * b * c - 4 * a * a * a * c + a * a * b * b - 4 * b * b * b - 27 * c * c = 0
        generalize 18 * a * b * c - 4 * a * a * a * c + a * a * b * b - 4 * b * b * b = x
        generalize 27 * c * c = y
        omega)
      show Q (.bl (decide (V.int (18 * a * b * c - 4 * a * a * a * c + a * a * b * b - 4 * b * b * b) = V.int (27 * c * c)))) _
      rw [e]
      exact k _ s2
    · have bc : Bd 100 c := sm _ (by simp)
      have ba : Bd 100 a := sm _ (by simp)
      refine ite2 (fun hc => absurd hc (by simp)) (fun hc => ?_)
      refine ⟨_, rfl, (by show 1 ≤ sizeLine; decide), fun l hl => ?_⟩
      refine ⟨p, l, _, _, rfl, rfl, same_new hl _ _ hL, upd_same, (by show 6 ≤ sizeLine; decide), fun l3 hl3 => ?_⟩
      have s1 : Same H (upd (upd H l (.lst [V.int 0])) l3 (.lst (List.map V.int [c, b, a, d, e] ++ [V.int 0]))) := (same_new hl).trans (same_new hl3)
      refine ⟨_, rfl, l3, _, rfl, SqL.of upd_same, fun l4 hl4 => ?_⟩
      refine ⟨l4, _, rfl, SqL.of upd_same, rfl, _, _, rfl, _, _, rfl, _, _, rfl, rfl, ?_⟩
      have s2 := s1.trans (same_new (o := .lst (cutV (List.map V.int [c, b, a, d, e] ++ [V.int 0]) none (some 3))) hl4)
      refine ⟨_, rfl, p, _, rfl, .inl (s2.seq hS), rfl, _, rfl, ?_⟩
      refine ite2 (fun hc => ?_) (fun hc => absurd (by simp) hc)
      refine ⟨_, rfl, rfl, _, rfl, ?_⟩
      refine ite2 (fun hc => ?_) (fun hc => ?_)
      · have : c = 0 := by have := of_decide_eq_true hc; injection this
        have e : true = decide (toldOf [c, b, a, d, e] = 0) := by
          symm; apply decide_eq_true
          show c * (a * a - 4 * c) = 0
          rw [this, Int.zero_mul]
        rw [e]
        exact k _ s2
      · have hc0 : c ≠ 0 := fun z => hc (decide_eq_true (by rw [z]))
        refine ⟨_, rfl, _, rfl, _, _, rfl, rfl, ba.cm ba, _, rfl, _, _, rfl, rfl, b4.cm bc, rfl, ?_⟩
        have e : decide (V.int (a * a) = V.int (4 * c)) = decide (toldOf [c, b, a, d, e] = 0) := dec_int (by
          show _ ↔ c * (a * a - 4 * c) = 0
          rw [Int.mul_eq_zero]
          constructor
          · intro h; right; omega
          · intro h
            rcases h with h | h
            · exact absurd h hc0
            · omega)
        show Q (.bl (decide (V.int (a * a) = V.int (4 * c)))) _
        rw [e]
        exact k _ s2
    · simp at l5

theorem modB {x : Int} (j : Int) {n : Nat} (h : 0 < j) (hn : j ≤ n) : Bd n (x.fmod j) := by
  have := fmod_bd (x := x) h
  unfold Bd; omega
abbrev s_Lthree : Stmt := top 80
abbrev N_Lthree : List Str := ["_law_purse_here", "_law_most", "_law_way", "_law_a", "_law_b", "_law_c", "_law_k", "_law_p", "_law_q", "_law_r"]
abbrev P_Lthree : List Str := ["_law_purse_here", "_law_most"]
theorem sc_Lthree : FnScope N_Lthree ["_law_purse_here", "_law_most"] (defScope s_Lthree) := ⟨rfl, rfl, rfl, by decide +kernel, rfl, by decide +kernel, by decide +kernel⟩

def sp_Lthree : Sp := fun vs H Q _ => ∃ (a : Addr) (n : Int) (m : Nat), vs = [.ref a, .int n] ∧ 1 ≤ n ∧ n ≤ 100 ∧ Pur H a m ∧ m ≤ 2 ^ 28 ∧
  ∀ H' (p : Addr) (x y z : Int), Xt a H H' → Pur H' a (m + 100) → p ≠ a → H p = none → H' p = some (.lst ([x, y, z, 1].map V.int)) → Q (.ref p) H'
theorem ok_Lthree (T : Txt K mg c) {f : Addr} {fd : FuncData} (F : L2.Fun K "_law_three" "_law_three" s_Lthree f fd) (h_Ldraw : Cal P w K mg base 2 "_law_draw" sp_Ldraw []) : FnOk P w K mg base CX0 3 f fd P_Lthree sp_Lthree := by
  refine F.ok sc_Lthree (fun vs H Q E h => ?_) (fun cdv A outer s H vs Q E hr h => ?_)
  · obtain ⟨a, n, m, rfl, _⟩ := h
    rfl
  · obtain ⟨a, n, m, rfl, n1, n2, hp, hm, k⟩ := h
    refine ⟨_, (pss_cons (ps_set (i := 2) sc_Lthree.nd rfl (by first | exact Or.inl rfl | exact Or.inr rfl) (pe_c h_Ldraw hr (by decide) rfl (pa_cons (pv 0) (pa_cons pe_int pa_nil))))
      (pss_cons (ps_asg (pe_lc (own := [("_law_k", 6)]) (g := gName 6) (by rfl) sc_Lthree.nd (pi_range1 rfl T.z_range (pa_cons pe_int pa_nil)) (blkOk_by (own := [("_law_k", 6)]) (N := N_Lthree) (sc := defScope s_Lthree) (by decide +kernel)) (fun _ _ _ _ _ => (pg_name (i := 6) sc_Lthree.nd rfl (by first | exact Or.inl rfl | exact Or.inr rfl))) (fun _ _ _ _ _ => pts_nil) (fun _ _ _ _ _ => (pe_op op_sub (pe_c h_Ldraw hr (by decide) rfl (pa_cons (pv 0) (pa_cons (pe_op op_add (pe_op op_mulW pe_int (pv 1)) pe_int) pa_nil))) (pv 1)))) (pg_unl rfl (pgs_cons (pg_name (i := 3) sc_Lthree.nd rfl (by first | exact Or.inl rfl | exact Or.inr rfl)) (pgs_cons (pg_name (i := 4) sc_Lthree.nd rfl (by first | exact Or.inl rfl | exact Or.inr rfl)) (pgs_cons (pg_name (i := 5) sc_Lthree.nd rfl (by first | exact Or.inl rfl | exact Or.inr rfl)) pgs_nil)))))
      (pss_cons (ps_if (pt_cmpR op_eq (pv 2) pe_int (nomark _)) (pss_cons (ps_set (i := 3) sc_Lthree.nd rfl (by first | exact Or.inl rfl | exact Or.inr rfl) (pe_op op_modN (pv 3) pe_int))
      (pss_one (ps_ret (pe_lst (pa_cons (pe_un un_neg pe_int) (pa_cons (pe_op op_sub (pe_op op_sub pe_int (pv 3)) pe_int) (pa_cons (pe_op op_sub pe_int (pv 3)) (pa_cons pe_int pa_nil)))))))) pss_nil)
      (pss_cons (ps_if (pt_cmpR op_eq (pv 2) pe_int (nomark _)) (pss_cons (ps_par3 (i := 7) (j := 8) (l := 9) (by rfl) sc_Lthree.nd rfl rfl rfl (by decide) (by decide) (by decide) rfl rfl rfl (pa_cons (pe_op op_modN (pv 3) pe_int) (pa_cons (pe_op op_modN (pv 4) pe_int) (pa_cons (pe_op op_modN (pv 5) pe_int) pa_nil))) (by rfl))
      (pss_one (ps_ret (pe_lst (pa_cons (pe_op op_sub pe_int (pe_op op_mulW (pe_op op_mulW (pv 7) (pv 8)) (pv 9))) (pa_cons (pe_op op_add (pe_op op_add (pe_op op_mulW (pv 7) (pv 8)) (pe_op op_mulW (pv 7) (pv 9))) (pe_op op_mulW (pv 8) (pv 9))) (pa_cons (pe_op op_sub (pe_op op_sub (pe_op op_sub pe_int (pv 7)) (pv 8)) (pv 9)) (pa_cons pe_int pa_nil)))))))) pss_nil)
      (pss_cons (ps_if (pt_cmpR op_eq (pv 2) pe_int (nomark _)) (pss_cons (ps_par3 (i := 7) (j := 8) (l := 9) (by rfl) sc_Lthree.nd rfl rfl rfl (by decide) (by decide) (by decide) rfl rfl rfl (pa_cons (pe_op op_modN (pv 3) pe_int) (pa_cons (pe_op op_modN (pv 4) pe_int) (pa_cons (pe_op op_modN (pv 5) pe_int) pa_nil))) (by rfl))
      (pss_one (ps_ret (pe_lst (pa_cons (pe_op op_sub pe_int (pe_op op_mulW (pv 7) (pv 8))) (pa_cons (pe_op op_sub (pv 8) (pe_op op_mulW (pv 7) (pv 9))) (pa_cons (pe_op op_sub (pv 9) (pv 7)) (pa_cons pe_int pa_nil)))))))) pss_nil)
      (pss_one (ps_ret (pe_lst (pa_cons (pv 5) (pa_cons (pe_ix ix_list (pe_lst (pa_cons (pv 4) (pa_cons pe_int pa_nil))) (pe_op op_sub (pv 2) pe_int) (fun _ _ => rfl)) (pa_cons (pe_ix ix_list (pe_lst (pa_cons (pv 3) (pa_cons pe_int pa_nil))) (pe_op op_sub (pv 2) pe_int) (fun _ _ => rfl)) (pa_cons pe_int pa_nil)))))))))))), ?_⟩
    refine ⟨_, rfl, a, 5, m, rfl, by decide, by decide, hp, by omega, fun H1 way x1 hp1 w0 w5 => ?_⟩
    refine ⟨3, rfl, by decide, by decide, fun D hD => ?_⟩
    obtain ⟨o, ho⟩ := hp1.at
    have nda : D ≠ a := (ne_of_none ho hD).symm
    have bn : Bd 100 n := by unfold Bd; omega
    have H1D : H D = none := x1.free nda hD
    refine lc_range (lo := 0) (n := 3) (fun i H' => ∃ ds : List Int, ds.length = i ∧ H' D = some (.lst (ds.map V.int)) ∧ Xt a H H' ∧ Pur H' a (m + 20 + 20 * i)) ⟨[], rfl, upd_same, x1.same1 (same_new hD), hp1.same (same_new hD)⟩ ?_ ?_
    · rintro i H' hi ⟨ds, hds, hD', x2, hp2⟩
      refine ⟨rfl, ?_⟩
      refine ⟨_, rfl, _, rfl, _, _, rfl, rfl, (bd_lit (n := 2)).cm bn, _, _, rfl, rfl, a, 2 * n + 1, m + 20 + 20 * i, rfl, by omega, by omega, hp2, by omega, fun H3 z x3 hp3 z0 z1 => ?_⟩
      refine ⟨_, rfl, _, _, rfl, rfl, ds.map V.int, x3 _ _ nda hD', by rw [List.length_map]; exact small1000 (by omega), ?_⟩
      refine ⟨ds ++ [z - n], by rw [List.length_append, hds]; rfl, ?_, ?_, ?_⟩
      · rw [upd_same, List.map_append]; rfl
      · exact (x2.trans x3).updNew H1D
      · exact (hp3.updNe nda).mono (by omega)
    · rintro H2 ⟨ds, hds, hD', x2, hp2⟩
      have fin : ∀ (x y z : Int) (H3 : Hp) (l : Addr), Same H2 H3 → H3 l = none → Q (.ref l) (upd H3 l (.lst ([x, y, z, 1].map V.int))) := fun x y z H3 l sm hl => by
        obtain ⟨o', ho'⟩ := (hp2.same sm).at
        exact k _ l x y z (x2.same1 (sm.trans (same_new hl))) ((hp2.same (sm.trans (same_new hl))).mono (by omega)) (ne_of_none ho' hl).symm (x2.free (ne_of_none ho' hl).symm (sm.free hl)) upd_same
      rcases ds with _ | ⟨da, _ | ⟨db, _ | ⟨dc, _ | ⟨dd, r⟩⟩⟩⟩
      · simp at hds
      · simp at hds
      · simp at hds
      · refine ⟨D, _, rfl, SqL.of hD', rfl, _, _, rfl, _, _, rfl, _, _, rfl, rfl, ?_⟩
        refine ⟨_, rfl, rfl, _, rfl, ?_⟩
        refine ite2 (fun hc => ?_) (fun hc => ?_)
        · refine ⟨_, rfl, _, _, rfl, rfl, (show (97 : Int) ≠ 0 by decide), ?_⟩
          refine ⟨_, rfl, _, rfl, _, _, rfl, rfl, _, _, rfl, rfl, _, rfl, _, _, rfl, rfl, sz4, fun l hl => ?_⟩
          exact fin _ _ _ _ l (Same.refl _) hl
        · refine ⟨_, rfl, rfl, _, rfl, ?_⟩
          refine ite2 (fun hc1 => ?_) (fun hc1 => ?_)
          · refine ⟨_, rfl, _, _, rfl, rfl, (show (5 : Int) ≠ 0 by decide), _, rfl, _, _, rfl, rfl, (show (5 : Int) ≠ 0 by decide), _, rfl, _, _, rfl, rfl, (show (4 : Int) ≠ 0 by decide), _, _, _, rfl, ?_⟩
            have p5 : Bd 5 (da.fmod 5) := modB 5 (by decide) (by decide)
            have q5 : Bd 5 (db.fmod 5) := modB 5 (by decide) (by decide)
            have r4 : Bd 4 (dc.fmod 4) := modB 4 (by decide) (by decide)
            refine ⟨_, rfl, _, rfl, _, _, rfl, rfl, p5.cm q5, _, rfl, _, _, rfl, rfl, (p5.mul q5).cm r4, _, _, rfl, rfl,
              _, rfl, _, rfl, _, _, rfl, rfl, p5.cm q5, _, rfl, _, rfl, _, _, rfl, rfl, p5.cm r4, _, _, rfl, rfl, _, rfl, _, rfl, _, _, rfl, rfl, q5.cm r4, _, _, rfl, rfl,
              _, rfl, _, _, rfl, rfl, _, rfl, _, _, rfl, rfl, _, rfl, _, _, rfl, rfl, sz4, fun l hl => ?_⟩
            exact fin _ _ _ _ l (Same.refl _) hl
          · refine ⟨_, rfl, rfl, _, rfl, ?_⟩
            refine ite2 (fun hc2 => ?_) (fun hc2 => ?_)
            · refine ⟨_, rfl, _, _, rfl, rfl, (show (5 : Int) ≠ 0 by decide), _, rfl, _, _, rfl, rfl, (show (19 : Int) ≠ 0 by decide), _, rfl, _, _, rfl, rfl, (show (9 : Int) ≠ 0 by decide), _, _, _, rfl, ?_⟩
              have p5 : Bd 5 (da.fmod 5) := modB 5 (by decide) (by decide)
              have q5 : Bd 19 (db.fmod 19) := modB 19 (by decide) (by decide)
              have r4 : Bd 9 (dc.fmod 9) := modB 9 (by decide) (by decide)
              refine ⟨_, rfl, _, rfl, _, _, rfl, rfl, p5.cm q5, _, _, rfl, rfl,
                _, rfl, _, rfl, _, rfl, _, _, rfl, rfl, p5.cm r4, _, _, rfl, rfl, _, rfl, _, rfl, _, _, rfl, rfl, sz4, fun l hl => ?_⟩
              exact fin _ _ _ _ l (Same.refl _) hl
            · have w34 : way = 3 ∨ way = 4 := by
                have h0 : way ≠ 0 := fun z => hc (decide_eq_true (by rw [z]))
                have h1 : way ≠ 1 := fun z => hc1 (decide_eq_true (by rw [z]))
                have h2 : way ≠ 2 := fun z => hc2 (decide_eq_true (by rw [z]))
                omega
              have key : ∀ v : Int, ∃ u : Int, atI [V.int v, V.int 0] (way - 3) = some (V.int u) := fun v => by
                rcases w34 with rfl | rfl
                · exact ⟨v, rfl⟩
                · exact ⟨0, rfl⟩
              obtain ⟨u1, hu1⟩ := key db
              obtain ⟨u2, hu2⟩ := key da
              refine ⟨_, rfl, _, rfl, sz2, fun l1 hl1 => ?_⟩
              refine ⟨_, rfl, _, _, rfl, rfl, l1, _, _, _, rfl, rfl, SqL.of upd_same, hu1, _, rfl, sz2, fun l2 hl2 => ?_⟩
              refine ⟨_, rfl, _, _, rfl, rfl, l2, _, _, _, rfl, rfl, SqL.of upd_same, hu2, sz4, fun l hl => ?_⟩
              exact fin _ _ _ _ l ((same_new hl1).trans (same_new hl2)) hl
      · simp at hds

abbrev s_Lfour : Stmt := top 81
abbrev N_Lfour : List Str := ["_law_purse_here", "_law_most", "_law_way", "_law_a", "_law_b", "_law_many_here", "_law_k", "_law_low_here", "_law_high"]
abbrev P_Lfour : List Str := ["_law_purse_here", "_law_most"]
theorem sc_Lfour : FnScope N_Lfour ["_law_purse_here", "_law_most"] (defScope s_Lfour) := ⟨rfl, rfl, rfl, by decide +kernel, rfl, by decide +kernel, by decide +kernel⟩

def sp_Lfour : Sp := fun vs H Q _ => ∃ (a : Addr) (n : Int) (m : Nat), vs = [.ref a, .int n] ∧ 1 ≤ n ∧ n ≤ 100 ∧ Pur H a m ∧ m ≤ 2 ^ 28 ∧
  ∀ H' (p : Addr) (x y : Int), Xt a H H' → Pur H' a (m + 100) → p ≠ a → H p = none → H' p = some (.lst ([x, 0, y, 0, 1].map V.int)) → Q (.ref p) H'
theorem ok_Lfour (T : Txt K mg c) {f : Addr} {fd : FuncData} (F : L2.Fun K "_law_four" "_law_four" s_Lfour f fd) (h_Ldraw : Cal P w K mg base 2 "_law_draw" sp_Ldraw []) : FnOk P w K mg base CX0 3 f fd P_Lfour sp_Lfour := by
  refine F.ok sc_Lfour (fun vs H Q E h => ?_) (fun cdv A outer s H vs Q E hr h => ?_)
  · obtain ⟨a, n, m, rfl, _⟩ := h
    rfl
  · obtain ⟨a, n, m, rfl, n1, n2, hp, hm, k⟩ := h
    refine ⟨_, (pss_cons (ps_set (i := 2) sc_Lfour.nd rfl (by first | exact Or.inl rfl | exact Or.inr rfl) (pe_c h_Ldraw hr (by decide) rfl (pa_cons (pv 0) (pa_cons pe_int pa_nil))))
      (pss_cons (ps_asg (pe_lc (own := [("_law_k", 6)]) (g := gName 6) (by rfl) sc_Lfour.nd (pi_range1 rfl T.z_range (pa_cons pe_int pa_nil)) (blkOk_by (own := [("_law_k", 6)]) (N := N_Lfour) (sc := defScope s_Lfour) (by decide +kernel)) (fun _ _ _ _ _ => (pg_name (i := 6) sc_Lfour.nd rfl (by first | exact Or.inl rfl | exact Or.inr rfl))) (fun _ _ _ _ _ => pts_nil) (fun _ _ _ _ _ => (pe_op op_sub (pe_c h_Ldraw hr (by decide) rfl (pa_cons (pv 0) (pa_cons (pe_op op_add (pe_op op_mulW pe_int (pv 1)) pe_int) pa_nil))) (pv 1)))) (pg_unl rfl (pgs_cons (pg_name (i := 3) sc_Lfour.nd rfl (by first | exact Or.inl rfl | exact Or.inr rfl)) (pgs_cons (pg_name (i := 4) sc_Lfour.nd rfl (by first | exact Or.inl rfl | exact Or.inr rfl)) pgs_nil))))
      (pss_cons (ps_if (pt_cmpR op_eq (pv 2) pe_int (nomark _)) (pss_one (ps_ret (pe_lst (pa_cons (pe_op op_mulW (pe_op op_modN (pv 3) pe_int) (pe_op op_modN (pv 4) pe_int)) (pa_cons pe_int (pa_cons (pe_op op_sub (pe_op op_sub pe_int (pe_op op_modN (pv 3) pe_int)) (pe_op op_modN (pv 4) pe_int)) (pa_cons pe_int (pa_cons pe_int pa_nil)))))))) pss_nil)
      (pss_cons (ps_if (pt_cmpR op_eq (pv 2) pe_int (nomark _)) (pss_one (ps_ret (pe_lst (pa_cons (pe_op op_mulW (pe_op op_modN (pv 4) pe_int) (pe_op op_modN (pv 4) pe_int)) (pa_cons pe_int (pa_cons (pv 3) (pa_cons pe_int (pa_cons pe_int pa_nil)))))))) pss_nil)
      (pss_cons (ps_if (pt_cmpR op_eq (pv 2) pe_int (nomark _)) (pss_cons (ps_set (i := 5) sc_Lfour.nd rfl (by first | exact Or.inl rfl | exact Or.inr rfl) (pe_op op_add pe_int (pe_op op_modN (pv 3) pe_int)))
      (pss_cons (ps_asg (pe_ix ix_list (pe_lst (pa_cons (pe_lst (pa_cons (pe_op op_mulW (pe_op op_mulW pe_int (pv 5)) (pv 5)) (pa_cons (pe_op op_sub pe_int (pe_op op_mulW pe_int (pv 5))) pa_nil))) (pa_cons (pe_lst (pa_cons pe_int (pa_cons pe_int pa_nil))) (pa_cons (pe_lst (pa_cons pe_int (pa_cons (pe_un un_neg pe_int) pa_nil))) (pa_cons (pe_lst (pa_cons pe_int (pa_cons (pe_un un_neg pe_int) pa_nil))) pa_nil))))) (pe_op op_modN (pv 4) pe_int) (fun _ _ => rfl)) (pg_unl rfl (pgs_cons (pg_name (i := 7) sc_Lfour.nd rfl (by first | exact Or.inl rfl | exact Or.inr rfl)) (pgs_cons (pg_name (i := 8) sc_Lfour.nd rfl (by first | exact Or.inl rfl | exact Or.inr rfl)) pgs_nil))))
      (pss_one (ps_ret (pe_lst (pa_cons (pv 7) (pa_cons pe_int (pa_cons (pv 8) (pa_cons pe_int (pa_cons pe_int pa_nil)))))))))) pss_nil)
      (pss_cons (ps_if (pt_cmpR op_eq (pv 2) pe_int (nomark _)) (pss_one (ps_ret (pe_lst (pa_cons (pv 4) (pa_cons pe_int (pa_cons (pe_op op_modN (pe_op op_mulW pe_int (pv 3)) pe_int) (pa_cons pe_int (pa_cons pe_int pa_nil)))))))) pss_nil)
      (pss_one (ps_ret (pe_lst (pa_cons (pv 4) (pa_cons pe_int (pa_cons (pv 3) (pa_cons pe_int (pa_cons pe_int pa_nil)))))))))))))), ?_⟩
    refine ⟨_, rfl, a, 5, m, rfl, by decide, by decide, hp, by omega, fun H1 way x1 hp1 w0 w5 => ?_⟩
    refine ⟨2, rfl, by decide, by decide, fun D hD => ?_⟩
    obtain ⟨o, ho⟩ := hp1.at
    have nda : D ≠ a := (ne_of_none ho hD).symm
    have bn : Bd 100 n := by unfold Bd; omega
    have H1D : H D = none := x1.free nda hD
    refine lc_range (lo := 0) (n := 2) (fun i H' => ∃ ds : List Int, ds.length = i ∧ H' D = some (.lst (ds.map V.int)) ∧ Xt a H H' ∧ Pur H' a (m + 20 + 20 * i) ∧ ∀ d ∈ ds, Bd 300 d) ⟨[], rfl, upd_same, x1.same1 (same_new hD), hp1.same (same_new hD), fun _ h => nomatch h⟩ ?_ ?_
    · rintro i H' hi ⟨ds, hds, hD', x2, hp2, hbd⟩
      refine ⟨rfl, ?_⟩
      refine ⟨_, rfl, _, rfl, _, _, rfl, rfl, (bd_lit (n := 2)).cm bn, _, _, rfl, rfl, a, 2 * n + 1, m + 20 + 20 * i, rfl, by omega, by omega, hp2, by omega, fun H3 z x3 hp3 z0 z1 => ?_⟩
      refine ⟨_, rfl, _, _, rfl, rfl, ds.map V.int, x3 _ _ nda hD', by rw [List.length_map]; exact small1000 (by omega), ?_⟩
      refine ⟨ds ++ [z - n], by rw [List.length_append, hds]; rfl, ?_, ?_, ?_, ?_⟩
      · rw [upd_same, List.map_append]; rfl
      · exact (x2.trans x3).updNew H1D
      · exact (hp3.updNe nda).mono (by omega)
      · intro d hd
        rcases List.mem_append.mp hd with h | h
        · exact hbd d h
        · rw [List.mem_singleton.mp h]; unfold Bd; omega
    · rintro H2 ⟨ds, hds, hD', x2, hp2, hbd⟩
      have fin : ∀ (x y : Int) (H3 : Hp) (l : Addr), Same H2 H3 → H3 l = none → Q (.ref l) (upd H3 l (.lst ([x, 0, y, 0, 1].map V.int))) := fun x y H3 l sm hl => by
        obtain ⟨o', ho'⟩ := (hp2.same sm).at
        exact k _ l x y (x2.same1 (sm.trans (same_new hl))) ((hp2.same (sm.trans (same_new hl))).mono (by omega)) (ne_of_none ho' hl).symm (x2.free (ne_of_none ho' hl).symm (sm.free hl)) upd_same
      rcases ds with _ | ⟨da, _ | ⟨db, _ | ⟨dd, r⟩⟩⟩
      · simp at hds
      · simp at hds
      · have bda : Bd 300 da := hbd _ (by simp)
        refine ⟨D, _, rfl, SqL.of hD', rfl, _, _, rfl, _, _, rfl, rfl, ?_⟩
        refine ⟨_, rfl, rfl, _, rfl, ?_⟩
        have a10 : Bd 10 (da.fmod 10) := modB 10 (by decide) (by decide)
        have b11 : Bd 11 (db.fmod 11) := modB 11 (by decide) (by decide)
        have n10 : (10 : Int) ≠ 0 := by decide
        have n11 : (11 : Int) ≠ 0 := by decide
        have n4 : (4 : Int) ≠ 0 := by decide
        refine ite2 (fun hc => ?_) (fun hc => ?_)
        · refine ⟨_, rfl, _, _, rfl, rfl, n10, _, rfl, _, _, rfl, rfl, n11, _, _, rfl, rfl, a10.cm b11, _, rfl, _, _, rfl, rfl, n10, _, _, rfl, rfl, _, rfl, _, _, rfl, rfl, n11, _, _, rfl, rfl, sz5, fun l hl => ?_⟩
          exact fin _ _ _ l (Same.refl _) hl
        · refine ⟨_, rfl, rfl, _, rfl, ?_⟩
          refine ite2 (fun hc1 => ?_) (fun hc1 => ?_)
          · refine ⟨_, rfl, _, _, rfl, rfl, n11, _, rfl, _, _, rfl, rfl, n11, _, _, rfl, rfl, b11.cm b11, _, rfl, sz5, fun l hl => ?_⟩
            exact fin _ _ _ l (Same.refl _) hl
          · refine ⟨_, rfl, rfl, _, rfl, ?_⟩
            refine ite2 (fun hc2 => ?_) (fun hc2 => ?_)
            · refine ⟨_, rfl, _, _, rfl, rfl, n4, _, _, rfl, rfl, ?_⟩
              have m5 : Bd 5 (1 + da.fmod 4) := by
                have := fmod_bd (x := da) (j := 4) (by decide)
                unfold Bd; omega
              refine ⟨_, rfl, _, _, rfl, rfl, (bd_lit (n := 2)).cm m5, _, rfl, _, _, rfl, rfl, ((bd_lit (n := 2)).mul m5).cm m5, _, rfl, _, _, rfl, rfl, (bd_lit (n := 4)).cm m5, _, _, rfl, rfl, sz2, fun l1 hl1 => ?_⟩
              refine ⟨sz2, fun l2 hl2 => ?_⟩
              refine ⟨_, rfl, sz2, fun l3 hl3 => ?_⟩
              refine ⟨_, rfl, sz2, fun l4 hl4 => ?_⟩
              refine ⟨sz4, fun l5 hl5 => ?_⟩
              refine ⟨_, rfl, _, _, rfl, rfl, n4, ?_⟩
              have r4 := fmod_bd (x := db) (j := 4) (by decide)
              obtain ⟨r, hr4⟩ : ∃ r, r = db.fmod 4 := ⟨_, rfl⟩
              rw [← hr4] at r4
              have t1 := same_new (o := .lst [V.int (2 * (1 + da.fmod 4) * (1 + da.fmod 4)), V.int (0 - 4 * (1 + da.fmod 4))]) hl1
              have t2 := same_new (o := .lst [V.int 5, V.int 5]) hl2
              have t3 := same_new (o := .lst [V.int 5, V.int (-5)]) hl3
              have t4 := same_new (o := .lst [V.int 18, V.int (-12)]) hl4
              have t5 := same_new (o := .lst [V.ref l1, V.ref l2, V.ref l3, V.ref l4]) hl5
              have key : ∃ (lp : Addr) (x y : Int), atI [V.ref l1, V.ref l2, V.ref l3, V.ref l4] r = some (.ref lp) ∧ SqL K (upd (upd (upd (upd (upd H2 l1 (.lst [V.int (2 * (1 + da.fmod 4) * (1 + da.fmod 4)), V.int (0 - 4 * (1 + da.fmod 4))])) l2 (.lst [V.int 5, V.int 5])) l3 (.lst [V.int 5, V.int (-5)])) l4 (.lst [V.int 18, V.int (-12)])) l5 (.lst [V.ref l1, V.ref l2, V.ref l3, V.ref l4])) lp [.int x, .int y] := by
                have : r = 0 ∨ r = 1 ∨ r = 2 ∨ r = 3 := by omega
                rcases this with rfl | rfl | rfl | rfl
                · exact ⟨l1, _, _, rfl, SqL.of (t5 _ _ (t4 _ _ (t3 _ _ (t2 _ _ upd_same))))⟩
                · exact ⟨l2, _, _, rfl, SqL.of (t5 _ _ (t4 _ _ (t3 _ _ upd_same)))⟩
                · exact ⟨l3, _, _, rfl, SqL.of (t5 _ _ (t4 _ _ upd_same))⟩
                · exact ⟨l4, _, _, rfl, SqL.of (t5 _ _ upd_same)⟩
              obtain ⟨lp, x, y, hat, hlp⟩ := key
              refine ⟨l5, _, _, _, rfl, rfl, SqL.of upd_same, hr4 ▸ hat, lp, _, rfl, hlp, rfl, _, _, rfl, _, _, rfl, rfl, ?_⟩
              refine ⟨_, rfl, _, rfl, sz5, fun l hl => ?_⟩
              exact fin _ _ _ l (((t1.trans t2).trans (t3.trans t4)).trans t5) hl
            · refine ⟨_, rfl, rfl, _, rfl, ?_⟩
              refine ite2 (fun hc3 => ?_) (fun hc3 => ?_)
              · refine ⟨_, rfl, _, rfl, _, _, rfl, rfl, (bd_lit (n := 2)).cm bda, _, _, rfl, rfl, (show (101 : Int) ≠ 0 by decide), sz5, fun l hl => ?_⟩
                exact fin _ _ _ l (Same.refl _) hl
              · refine ⟨_, rfl, _, rfl, sz5, fun l hl => ?_⟩
                exact fin _ _ _ l (Same.refl _) hl
      · simp at hds

abbrev s_Lpoly : Stmt := top 82
abbrev N_Lpoly : List Str := ["_law_purse_here", "_law_most", "_law_way", "_law_found", "_law_some", "_law_figure"]
abbrev P_Lpoly : List Str := ["_law_purse_here"]
theorem sc_Lpoly : FnScope N_Lpoly ["_law_purse_here"] (defScope s_Lpoly) := ⟨rfl, rfl, rfl, by decide +kernel, rfl, by decide +kernel, by decide +kernel⟩

def sp_Lpoly : Sp := fun vs H Q _ => ∃ (a : Addr) (m : Nat), vs = [.ref a] ∧ Pur H a m ∧ m ≤ 2 ^ 27 ∧
  ∀ H' (p : Addr) (ns : List Int), Xt a H H' → Pur H' a (m + 300) → p ≠ a → H p = none → H' p = some (.lst (ns.map V.int)) → GoodP ns → Q (.ref p) H'
theorem good_2 : GoodP [-2, 0, 1] := ⟨by decide, by decide, fun x h => (by decide : ∀ x ∈ [(-2 : Int), 0, 1], x.natAbs ≤ 100) x h, rfl, fun h => absurd h (by decide), fun h => absurd h (by decide), by decide⟩
theorem good_3 : GoodP [-2, 0, 0, 1] := ⟨by decide, by decide, fun x h => (by decide : ∀ x ∈ [(-2 : Int), 0, 0, 1], x.natAbs ≤ 100) x h, rfl, fun h => absurd h (by decide), fun h => absurd h (by decide), by decide⟩
theorem good_4 : GoodP [2, 0, -4, 0, 1] := ⟨by decide, by decide, fun x h => (by decide : ∀ x ∈ [(2 : Int), 0, -4, 0, 1], x.natAbs ≤ 100) x h, rfl, fun _ => rfl, fun _ => rfl, by decide⟩
theorem good_5 : GoodP [-2, 0, 0, 0, 1] := ⟨by decide, by decide, fun x h => (by decide : ∀ x ∈ [(-2 : Int), 0, 0, 0, 1], x.natAbs ≤ 100) x h, rfl, fun _ => rfl, fun _ => rfl, by decide⟩
/-- what a drawn list is ahead of its look: the forms -/
def Shape (ns : List Int) : Prop := (∃ c, ns = [c, 1]) ∨ (∃ c b, ns = [c, b, 1]) ∨ (∃ x y z, ns = [x, y, z, 1]) ∨ (∃ x y, ns = [x, 0, y, 0, 1])
theorem Shape.good {ns : List Int} (h : Shape ns) (b : ∀ x ∈ ns, Bd 100 x) (t : toldOf ns ≠ 0) : GoodP ns := by
  rcases h with ⟨c, rfl⟩ | ⟨c, d, rfl⟩ | ⟨x, y, z, rfl⟩ | ⟨x, y, rfl⟩
  · exact ⟨by simp, by simp, b, rfl, fun h => by simp at h, fun h => by simp at h, t⟩
  · exact ⟨by simp, by simp, b, rfl, fun h => by simp at h, fun h => by simp at h, t⟩
  · exact ⟨by simp, by simp, b, rfl, fun h => by simp at h, fun h => by simp at h, t⟩
  · exact ⟨by simp, by simp, b, rfl, fun _ => rfl, fun _ => rfl, t⟩
theorem Shape.len {ns : List Int} (h : Shape ns) : 2 ≤ ns.length ∧ ns.length ≤ 5 := by
  rcases h with ⟨c, rfl⟩ | ⟨c, d, rfl⟩ | ⟨x, y, z, rfl⟩ | ⟨x, y, rfl⟩ <;> simp
def absI (x : Int) : Int := if x < 0 then -x else x
/-- some = [..]; return some[way % 4] -/
def t_fb (K : PySem.W.Frag) : TS := tSeq (tAsg (tLst (tCons (tLst (tCons (tUn (rU fun i => V.int (-i)) (tC (V.int 2))) (tCons (tC (V.int 0)) (tCons (tC (V.int 1)) tNil))))
  (tCons (tLst (tCons (tUn (rU fun i => V.int (-i)) (tC (V.int 2))) (tCons (tC (V.int 0)) (tCons (tC (V.int 0)) (tCons (tC (V.int 1)) tNil)))))
  (tCons (tLst (tCons (tC (V.int 2)) (tCons (tC (V.int 0)) (tCons (tUn (rU fun i => V.int (-i)) (tC (V.int 4))) (tCons (tC (V.int 0)) (tCons (tC (V.int 1)) tNil))))))
  (tCons (tLst (tCons (tUn (rU fun i => V.int (-i)) (tC (V.int 2))) (tCons (tC (V.int 0)) (tCons (tC (V.int 0)) (tCons (tC (V.int 0)) (tCons (tC (V.int 1)) tNil)))))) tNil))))) (gName 4))
  (tRet (tOp (rIxL K) (tVar 4) (tOp (rI (fun x j => j ≠ 0) fun i j => V.int (i.fmod j)) (tVar 2) (tC (V.int 4)))))
/-- if max(..) > 100 or alike: .. return found -/
def t_polytail (K : PySem.W.Frag) : TS := tSeq (tIfS (tOr (tTest (tOp (rI0 fun i j => V.bl (decide (j < i))) (tCB (rMax K) (tCons (tLc (iList K (tVar 3)) (gName 5) tYes (tCB (fun xs H Q => ∃ i, xs = [V.int i] ∧ Q (V.int (if i < 0 then -i else i)) H) (tCons (tVar 5) tNil)) [5]) tNil)) (tC (V.int 100))))
  (tB (tCall sp_Lalike_roots [] C8.E0 (tCons (tVar 3) tNil)))) (t_fb K) tNext) (tRet (tVar 3))
theorem poly_tail {Q : VK} {H4 : Hp} {a p : Addr} {most way : Int} {ns : List Int} (w0 : 0 ≤ way) (w8 : way < 8) (hL : H4 p = some (.lst (ns.map V.int))) (sh : Shape ns)
    (k1 : ∀ H', Same H4 H' → GoodP ns → Q (.ref p) H') (k2 : ∀ H' q ms, Same H4 H' → H4 q = none → H' q = some (.lst (ms.map V.int)) → GoodP ms → Q (.ref q) H') :
    t_polytail K { nx := fun _ H' => Q .non H', rt := Q } [some (.ref a), some (.int most), some (.int way), some (.ref p), none, none] H4 := by
  have fb : ∀ H5, Same H4 H5 → t_fb K { nx := fun _ H' => Q .non H', rt := Q } [some (.ref a), some (.int most), some (.int way), some (.ref p), none, none] H5 := fun H5 s5 => by
    refine ⟨_, rfl, sz3, fun l1 hl1 => ⟨_, rfl, sz4, fun l2 hl2 => ⟨_, rfl, sz5, fun l3 hl3 => ⟨_, rfl, sz5, fun l4 hl4 => ⟨sz4, fun l5 hl5 => ?_⟩⟩⟩⟩⟩
    refine ⟨_, rfl, _, rfl, _, _, rfl, rfl, (show (4 : Int) ≠ 0 by decide), ?_⟩
    have r4 := fmod_bd (x := way) (j := 4) (by decide)
    obtain ⟨r, hr4⟩ : ∃ r, r = way.fmod 4 := ⟨_, rfl⟩
    rw [← hr4] at r4
    have t1 := same_new (o := .lst ([-2, 0, 1].map V.int)) hl1
    have t2 := same_new (o := .lst ([-2, 0, 0, 1].map V.int)) hl2
    have t3 := same_new (o := .lst ([2, 0, -4, 0, 1].map V.int)) hl3
    have t4 := same_new (o := .lst ([-2, 0, 0, 0, 1].map V.int)) hl4
    have t5 := same_new (o := .lst [V.ref l1, V.ref l2, V.ref l3, V.ref l4]) hl5
    have sm := s5.trans ((((t1.trans t2).trans t3).trans t4).trans t5)
    have fr : ∀ {q : Addr}, H5 q = none → H4 q = none := fun {q} h => s5.free h
    have : r = 0 ∨ r = 1 ∨ r = 2 ∨ r = 3 := by omega
    rcases this with rfl | rfl | rfl | rfl
    · refine ⟨l5, _, _, .ref l1, rfl, rfl, SqL.of upd_same, by rw [← hr4]; rfl, k2 _ l1 _ sm (fr hl1) (t5 _ _ (t4 _ _ (t3 _ _ (t2 _ _ upd_same)))) good_2⟩
    · refine ⟨l5, _, _, .ref l2, rfl, rfl, SqL.of upd_same, by rw [← hr4]; rfl, k2 _ l2 _ sm (fr (t1.free hl2)) (t5 _ _ (t4 _ _ (t3 _ _ upd_same))) good_3⟩
    · refine ⟨l5, _, _, .ref l3, rfl, rfl, SqL.of upd_same, by rw [← hr4]; rfl, k2 _ l3 _ sm (fr (t1.free (t2.free hl3))) (t5 _ _ (t4 _ _ upd_same)) good_4⟩
    · refine ⟨l5, _, _, .ref l4, rfl, rfl, SqL.of upd_same, by rw [← hr4]; rfl, k2 _ l4 _ sm (fr (t1.free (t2.free (t3.free hl4)))) (t5 _ _ upd_same) good_5⟩
  have hlen := sh.len
  refine ⟨_, rfl, p, rfl, ⟨_, SqL.of hL⟩, fun D hD => lc_list (K := K) (a := p) (xs := ns.map V.int) (fun i H' => H' D = some (.lst (((ns.take i).map absI).map V.int)) ∧ Same H4 H') ⟨upd_same, same_new hD⟩ (fun i H' _ h => SqL.of (h.2 _ _ hL)) ?_ ?_⟩
  · rintro i x H' hi ⟨hD', sm⟩
    obtain ⟨z, hz, rfl⟩ := item_of hi
    refine ⟨rfl, ?_⟩
    refine ⟨_, rfl, _, rfl, _, hD', ?_, ?_, ?_⟩
    · rw [List.length_map, List.length_map, List.length_take]
      exact small1000 (by omega)
    · rw [upd_same, take_more hz, List.map_append, List.map_append]
      rfl
    · intro b u hb
      rw [upd_ne (ne_of_none hb hD)]
      exact sm b u hb
  · rintro H' ⟨hD', sm⟩
    rw [List.length_map, List.take_of_length_le (Nat.le_refl _)] at hD'
    refine ⟨D, ns.map absI, rfl, SqL.of hD', by rw [List.length_map]; omega, fun mx hmx hall => ?_⟩
    refine ⟨_, _, rfl, rfl, _, rfl, ?_⟩
    refine ite2 (fun hc => ?_) (fun hc => ?_)
    · exact fb _ sm
    · have hm100 : ¬ 100 < mx := fun z => hc (decide_eq_true z)
      have bd : ∀ x ∈ ns, Bd 100 x := fun x hx => by
        have := hall (absI x) (List.mem_map_of_mem hx)
        unfold absI at this
        unfold Bd
        split at this <;> omega
      refine ⟨_, rfl, p, ns, rfl, sm _ _ hL, hlen.1, hlen.2, bd, fun H6 s6 => ?_⟩
      refine ⟨_, rfl, ?_⟩
      refine ite2 (fun hc2 => ?_) (fun hc2 => ?_)
      · exact fb _ (sm.trans s6)
      · have ht : toldOf ns ≠ 0 := fun z => hc2 (decide_eq_true z)
        exact ⟨_, rfl, k1 _ (sm.trans s6) (sh.good bd ht)⟩
theorem ok_Lpoly (T : Txt K mg c) {f : Addr} {fd : FuncData} (F : L2.Fun K "_law_poly" "_law_poly" s_Lpoly f fd) (h_Ldraw : Cal P w K mg base 2 "_law_draw" sp_Ldraw []) (h_Lfour : Cal P w K mg base 3 "_law_four" sp_Lfour [])
    (h_Lthree : Cal P w K mg base 3 "_law_three" sp_Lthree []) (h_Lalike_roots : Cal P w K mg base 1 "_law_alike_roots" sp_Lalike_roots []) : FnOk P w K mg base CX0 4 f fd P_Lpoly sp_Lpoly := by
  refine F.ok sc_Lpoly (fun vs H Q E h => ?_) (fun cdv A outer s H vs Q E hr h => ?_)
  · obtain ⟨a, m, rfl, _⟩ := h
    rfl
  · obtain ⟨a, m, rfl, hp, hm, k⟩ := h
    refine ⟨_, (pss_cons (ps_set (i := 1) sc_Lpoly.nd rfl (by first | exact Or.inl rfl | exact Or.inr rfl) (pe_ix ix_list (pe_lst (pa_cons pe_int (pa_cons pe_int (pa_cons pe_int pa_nil)))) (pe_c h_Ldraw hr (by decide) rfl (pa_cons (pv 0) (pa_cons pe_int pa_nil))) (fun _ _ => rfl)))
      (pss_cons (ps_set (i := 2) sc_Lpoly.nd rfl (by first | exact Or.inl rfl | exact Or.inr rfl) (pe_c h_Ldraw hr (by decide) rfl (pa_cons (pv 0) (pa_cons pe_int pa_nil))))
      (pss_cons (ps_set (i := 3) sc_Lpoly.nd rfl (by first | exact Or.inl rfl | exact Or.inr rfl) (pe_lst (pa_cons (pe_op op_sub (pe_c h_Ldraw hr (by decide) rfl (pa_cons (pv 0) (pa_cons (pe_op op_add (pe_op op_mulW pe_int (pv 1)) pe_int) pa_nil))) (pv 1)) (pa_cons pe_int pa_nil))))
      (pss_cons (ps_if (PW.pt (pw_or (pt_cmpR op_eq (pv 2) pe_int (nomark _)) (pw_or1 (pt_cmpR op_eq (pv 2) pe_int (nomark _))))) (pss_one (ps_set (i := 3) sc_Lpoly.nd rfl (by first | exact Or.inl rfl | exact Or.inr rfl) (pe_op op_cat (pe_slice sl_list (pv 3) po_none (po_some pe_int)) (pe_lst (pa_cons (pe_op op_sub (pe_c h_Ldraw hr (by decide) rfl (pa_cons (pv 0) (pa_cons (pe_op op_add (pe_op op_mulW pe_int (pv 1)) pe_int) pa_nil))) (pv 1)) (pa_cons pe_int pa_nil)))))) pss_nil)
      (pss_cons (ps_if (pt_cmpR op_gt (pv 2) pe_int (nomark _)) (pss_one (ps_set (i := 3) sc_Lpoly.nd rfl (by first | exact Or.inl rfl | exact Or.inr rfl) (pe_c h_Lfour hr (by decide) rfl (pa_cons (pv 0) (pa_cons (pv 1) pa_nil))))) pss_nil)
      (pss_cons (ps_if (PW.pt (pw_and (pt_cmpR op_gt (pv 2) pe_int (nomark _)) (pw_and1 (pt_cmpR op_eq (pe_op op_modN (pv 2) pe_int) pe_int (nomark _))))) (pss_one (ps_set (i := 3) sc_Lpoly.nd rfl (by first | exact Or.inl rfl | exact Or.inr rfl) (pe_c h_Lthree hr (by decide) rfl (pa_cons (pv 0) (pa_cons (pv 1) pa_nil))))) pss_nil)
      (pss_cons (ps_if (PW.pt (pw_or (pt_cmpR op_gt (pe_callB (cr_max rfl) (by rfl) T.z_max (by decide +kernel) (pa_cons (pe_lc (own := [("_law_figure", 5)]) (g := gName 5) (by rfl) sc_Lpoly.nd (pi_list (pv 3)) (blkOk_by (own := [("_law_figure", 5)]) (N := N_Lpoly) (sc := defScope s_Lpoly) (by decide +kernel)) (fun _ _ _ _ _ => (pg_name (i := 5) sc_Lpoly.nd rfl (by first | exact Or.inl rfl | exact Or.inr rfl))) (fun _ _ _ _ _ => pts_nil) (fun _ _ _ _ _ => (pe_callB call_abs (by rfl) T.z_abs (by decide +kernel) (pa_cons (pv 5) pa_nil)))) pa_nil)) pe_int (nomark _)) (pw_or1 (pt_val (pe_c h_Lalike_roots hr (by decide) rfl (pa_cons (pv 3) pa_nil)))))) (pss_cons (ps_set (i := 4) sc_Lpoly.nd rfl (by first | exact Or.inl rfl | exact Or.inr rfl) (pe_lst (pa_cons (pe_lst (pa_cons (pe_un un_neg pe_int) (pa_cons pe_int (pa_cons pe_int pa_nil)))) (pa_cons (pe_lst (pa_cons (pe_un un_neg pe_int) (pa_cons pe_int (pa_cons pe_int (pa_cons pe_int pa_nil))))) (pa_cons (pe_lst (pa_cons pe_int (pa_cons pe_int (pa_cons (pe_un un_neg pe_int) (pa_cons pe_int (pa_cons pe_int pa_nil)))))) (pa_cons (pe_lst (pa_cons (pe_un un_neg pe_int) (pa_cons pe_int (pa_cons pe_int (pa_cons pe_int (pa_cons pe_int pa_nil)))))) pa_nil))))))
      (pss_one (ps_ret (pe_ix ix_list (pv 4) (pe_op op_modN (pv 2) pe_int) (fun _ _ => rfl))))) pss_nil)
      (pss_one (ps_ret (pv 3)))))))))), ?_⟩
    refine ⟨sz3, fun l hl => ?_⟩
    obtain ⟨o, ho⟩ := hp.at
    have nla : l ≠ a := (ne_of_none ho hl).symm
    refine ⟨_, rfl, a, 3, m, rfl, by decide, by decide, hp.same (same_new hl), by omega, fun H1 z x1 hp1 z0 z3 => ?_⟩
    have hL : H1 l = some (.lst [V.int 3, V.int 10, V.int 100]) := x1 _ _ nla upd_same
    have x01 : Xt a H H1 := (Xt.of (same_new hl)).trans x1
    have key : ∃ most : Int, atI [V.int 3, V.int 10, V.int 100] z = some (V.int most) ∧ 1 ≤ most ∧ most ≤ 100 := by
      have : z = 0 ∨ z = 1 ∨ z = 2 := by omega
      rcases this with rfl | rfl | rfl
      · exact ⟨3, rfl, by decide, by decide⟩
      · exact ⟨10, rfl, by decide, by decide⟩
      · exact ⟨100, rfl, by decide, by decide⟩
    obtain ⟨most, hmo, mo1, mo2⟩ := key
    have bmo : Bd 100 most := by unfold Bd; omega
    refine ⟨l, _, _, _, rfl, rfl, SqL.of hL, hmo, ?_⟩
    refine ⟨_, rfl, a, 8, m + 20, rfl, by decide, by decide, hp1, by omega, fun H2 way x2 hp2 w0 w8 => ?_⟩
    refine ⟨_, rfl, _, rfl, _, _, rfl, rfl, (bd_lit (n := 2)).cm bmo, _, _, rfl, rfl, a, 2 * most + 1, m + 40, rfl, by omega, by omega, hp2, by omega, fun H3 c x3 hp3 c0 c1 => ?_⟩
    refine ⟨_, rfl, _, _, rfl, rfl, sz2, fun l2 hl2 => ?_⟩
    have x03 : Xt a H H3 := x01.trans (x2.trans x3)
    obtain ⟨o3, ho3⟩ := hp3.at
    have nl2a : l2 ≠ a := (ne_of_none ho3 hl2).symm
    have Hl2 : H l2 = none := x03.free nl2a hl2
    have tail : ∀ (H4 : Hp) (p : Addr) (ns : List Int), Xt a H H4 → Pur H4 a (m + 280) → p ≠ a → H p = none → H4 p = some (.lst (ns.map V.int)) → Shape ns →
        t_polytail K { nx := fun _ H' => Q .non H', rt := Q } [some (.ref a), some (.int most), some (.int way), some (.ref p), none, none] H4 := fun H4 p ns x4 hp4 npa hpn hL4 sh => by
      refine poly_tail w0 w8 hL4 sh (fun H' sm G => k _ p ns (x4.same1 sm) ((hp4.same sm).mono (by omega)) npa hpn (sm _ _ hL4) G) (fun H' q ms sm hq hq2 G => ?_)
      obtain ⟨o4, ho4⟩ := hp4.at
      have nqa : q ≠ a := (ne_of_none ho4 hq).symm
      exact k _ q ms (x4.same1 sm) ((hp4.same sm).mono (by omega)) nqa (x4.free nqa hq) hq2 G
    have hL2_ : upd H3 l2 (.lst ([c - most, 1].map V.int)) l2 = some (.lst ([c - most, 1].map V.int)) := upd_same
    have x04 : Xt a H (upd H3 l2 (.lst ([c - most, 1].map V.int))) := x03.same1 (same_new hl2)
    have hp4 : Pur (upd H3 l2 (.lst ([c - most, 1].map V.int))) a (m + 60) := hp3.same (same_new hl2)
    have cases8 : way = 0 ∨ (way = 1 ∨ way = 2) ∨ (way = 3 ∨ way = 5 ∨ way = 7) ∨ (way = 4 ∨ way = 6) := by omega
    refine ⟨_, rfl, rfl, _, rfl, ?_⟩
    rcases cases8 with rfl | h12 | h357 | h46
    · refine iteF ?_
      refine ⟨_, rfl, rfl, _, rfl, ?_⟩
      refine iteF ?_
      refine ⟨_, rfl, _, _, rfl, rfl, _, rfl, ?_⟩
      refine iteF ?_
      refine ⟨_, rfl, _, _, rfl, rfl, _, rfl, ?_⟩
      refine iteF ?_
      exact tail _ l2 [c - most, 1] x04 (hp4.mono (by omega)) nl2a Hl2 hL2_ (.inl ⟨_, rfl⟩)
    · rcases h12 with rfl | rfl
      · refine iteT ?_
        refine ⟨_, rfl, _, rfl, l2, _, rfl, SqL.of hL2_, fun q hq => ?_⟩
        obtain ⟨o5, ho5⟩ := hp4.at
        have nqa : q ≠ a := (ne_of_none ho5 hq).symm
        refine ⟨_, rfl, _, rfl, _, _, rfl, rfl, (bd_lit (n := 2)).cm bmo, _, _, rfl, rfl, a, 2 * most + 1, m + 60, rfl, by omega, by omega, hp4.same (same_new hq), by omega, fun H5 d x5 hp5 d0 d1 => ?_⟩
        refine ⟨_, rfl, _, _, rfl, rfl, sz2, fun l3 hl3 => ?_⟩
        have hq5 : H5 q = some (.lst (cutV ([c - most, 1].map V.int) none (some 1))) := x5 _ _ nqa upd_same
        refine ⟨q, l3, _, _, rfl, rfl, same_new hl3 _ _ hq5, upd_same, (by show 3 ≤ sizeLine; decide), fun l4 hl4 => ?_⟩
        obtain ⟨o6, ho6⟩ := (hp5.same (same_new (o := .lst [V.int (d - most), V.int 1]) hl3)).at
        have nl4 : l4 ≠ a := (ne_of_none ho6 hl4).symm
        have xx : Xt a H (upd H5 l3 (.lst [V.int (d - most), V.int 1])) := (x04.same1 (same_new hq)).trans (x5.same1 (same_new hl3))
        refine ⟨_, rfl, _, _, rfl, rfl, _, rfl, ?_⟩
        refine iteF ?_
        refine ⟨_, rfl, _, _, rfl, rfl, _, rfl, ?_⟩
        refine iteF ?_
        exact tail _ l4 [c - most, d - most, 1] (xx.same1 (same_new hl4)) (((hp5.same (same_new hl3)).same (same_new hl4)).mono (by omega)) nl4 (xx.free nl4 hl4) upd_same (.inr (.inl ⟨_, _, rfl⟩))
      · refine iteF ?_
        refine ⟨_, rfl, rfl, _, rfl, ?_⟩
        refine iteT ?_
        refine ⟨_, rfl, _, rfl, l2, _, rfl, SqL.of hL2_, fun q hq => ?_⟩
        obtain ⟨o5, ho5⟩ := hp4.at
        have nqa : q ≠ a := (ne_of_none ho5 hq).symm
        refine ⟨_, rfl, _, rfl, _, _, rfl, rfl, (bd_lit (n := 2)).cm bmo, _, _, rfl, rfl, a, 2 * most + 1, m + 60, rfl, by omega, by omega, hp4.same (same_new hq), by omega, fun H5 d x5 hp5 d0 d1 => ?_⟩
        refine ⟨_, rfl, _, _, rfl, rfl, sz2, fun l3 hl3 => ?_⟩
        have hq5 : H5 q = some (.lst (cutV ([c - most, 1].map V.int) none (some 1))) := x5 _ _ nqa upd_same
        refine ⟨q, l3, _, _, rfl, rfl, same_new hl3 _ _ hq5, upd_same, (by show 3 ≤ sizeLine; decide), fun l4 hl4 => ?_⟩
        obtain ⟨o6, ho6⟩ := (hp5.same (same_new (o := .lst [V.int (d - most), V.int 1]) hl3)).at
        have nl4 : l4 ≠ a := (ne_of_none ho6 hl4).symm
        have xx : Xt a H (upd H5 l3 (.lst [V.int (d - most), V.int 1])) := (x04.same1 (same_new hq)).trans (x5.same1 (same_new hl3))
        refine ⟨_, rfl, _, _, rfl, rfl, _, rfl, ?_⟩
        refine iteF ?_
        refine ⟨_, rfl, _, _, rfl, rfl, _, rfl, ?_⟩
        refine iteF ?_
        exact tail _ l4 [c - most, d - most, 1] (xx.same1 (same_new hl4)) (((hp5.same (same_new hl3)).same (same_new hl4)).mono (by omega)) nl4 (xx.free nl4 hl4) upd_same (.inr (.inl ⟨_, _, rfl⟩))
    · rcases h357 with rfl | rfl | rfl
      · refine iteF ?_
        refine ⟨_, rfl, rfl, _, rfl, ?_⟩
        refine iteF ?_
        refine ⟨_, rfl, _, _, rfl, rfl, _, rfl, ?_⟩
        refine iteT ?_
        refine ⟨_, rfl, _, rfl, a, most, m + 60, rfl, mo1, mo2, hp4, by omega, fun H5 p x y x5 hp5 npa hn5 hL5 => ?_⟩
        refine ⟨_, rfl, _, _, rfl, rfl, _, rfl, ?_⟩
        refine iteT ?_
        refine ⟨_, rfl, _, _, rfl, rfl, (show (2 : Int) ≠ 0 by decide), rfl, _, rfl, ?_⟩
        refine iteF ?_
        exact tail H5 p [x, 0, y, 0, 1] (x04.trans x5) (hp5.mono (by omega)) npa (x04.free npa hn5) hL5 (.inr (.inr (.inr ⟨_, _, rfl⟩)))
      · refine iteF ?_
        refine ⟨_, rfl, rfl, _, rfl, ?_⟩
        refine iteF ?_
        refine ⟨_, rfl, _, _, rfl, rfl, _, rfl, ?_⟩
        refine iteT ?_
        refine ⟨_, rfl, _, rfl, a, most, m + 60, rfl, mo1, mo2, hp4, by omega, fun H5 p x y x5 hp5 npa hn5 hL5 => ?_⟩
        refine ⟨_, rfl, _, _, rfl, rfl, _, rfl, ?_⟩
        refine iteT ?_
        refine ⟨_, rfl, _, _, rfl, rfl, (show (2 : Int) ≠ 0 by decide), rfl, _, rfl, ?_⟩
        refine iteF ?_
        exact tail H5 p [x, 0, y, 0, 1] (x04.trans x5) (hp5.mono (by omega)) npa (x04.free npa hn5) hL5 (.inr (.inr (.inr ⟨_, _, rfl⟩)))
      · refine iteF ?_
        refine ⟨_, rfl, rfl, _, rfl, ?_⟩
        refine iteF ?_
        refine ⟨_, rfl, _, _, rfl, rfl, _, rfl, ?_⟩
        refine iteT ?_
        refine ⟨_, rfl, _, rfl, a, most, m + 60, rfl, mo1, mo2, hp4, by omega, fun H5 p x y x5 hp5 npa hn5 hL5 => ?_⟩
        refine ⟨_, rfl, _, _, rfl, rfl, _, rfl, ?_⟩
        refine iteT ?_
        refine ⟨_, rfl, _, _, rfl, rfl, (show (2 : Int) ≠ 0 by decide), rfl, _, rfl, ?_⟩
        refine iteF ?_
        exact tail H5 p [x, 0, y, 0, 1] (x04.trans x5) (hp5.mono (by omega)) npa (x04.free npa hn5) hL5 (.inr (.inr (.inr ⟨_, _, rfl⟩)))
    · rcases h46 with rfl | rfl
      · refine iteF ?_
        refine ⟨_, rfl, rfl, _, rfl, ?_⟩
        refine iteF ?_
        refine ⟨_, rfl, _, _, rfl, rfl, _, rfl, ?_⟩
        refine iteT ?_
        refine ⟨_, rfl, _, rfl, a, most, m + 60, rfl, mo1, mo2, hp4, by omega, fun H5 p x y x5 hp5 npa hn5 hL5 => ?_⟩
        refine ⟨_, rfl, _, _, rfl, rfl, _, rfl, ?_⟩
        refine iteT ?_
        refine ⟨_, rfl, _, _, rfl, rfl, (show (2 : Int) ≠ 0 by decide), rfl, _, rfl, ?_⟩
        refine iteT ?_
        refine ⟨_, rfl, _, rfl, a, most, m + 160, rfl, mo1, mo2, hp5.mono (by omega), by omega, fun H6 p2 x y z x6 hp6 npa6 hn6 hL6 => ?_⟩
        exact tail H6 p2 [x, y, z, 1] ((x04.trans x5).trans x6) (hp6.mono (by omega)) npa6 ((x04.trans x5).free npa6 hn6) hL6 (.inr (.inr (.inl ⟨_, _, _, rfl⟩)))
      · refine iteF ?_
        refine ⟨_, rfl, rfl, _, rfl, ?_⟩
        refine iteF ?_
        refine ⟨_, rfl, _, _, rfl, rfl, _, rfl, ?_⟩
        refine iteT ?_
        refine ⟨_, rfl, _, rfl, a, most, m + 60, rfl, mo1, mo2, hp4, by omega, fun H5 p x y x5 hp5 npa hn5 hL5 => ?_⟩
        refine ⟨_, rfl, _, _, rfl, rfl, _, rfl, ?_⟩
        refine iteT ?_
        refine ⟨_, rfl, _, _, rfl, rfl, (show (2 : Int) ≠ 0 by decide), rfl, _, rfl, ?_⟩
        refine iteT ?_
        refine ⟨_, rfl, _, rfl, a, most, m + 160, rfl, mo1, mo2, hp5.mono (by omega), by omega, fun H6 p2 x y z x6 hp6 npa6 hn6 hL6 => ?_⟩
        exact tail H6 p2 [x, y, z, 1] ((x04.trans x5).trans x6) (hp6.mono (by omega)) npa6 ((x04.trans x5).free npa6 hn6) hL6 (.inr (.inr (.inl ⟨_, _, _, rfl⟩)))
end
end My

namespace My
open PySem PySem.Spec PyProof.Rows L2
open C8 (Cal pe_c pe_gc InsC call_isC)
/-! ### what a law draws, told of data -/
theorem fault_of_good {ns : List Int} (G : GoodP ns) : (faultOf ns).1 = true := by
  have l2 := G.l2
  have l5 := G.l5
  rw [fault_small (by omega) fun y hy => G.sm y hy]
  unfold fault3
  rw [if_neg (by rw [G.last]; simp), if_neg (fun h => h.2 (G.mid1 h.1)), if_neg (fun h => h.2 (G.mid3 h.1))]
  exact decide_eq_true G.told
def W_Ldraw : WpP := fun m ds C => ∃ n : Int, ds = [.int n] ∧ 0 < n ∧ n < 2 ^ 200 ∧ m ≤ 2 ^ 30 ∧ ∀ z : Int, 0 ≤ z → z < n → C (m + 20) (.int z)
def W_Lpoly : WpP := fun m ds C => ds = [] ∧ m ≤ 2 ^ 27 ∧ ∀ ns : List Int, GoodP ns → C (m + 300) (nsD ns)
theorem LeX.ofXt {a : Addr} {H H' : Hp} (x : Xt a H H') : LeX [a] H H' := fun b o hb ho => .inl (x b o (by simpa using hb) ho)
theorem ad_Ldraw {vs : List V} {H : Hp} {Q : VK} {E : XK} (h : spP W_Ldraw vs H Q E) : sp_Ldraw vs H Q E := by
  obtain ⟨a, us, G, m, ds, C, rfl, aG, hp, hd, r, ⟨n, rfl, h0, h1, hm, c⟩, k⟩ := h
  cases r with
  | cons r t =>
    cases r; cases t
    exact ⟨a, n, m, rfl, h0, h1, hp, hm, fun H' z x p z0 z1 => k _ _ _ H' (c z z0 z1) (.ofXt x) p (.int _)⟩
theorem ad_Lpoly {vs : List V} {H : Hp} {Q : VK} {E : XK} (h : spP W_Lpoly vs H Q E) : sp_Lpoly vs H Q E := by
  obtain ⟨a, us, G, m, ds, C, rfl, aG, hp, hd, r, ⟨rfl, hm, c⟩, k⟩ := h
  cases r
  refine ⟨a, m, rfl, hp, hm, fun H' p ns x pp np hn hl g => k _ _ _ H' (c ns g) (.ofXt x) pp ?_⟩
  exact .lst (by rw [hid_out (no_of_dom hd hn)]; exact hl) (RpL.ints ns)
def W_Lnumber : WpP := fun m ds C => ∃ n : Int, ds = [.int n] ∧ 1 ≤ n ∧ n ≤ 10 ^ 30 ∧ m ≤ 2 ^ 29 ∧ ∀ z : Int, (z.natAbs : Int) ≤ n + 12 → C (m + 40) (.int z)
def W_Lfraction : WpP := fun m ds C => ∃ n : Int, ds = [.int n] ∧ 1 ≤ n ∧ n ≤ 10 ^ 30 ∧ m ≤ 2 ^ 28 ∧ ∀ q : Int × Int, q.2 ≠ 0 → (q.1.natAbs : Int) ≤ 3 * (n + 12) → q.2.natAbs ≤ 30 → C (m + 120) (qD q)
def FQ (n : Int) (qs : List (Int × Int)) : Prop := ∀ q ∈ qs, q.2 ≠ 0 ∧ (q.1.natAbs : Int) ≤ 3 * (n + 12) ∧ q.2.natAbs ≤ 30
def W_Lshares : WpP := fun m ds C => ∃ (k : Nat) (n : Int), ds = [.int (k : Int), .int n] ∧ k ≤ 400 ∧ 1 ≤ n ∧ n ≤ 10 ^ 30 ∧ m ≤ 2 ^ 27 ∧ ∀ qs : List (Int × Int), qs.length = k → FQ n qs → C (m + 140 * k) (qsD qs)
def W_Llow : WpD := fun ds C => ∃ qs : List (Int × Int), ds = [qsD qs] ∧ qs.length ≤ 900 ∧ (∀ q ∈ qs, q.2 ≠ 0 ∧ Sz 8000 q.2) ∧ C (rsD (qs.map qR))
def W_Lwhole : WpD := fun ds C => ∃ n : Int, ds = [.int n] ∧ C (.bl true)
theorem lo_bd {z a b : Int} (ha : 0 ≤ a ∧ a < 9) (hb : 0 ≤ b ∧ b < 4) (hz : 0 ≤ z ∧ z < 4) : ∃ lo : Int, atI [Dat.int 1, .int 1, .int (1 + a), .int (0 - 1 - b)] z = some (.int lo) ∧ lo ≠ 0 ∧ Bd 9 lo := by
  have : z = 0 ∨ z = 1 ∨ z = 2 ∨ z = 3 := by omega
  rcases this with rfl | rfl | rfl | rfl
  · exact ⟨1, rfl, by decide, bd_lit⟩
  · exact ⟨1, rfl, by decide, bd_lit⟩
  · exact ⟨1 + a, rfl, by omega, by unfold Bd; omega⟩
  · exact ⟨0 - 1 - b, rfl, by omega, by unfold Bd; omega⟩
theorem by_bd {z : Int} (hz : 0 ≤ z ∧ z < 5) : ∃ b : Int, atI [Dat.int 1, .int 1, .int 1, .int 2, .int (-3)] z = some (.int b) ∧ b ≠ 0 ∧ Bd 3 b := by
  have : z = 0 ∨ z = 1 ∨ z = 2 ∨ z = 3 ∨ z = 4 := by omega
  rcases this with rfl | rfl | rfl | rfl | rfl
  · exact ⟨1, rfl, by decide, bd_lit⟩
  · exact ⟨1, rfl, by decide, bd_lit⟩
  · exact ⟨1, rfl, by decide, bd_lit⟩
  · exact ⟨2, rfl, by decide, bd_lit⟩
  · exact ⟨-3, rfl, by decide, bd_lit⟩
theorem far_bd {z n : Int} (hz : 0 ≤ z ∧ z < 4) (h1 : 1 ≤ n) : ∃ b : Int, atI [Dat.int 1, .int 3, .int 12, .int n] z = some (.int b) ∧ 0 < b ∧ b ≤ n + 12 := by
  have : z = 0 ∨ z = 1 ∨ z = 2 ∨ z = 3 := by omega
  rcases this with rfl | rfl | rfl | rfl
  · exact ⟨1, rfl, by decide, by omega⟩
  · exact ⟨3, rfl, by decide, by omega⟩
  · exact ⟨12, rfl, by decide, by omega⟩
  · exact ⟨n, rfl, by omega, by omega⟩
section

variable {c : Cs} {P : Program} {w : World} {K : PySem.W.Frag} {mg : Str → Option Value} {base : Heap}
abbrev s_Lnumber : Stmt := top 83
abbrev N_Lnumber : List Str := ["_law_purse_here", "_law_most", "_law_far"]
abbrev P_Lnumber : List Str := ["_law_purse_here", "_law_most"]
theorem sc_Lnumber : FnScope N_Lnumber ["_law_purse_here", "_law_most"] (defScope s_Lnumber) := ⟨rfl, rfl, rfl, by decide +kernel, rfl, by decide +kernel, by decide +kernel⟩

theorem ok_Lnumber (T : Txt K mg c) {f : Addr} {fd : FuncData} (F : L2.Fun K "_law_number" "_law_number" s_Lnumber f fd) (h_Ldraw : Cal P w K mg base 2 "_law_draw" (spP W_Ldraw) []) : FnOk P w K mg base CX0 3 f fd P_Lnumber (spP W_Lnumber) := by
  refine okP F sc_Lnumber (by decide) (fun m ds C ⟨_, e, _⟩ => by rw [e]; rfl) fun cdv A outer s H E hr => ⟨_, (pss_cons (ps_set (i := 2) sc_Lnumber.nd rfl (by first | exact Or.inl rfl | exact Or.inr rfl) (pe_ix ix_list (pe_lst (pa_cons pe_int (pa_cons pe_int (pa_cons pe_int (pa_cons (pv 1) pa_nil))))) (pe_c h_Ldraw hr (by decide) rfl (pa_cons (pv 0) (pa_cons pe_int pa_nil))) (fun _ _ => rfl)))
      (pss_one (ps_ret (pe_op op_sub (pe_c h_Ldraw hr (by decide) rfl (pa_cons (pv 0) (pa_cons (pe_op op_add (pe_op op_mulW pe_int (pv 2)) pe_int) pa_nil))) (pv 2))))), fun z m ds C ⟨n, e, n1, n2, hm, k⟩ => ?_⟩
  subst e
  (repeat' (first | refine XS.seq ?_ | refine XS.set ?_ | refine XE.var rfl ?_ | refine XE.int ?_ | refine XE.op dr_ixL ?_ | refine XE.ofN (XN.lst ?_) | refine XE.callP rfl ?_ | refine XA.nil ?_ | refine XA.cons ?_ | refine go_len rfl ?_))
  refine ⟨4, rfl, by decide, by decide, by omega, fun z1 a0 a1 => ?_⟩
  obtain ⟨far, hf, f0, f1⟩ := far_bd ⟨a0, a1⟩ n1
  skip
  refine go_ix hf ?_
  (repeat' (first | refine XS.ret ?_ | refine XE.var rfl ?_ | refine XE.int ?_ | refine XE.op dr_I0 ?_ | refine XE.op dr_I ?_ | refine XE.callP rfl ?_ | refine XA.cons ?_))
  have bf : Sz 110 far := by
    unfold Sz
    have : (far.natAbs : Int) < ((2 ^ 110 : Nat) : Int) := by
      have e : ((2 ^ 110 : Nat) : Int) = 2 ^ 110 := by decide
      rw [e]; omega
    exact Int.ofNat_lt.mp this
  refine go_I (wide_mul (show Sz 2 2 by unfold Sz; decide) bf (by decide) (by decide) (by decide)) ?_
  (repeat' (first | refine XE.int ?_ | refine XA.nil ?_ | refine go_I0 ?_))
  refine ⟨2 * far + 1, rfl, by omega, by omega, by omega, fun z2 b0 b1 => ?_⟩
  (repeat' (first | refine XE.var rfl ?_ | refine go_I0 ?_))
  exact k _ (by omega)
abbrev s_Lfraction : Stmt := top 74
abbrev N_Lfraction : List Str := ["_law_purse_here", "_law_most", "_law_lo", "_law_by"]
abbrev P_Lfraction : List Str := ["_law_purse_here", "_law_most"]
theorem sc_Lfraction : FnScope N_Lfraction ["_law_purse_here", "_law_most"] (defScope s_Lfraction) := ⟨rfl, rfl, rfl, by decide +kernel, rfl, by decide +kernel, by decide +kernel⟩

theorem ok_Lfraction (T : Txt K mg c) {f : Addr} {fd : FuncData} (F : L2.Fun K "_law_fraction" "_law_fraction" s_Lfraction f fd) (h_Ldraw : Cal P w K mg base 2 "_law_draw" (spP W_Ldraw) []) (h_Lnumber : Cal P w K mg base 3 "_law_number" (spP W_Lnumber) []) : FnOk P w K mg base CX0 4 f fd P_Lfraction (spP W_Lfraction) := by
  refine okP F sc_Lfraction (by decide) (fun m ds C ⟨_, e, _⟩ => by rw [e]; rfl) fun cdv A outer s H E hr => ⟨_, (pss_cons (ps_set (i := 2) sc_Lfraction.nd rfl (by first | exact Or.inl rfl | exact Or.inr rfl) (pe_ix ix_list (pe_lst (pa_cons pe_int (pa_cons pe_int (pa_cons (pe_op op_add pe_int (pe_c h_Ldraw hr (by decide) rfl (pa_cons (pv 0) (pa_cons pe_int pa_nil)))) (pa_cons (pe_op op_sub (pe_op op_sub pe_int pe_int) (pe_c h_Ldraw hr (by decide) rfl (pa_cons (pv 0) (pa_cons pe_int pa_nil)))) pa_nil))))) (pe_c h_Ldraw hr (by decide) rfl (pa_cons (pv 0) (pa_cons pe_int pa_nil))) (fun _ _ => rfl)))
      (pss_cons (ps_set (i := 3) sc_Lfraction.nd rfl (by first | exact Or.inl rfl | exact Or.inr rfl) (pe_ix ix_list (pe_lst (pa_cons pe_int (pa_cons pe_int (pa_cons pe_int (pa_cons pe_int (pa_cons (pe_un un_neg pe_int) pa_nil)))))) (pe_c h_Ldraw hr (by decide) rfl (pa_cons (pv 0) (pa_cons pe_int pa_nil))) (fun _ _ => rfl)))
      (pss_one (ps_ret (pe_tup (pa_cons (pe_op op_mulW (pe_c h_Lnumber hr (by decide) rfl (pa_cons (pv 0) (pa_cons (pv 1) pa_nil))) (pv 3)) (pa_cons (pe_op op_mulW (pv 2) (pv 3)) pa_nil))))))), fun z m ds C ⟨n, e, n1, n2, hm, k⟩ => ?_⟩
  subst e
  (repeat' (first | refine XS.seq ?_ | refine XS.set ?_ | refine XE.int ?_ | refine XE.op dr_I0 ?_ | refine XE.op dr_ixL ?_ | refine XE.ofN (XN.lst ?_) | refine XE.callP rfl ?_ | refine XA.nil ?_ | refine XA.cons ?_))
  refine ⟨9, rfl, by decide, by decide, by omega, fun z1 a0 a1 => ?_⟩
  (repeat' (first | refine XE.int ?_ | refine XE.op dr_I0 ?_ | refine XE.callP rfl ?_ | refine XA.nil ?_ | refine XA.cons ?_ | refine go_I0 ?_))
  refine ⟨4, rfl, by decide, by decide, by omega, fun z2 b0 b1 => ?_⟩
  (repeat' (first | refine XE.int ?_ | refine XE.callP rfl ?_ | refine XA.nil ?_ | refine XA.cons ?_ | refine go_I0 ?_ | refine go_len rfl ?_))
  refine ⟨4, rfl, by decide, by decide, by omega, fun z3 c0 c1 => ?_⟩
  obtain ⟨lo, hlo, lo0, lo9⟩ := lo_bd ⟨a0, a1⟩ ⟨b0, b1⟩ ⟨c0, c1⟩
  skip
  refine go_ix hlo ?_
  (repeat' (first | (guard_target =~ XS _ _ _ _ _; first | refine XS.seq ?_ | refine XS.set ?_) | (guard_target =~ XE _ _ _ _ _; first | refine XE.int ?_ | refine XE.op dr_ixL ?_ | refine XE.unI ?_ | refine XE.ofN (XN.lst ?_) | refine XE.callP rfl ?_) | (guard_target =~ XA _ _ _ _ _; first | refine XA.nil ?_ | refine XA.cons ?_) | refine go_len rfl ?_ | refine go_un ?_))
  refine ⟨5, rfl, by decide, by decide, by omega, fun z4 d0 d1 => ?_⟩
  obtain ⟨by_, hby, by0, by3⟩ := by_bd ⟨d0, d1⟩
  skip
  refine go_ix hby ?_
  (repeat' (first | refine XS.ret ?_ | refine XE.var rfl ?_ | refine XE.op dr_I ?_ | refine XE.tup ?_ | refine XE.callP rfl ?_ | refine XA.nil ?_ | refine XA.cons ?_))
  refine ⟨n, rfl, n1, n2, by omega, fun x hx => ?_⟩
  have bx : Sz 110 x := by
    unfold Sz
    have : (x.natAbs : Int) < ((2 ^ 110 : Nat) : Int) := by
      have e : ((2 ^ 110 : Nat) : Int) = 2 ^ 110 := by decide
      rw [e]; omega
    exact Int.ofNat_lt.mp this
  have b3 : Sz 2 by_ := by unfold Sz; unfold Bd at by3; omega
  (repeat' (first | refine XE.var rfl ?_))
  refine go_I (wide_mul bx b3 (by decide) (by decide) (by decide)) ?_
  (repeat' (first | refine XE.var rfl ?_ | refine XE.op dr_I ?_ | refine XA.cons ?_))
  refine go_I (lo9.cm by3) ?_
  (repeat' (first | refine XA.nil ?_ | refine go_len rfl ?_))
  refine (k (x * by_, lo * by_) (Int.mul_ne_zero lo0 by0) ?_ ?_ : C (m + 120) _)
  · show ((x * by_).natAbs : Int) ≤ _
    rw [Int.natAbs_mul, Int.natCast_mul]
    have h3 : (by_.natAbs : Int) ≤ 3 := by unfold Bd at by3; omega
    have : (x.natAbs : Int) * by_.natAbs ≤ x.natAbs * 3 := Int.mul_le_mul_of_nonneg_left h3 (by omega)
    omega
  · have := lo9.mul by3
    unfold Bd at this
    show (lo * by_).natAbs ≤ 30
    omega
abbrev s_Lshares : Stmt := top 75
abbrev N_Lshares : List Str := ["_law_purse_here", "_law_many_here", "_law_most", "_law_found", "_law_k"]
abbrev P_Lshares : List Str := ["_law_purse_here", "_law_many_here", "_law_most"]
theorem sc_Lshares : FnScope N_Lshares ["_law_purse_here", "_law_many_here", "_law_most"] (defScope s_Lshares) := ⟨rfl, rfl, rfl, by decide +kernel, rfl, by decide +kernel, by decide +kernel⟩

theorem ok_Lshares (T : Txt K mg c) {f : Addr} {fd : FuncData} (F : L2.Fun K "_law_shares" "_law_shares" s_Lshares f fd) (h_Ldraw : Cal P w K mg base 2 "_law_draw" (spP W_Ldraw) []) (h_Lfraction : Cal P w K mg base 4 "_law_fraction" (spP W_Lfraction) []) : FnOk P w K mg base CX0 5 f fd P_Lshares (spP W_Lshares) := by
  refine okP F sc_Lshares (by decide) (fun m ds C ⟨_, _, e, _⟩ => by rw [e]; rfl) fun cdv A outer s H E hr => ⟨_, (pss_cons (ps_set (i := 3) sc_Lshares.nd rfl (by first | exact Or.inl rfl | exact Or.inr rfl) (pe_lst pa_nil))
      (pss_cons (ps_for PassesOwn.never rfl (pi_range1 rfl T.z_range (pa_cons (pv 1) pa_nil)) (pg_name (i := 4) sc_Lshares.nd rfl (by first | exact Or.inl rfl | exact Or.inr rfl)) (pss_one (ps_expr (pe_bm PySem.F.plainAttrs_list PySem.F.slot_list_append PySem.F.type_list_append mt_append (pv 3) (pa_cons (pe_ix ix_list (pe_lst (pa_cons (pe_c h_Lfraction hr (by decide) rfl (pa_cons (pv 0) (pa_cons (pv 2) pa_nil))) (pa_cons (pe_tup (pa_cons pe_int (pa_cons pe_int pa_nil))) pa_nil))) (pe_callTy call_int1 (by rfl) T.z_int (by decide +kernel) (pa_cons (pe_cmpR op_eq (pe_c h_Ldraw hr (by decide) rfl (pa_cons (pv 0) (pa_cons pe_int pa_nil))) pe_int (nomark _)) pa_nil)) (fun _ _ => rfl)) pa_nil)))))
      (pss_one (ps_ret (pv 3))))), fun z m ds C ⟨k, n, e, hk, n1, n2, hm, q⟩ => ?_⟩
  subst e
  (repeat' (first | refine XS.seq ?_ | refine XS.setO (i := 3) ?_ | refine XN.lst ?_ | refine XA.nil ?_ | refine go_len rfl ?_))
  refine XS.for (XI.rng1 ?_)
  (repeat' (first | refine XE.var rfl ?_ | refine XA.nil ?_ | refine XA.cons ?_ | refine go_rg1 ?_ ?_))
  · omega
  have el : (rngD 0 (Int.toNat (k : Int))).length = k := by unfold rngD; rw [List.length_map, List.length_range]; omega
  refine ⟨fun i g m' => ∃ (qs : List (Int × Int)) (s5 : Sl), g = [.pu, .dt (.int (k : Int)), .dt (.int n), .ow (qs.map qD), s5] ∧ qs.length = i ∧ FQ n qs ∧ m' = m + 140 * i, ⟨[], _, rfl, rfl, (fun _ h => nomatch h), rfl⟩, fun i d g2 m2 hi ⟨qs, s5, e1, e2, fq, e3⟩ => ?_, fun g2 m2 ⟨qs, s5, e1, e2, fq, e3⟩ => ?_⟩
  · subst e1 e3
    have il : i < k := by rw [← el]; exact (List.getElem?_eq_some_iff.mp hi).1
    (repeat' (first | refine XS.app rfl (i := 3) rfl ?_ | refine XE.var rfl ?_ | refine XE.op dr_ixL ?_ | refine XE.ofN (XN.lst ?_) | refine XE.callP rfl ?_ | refine XA.nil ?_ | refine XA.cons ?_ | refine XG.name rfl ?_))
    refine ⟨n, rfl, n1, n2, by omega, fun y y0 y1 y2 => ?_⟩
    (repeat' (first | refine XE.int ?_ | refine XE.op dr_eq ?_ | refine XE.tup ?_ | refine XE.cb db_int1 ?_ | refine XE.callP rfl ?_ | refine XA.nil ?_ | refine XA.cons ?_ | refine go_len rfl ?_))
    refine ⟨3, rfl, by decide, by decide, by omega, fun z1 a0 a1 => ?_⟩
    (repeat' (first | refine XE.int ?_ | refine XA.nil ?_ | refine go_eq rfl rfl rfl ?_))
    refine .inr ⟨_, rfl, ?_⟩
    have fin : ∀ p : Int × Int, p.2 ≠ 0 → (p.1.natAbs : Int) ≤ 3 * (n + 12) → p.2.natAbs ≤ 30 → (∃ (qs' : List (Int × Int)) (s5 : Sl), [Sl.pu, .dt (.int (k : Int)), .dt (.int n), .ow (qs.map qD ++ [qD p]), .dt d] = [.pu, .dt (.int (k : Int)), .dt (.int n), .ow (qs'.map qD), s5] ∧ qs'.length = i + 1 ∧ FQ n qs' ∧ m + 140 * i + 120 + 20 = m + 140 * (i + 1)) := fun p p0 p1 p2 => ⟨qs ++ [p], _, by rw [List.map_append]; rfl, by rw [List.length_append, e2]; rfl, fun q hq => by
      rcases List.mem_append.mp hq with hq | hq
      · exact fq q hq
      · rw [List.mem_singleton.mp hq]; exact ⟨p0, p1, p2⟩, by omega⟩
    by_cases e0 : z1 = 0
    · rw [show eqS (.int z1) (.int 0) = true from decide_eq_true e0]
      refine go_ix (j := 1) (x := qD (0, 1)) rfl ?_
      (repeat' (first | refine XA.nil ?_ | refine go_app ?_ ?_))
      · rw [List.length_map]; omega
      exact fin (0, 1) (by decide) (by show (0 : Int) ≤ _; omega) (by decide)
    · rw [show eqS (.int z1) (.int 0) = false from decide_eq_false e0]
      refine go_ix (j := 0) (x := qD y) rfl ?_
      (repeat' (first | refine XA.nil ?_ | refine go_app ?_ ?_))
      · rw [List.length_map]; omega
      exact fin y y0 y1 y2
  · subst e1 e3
    rw [el] at e2
    (repeat' (first | refine XS.retO (i := 3) rfl ?_))
    rw [el]
    exact q qs e2 fq
abbrev s_Llow : Stmt := top 76
abbrev N_Llow : List Str := ["_law_quota", "_law_hi", "_law_lo"]
abbrev P_Llow : List Str := ["_law_quota"]
theorem sc_Llow : FnScope N_Llow ["_law_quota"] (defScope s_Llow) := ⟨rfl, rfl, rfl, by decide +kernel, rfl, by decide +kernel, by decide +kernel⟩

theorem ok_Llow (T : Txt K mg c) {f : Addr} {fd : FuncData} (F : L2.Fun K "_law_low" "_law_low" s_Llow f fd) (h_Lmade : Cal P w K mg base 1 "_law_made" (spD W_lowest) []) : FnOk P w K mg base CX0 2 f fd P_Llow (spD W_Llow) := by
  refine okD F sc_Llow (fun ds C ⟨_, e, _⟩ => by rw [e]; rfl) fun cdv A outer s H E hr => ⟨_, (pss_one (ps_ret (pe_lc (own := [("_law_hi", 1), ("_law_lo", 2)]) (g := gTup K 2 (gCons (gName 1) (gCons (gName 2) gNil))) (by rfl) sc_Llow.nd (pi_list (pv 0)) (blkOk_by (own := [("_law_hi", 1), ("_law_lo", 2)]) (N := N_Llow) (sc := defScope s_Llow) (by decide +kernel)) (fun _ _ _ _ _ => (pg_tup rfl (pgs_cons (pg_name (i := 1) sc_Llow.nd rfl (by first | exact Or.inl rfl | exact Or.inr rfl)) (pgs_cons (pg_name (i := 2) sc_Llow.nd rfl (by first | exact Or.inl rfl | exact Or.inr rfl)) pgs_nil)))) (fun _ _ _ _ _ => pts_nil) (fun _ _ _ _ _ => (pe_c h_Lmade hr (by decide) rfl (pa_cons (pv 1) (pa_cons (pv 2) pa_nil))))))), fun z ds C ⟨qs, e, hl, sz, q⟩ => ?_⟩
  subst e
  refine XS.ret (XE.ofN (XN.to (XI.list ?_)))
  (repeat' (first | refine XE.var rfl ?_ | refine go_lst ?_))
  refine ⟨(qs.map qR).map frD, by simp, by rw [List.length_map]; omega, fun i d o hi ho => ?_, q⟩
  obtain ⟨x, hx, rfl⟩ := map_get hi
  have ho2 : o = frD (qR x) := by
    rw [List.getElem?_map, List.getElem?_map, hx] at ho
    exact (Option.some.inj ho).symm
  subst ho2
  have hz := sz x (List.mem_of_getElem? hx)
  (repeat' (first | refine XE.var rfl ?_ | refine XE.call ?_ | refine XA.nil ?_ | refine XA.cons ?_ | refine XGs.cons ?_ | refine XGs.nil ?_ | refine XG.name rfl ?_ | refine XG.tupG rfl ?_))
  exact ⟨x.1, x.2, rfl, hz.1, hz.2, rfl, rfl⟩
end
end My

namespace My
open PySem PySem.Spec PyProof.Rows L2
theorem rel10 {vs : List V} {us : List Value} {zs : List V} {ws : List Value} (h1 : vs.length = 1) (h2 : zs.length = 0) (r1 : Vals vs us) (r2 : Vals zs ws) : Vals (pickV [.p 0] vs zs) (us ++ ws) := by
  cases r1 with
  | nil => cases h1
  | cons a t => cases t with
    | nil => cases r2 with
      | nil => exact .cons a .nil
      | cons _ _ => cases h2
    | cons _ _ => simp at h1
theorem rel20 {vs : List V} {us : List Value} {zs : List V} {ws : List Value} (h1 : vs.length = 2) (h2 : zs.length = 0) (r1 : Vals vs us) (r2 : Vals zs ws) : Vals (pickV [.p 0, .p 1] vs zs) (us ++ ws) := by
  cases r1 with
  | nil => cases h1
  | cons a t => cases t with
    | nil => simp at h1
    | cons b t => cases t with
      | nil => cases r2 with
        | nil => exact .cons a (.cons b .nil)
        | cons _ _ => cases h2
      | cons _ _ => simp at h1
theorem rel11 {vs : List V} {us : List Value} {zs : List V} {ws : List Value} (h1 : vs.length = 1) (h2 : zs.length = 1) (r1 : Vals vs us) (r2 : Vals zs ws) : Vals (pickV [.p 0, .k 0] vs zs) (us ++ ws) := by
  cases r1 with
  | nil => cases h1
  | cons a t => cases t with
    | nil => cases r2 with
      | nil => cases h2
      | cons b t => cases t with
        | nil => exact .cons a (.cons b .nil)
        | cons _ _ => simp at h2
    | cons _ _ => simp at h1
end My

namespace My
open PySem PySem.Spec PyProof.Rows L2
open C8 (Cal pe_c pe_gc InsC call_isC)
section

variable {c : Cs} {P : Program} {w : World} {K : PySem.W.Frag} {mg : Str → Option Value} {base : Heap}
abbrev s_Lwhole : Stmt := top 71
abbrev N_Lwhole : List Str := ["_law_found"]
abbrev P_Lwhole : List Str := ["_law_found"]
theorem sc_Lwhole : FnScope N_Lwhole ["_law_found"] (defScope s_Lwhole) := ⟨rfl, rfl, rfl, by decide +kernel, rfl, by decide +kernel, by decide +kernel⟩

theorem ok_Lwhole (T : Txt K mg c) {f : Addr} {fd : FuncData} (F : L2.Fun K "_law_whole" "_law_whole" s_Lwhole f fd) : FnOk P w K mg base CX0 1 f fd P_Lwhole (spD W_Lwhole) := by
  refine okD F sc_Lwhole (fun ds C ⟨_, e, _⟩ => by rw [e]; rfl) fun cdv A outer s H E hr => ⟨_, (pss_one (ps_ret (pe_and (pe_callB call_isi (by rfl) T.z_isinstance (by decide +kernel) (pa_cons (pv 0) (pa_cons (pe_bltn (v := .ty "int") (by rfl) T.z_int (by decide +kernel) rfl) pa_nil))) (pe_one (pe_not (pe_callB call_isi (by rfl) T.z_isinstance (by decide +kernel) (pa_cons (pv 0) (pa_cons (pe_bltn (v := .ty "bool") (by rfl) T.z_bool (by decide +kernel) rfl) pa_nil)))))))), fun z ds C ⟨n, e, q⟩ => ?_⟩
  subst e
  (repeat' (first | refine XS.ret ?_ | refine XE.var rfl ?_ | refine XE.andV ?_ | refine XE.notV ?_ | refine XE.isTy ?_ | refine go_isTy rfl (by first | exact kb_int_int | exact kb_int_bool | exact kb_bool_int | exact kb_bool_bool | exact kb_str_str | exact kb_list_list | exact kb_tuple_tuple | exact kb_tuple_list | exact kb_list_tuple | exact kb_NoneType_list | exact kb_NoneType_int | exact kb_str_int | exact kb_int_list | exact kb_int_tuple | exact kb_NoneType_tuple | exact kb_list_int | exact kb_tuple_int | exact kb_str_bool) ?_ | refine go_bl ?_))
  exact q
end
end My

namespace My
open PySem PySem.Spec PyProof.Rows L2
/-! ### products go either way about; bounds for a law's numbers -/
theorem tm_comm : ∀ {rr : RR}, OkR rr → ∀ {x y : List Rat}, x.length = manyR rr → y.length = manyR rr → tm rr x y = tm rr y x
  | _, .nil, x, y, _, _ => by
    show [x.getD 0 0 * y.getD 0 0] = [y.getD 0 0 * x.getD 0 0]
    rw [Rat.mul_comm]
  | _, .two (p := p) (r := r) hp _ o, x, y, hx, hy => by
    have hx' : x.length = 2 * manyR r := hx
    have hy' : y.length = 2 * manyR r := hy
    have t1 : (x.take (manyR r)).length = manyR r := by rw [List.length_take]; omega
    have t2 : (y.take (manyR r)).length = manyR r := by rw [List.length_take]; omega
    have u1 : (x.drop (manyR r)).length = manyR r := by rw [List.length_drop]; omega
    have u2 : (y.drop (manyR r)).length = manyR r := by rw [List.length_drop]; omega
    show tm ((2, p) :: r) x y = tm ((2, p) :: r) y x
    unfold tm
    rw [if_pos rfl, if_pos rfl]
    show vadd (tm r (x.take (manyR r)) (y.take (manyR r))) (tm r (tm r (x.drop (manyR r)) (y.drop (manyR r))) p) ++ vadd (tm r (x.take (manyR r)) (y.drop (manyR r))) (tm r (x.drop (manyR r)) (y.take (manyR r))) = vadd (tm r (y.take (manyR r)) (x.take (manyR r))) (tm r (tm r (y.drop (manyR r)) (x.drop (manyR r))) p) ++ vadd (tm r (y.take (manyR r)) (x.drop (manyR r))) (tm r (y.drop (manyR r)) (x.take (manyR r)))
    rw [tm_comm o t1 t2, tm_comm o u1 u2, tm_comm o t1 u2, tm_comm o u1 t2, vadd_comm (xs := tm r (y.drop (manyR r)) (x.take (manyR r)))]
  | _, .three (p := p) _ _, x, y, _, _ => by
    show tm3 p x y = tm3 p y x
    unfold tm3
    refine congr (congrArg _ ?_) (congr (congrArg _ ?_) (congr (congrArg _ ?_) rfl)) <;> grind
theorem vscl_len (xs : List Rat) (b : Rat) : (vscl xs b).length = xs.length := List.length_map _
theorem vscl_less : ∀ {xs ys : List Rat}, xs.length = ys.length → vscl (vadd xs (vscl ys (-1))) (-1) = vadd ys (vscl xs (-1))
  | [], [], _ => rfl
  | [], _ :: _, h => by simp at h
  | _ :: _, [], h => by simp at h
  | x :: xs, y :: ys, h => by
    have ih := vscl_less (xs := xs) (ys := ys) (by simpa using h)
    have e : (x + y * (-1)) * (-1) = y + x * (-1) := by grind
    show (x + y * (-1)) * (-1) :: vscl (vadd xs (vscl ys (-1))) (-1) = (y + x * (-1)) :: vadd ys (vscl xs (-1))
    rw [ih, e]
theorem VB.neg {d N : Nat} {x : Rat} (h : VB d N x) : VB d N (x * (-1)) := by
  obtain ⟨k, e, b⟩ := h
  refine ⟨-k, ?_, by rw [Int.natAbs_neg]; exact b⟩
  rw [Rat.intCast_neg, ← e]
  grind
theorem VBs.neg {d N : Nat} {xs : List Rat} (h : VBs d N xs) : VBs d N (vscl xs (-1)) := fun x hx => by
  obtain ⟨y, hy, rfl⟩ := List.mem_map.mp hx
  exact (h y hy).neg
/-- a common bottom of all bottoms to 30 -/
def DD : Nat := 265252859812191058636308480000000
def NN : Nat := 10 ^ 40
theorem dd_dvd : ∀ b : Nat, b < 31 → 0 < b → DD % b = 0 := by decide +kernel
theorem DD_pos : 0 < DD := by decide
theorem NN_pos : 0 < NN := by decide +kernel
theorem VB_dd {q : Int × Int} (h0 : q.2 ≠ 0) (h2 : q.2.natAbs ≤ 30) (h1 : q.1.natAbs ≤ 10 ^ 7) : VB DD NN (qR q) := by
  have hb : 0 < q.2.natAbs := Int.natAbs_pos.mpr h0
  obtain ⟨e, he⟩ := Nat.dvd_of_mod_eq_zero (dd_dvd q.2.natAbs (by omega) hb)
  have e1 : (DD : Int) = q.2 * (q.2.sign * (e : Int)) := by
    rw [← Int.mul_assoc, Int.mul_sign_self, ← Int.natCast_mul, ← he]
  have hq : ((q.2 : Int) : Rat) ≠ 0 := by
    intro z
    have : ((q.2 : Int) : Rat) = ((0 : Int) : Rat) := z
    exact h0 (Rat.intCast_inj.mp this)
  refine ⟨q.1 * (q.2.sign * e), ?_, ?_⟩
  · have e2 : (((DD : Nat) : Int) : Rat) = (q.2 : Rat) * ((q.2.sign * (e : Int) : Int) : Rat) := by rw [e1, Rat.intCast_mul]
    rw [e2, Rat.intCast_mul, qR, Rat.divInt_eq_div]
    grind
  · rw [Int.natAbs_mul, Int.natAbs_mul, Int.natAbs_natCast]
    have s1 : q.2.sign.natAbs ≤ 1 := by
      rw [Int.natAbs_sign]
      split <;> omega
    have e3 : e ≤ DD := by rw [he]; exact Nat.le_mul_of_pos_left _ hb
    have : q.1.natAbs * (q.2.sign.natAbs * e) ≤ 10 ^ 7 * (1 * DD) := Nat.mul_le_mul h1 (Nat.mul_le_mul s1 e3)
    exact Nat.le_trans this (by decide +kernel)
theorem Qr_le {rr : RR} (h : rr.length ≤ 3) : Qr rr ≤ 16384 := by
  rcases rr with _ | ⟨a, _ | ⟨b, _ | ⟨c, _ | ⟨d, r⟩⟩⟩⟩
  · exact (by decide : Qr [] ≤ 16384)
  · exact (by decide : Qr [(0, [])] ≤ 16384)
  · exact (by decide : Qr [(0, []), (0, [])] ≤ 16384)
  · exact (by decide : Qr [(0, []), (0, []), (0, [])] ≤ 16384)
  · simp at h
theorem Cr_le {rr : RR} (h : rr.length ≤ 3) : Cr rr ≤ 2 ^ 950 := by
  rcases rr with _ | ⟨a, _ | ⟨b, _ | ⟨c, _ | ⟨d, r⟩⟩⟩⟩
  · exact (by decide +kernel : Cr [] ≤ 2 ^ 950)
  · exact (by decide +kernel : Cr [(0, [])] ≤ 2 ^ 950)
  · exact (by decide +kernel : Cr [(0, []), (0, [])] ≤ 2 ^ 950)
  · exact (by decide +kernel : Cr [(0, []), (0, []), (0, [])] ≤ 2 ^ 950)
  · simp at h
theorem q_bound : DD * DD * 16384 < 2 ^ 3999 := by decide +kernel
theorem c_bound : NN * NN * 2 ^ 950 < 2 ^ 3999 := by decide +kernel
theorem dd_b : DD < 2 ^ 4000 := by decide +kernel
theorem nn_b : 2 * NN < 2 ^ 4000 := by decide +kernel
theorem VBs.sms {N : Nat} {xs : List Rat} (h : VBs DD N xs) (l : N ≤ 2 * NN) : Sms xs := fun x hx => (h x hx).sm DD_pos dd_b (Nat.lt_of_le_of_lt l nn_b)
/-- drawn numbers of a house -/
structure Nums (ns : List Int) (xs : List Rat) : Prop where
  len : xs.length = manyH ns
  vb : VBs DD NN xs
theorem Nums.tm {ns : List Int} {xs ys : List Rat} (G : GoodP ns) (h : Nums ns xs) (k : Nums ns ys) : TmOk ns xs ys := by
  have hl : (rrOf (rowsZ ns)).length ≤ 3 := by rw [rrOf, List.length_reverse, List.length_map]; exact (rowsZ_hs G).l
  exact ⟨h.len, k.len, DD, NN, DD, NN, h.vb, k.vb, Nat.mul_pos DD_pos DD_pos, Nat.mul_pos NN_pos NN_pos, Nat.lt_of_le_of_lt (Nat.mul_le_mul_left _ (Qr_le hl)) q_bound, Nat.lt_of_le_of_lt (Nat.mul_le_mul_left _ (Cr_le hl)) c_bound⟩
theorem tm_len2 {ns : List Int} (G : GoodP ns) {xs ys : List Rat} (h : Nums ns xs) (k : Nums ns ys) : (My.tm (rrOf (rowsZ ns)) xs ys).length = manyH ns := by
  rw [tm_len (rowsZ_hs G).ok (by rw [manyH_R]; exact h.len) (by rw [manyH_R]; exact k.len), manyH_R]
theorem tm_comm2 {ns : List Int} (G : GoodP ns) {xs ys : List Rat} (h : Nums ns xs) (k : Nums ns ys) : My.tm (rrOf (rowsZ ns)) xs ys = My.tm (rrOf (rowsZ ns)) ys xs :=
  My.tm_comm (rowsZ_hs G).ok (by rw [manyH_R]; exact h.len) (by rw [manyH_R]; exact k.len)
end My

namespace My
open PySem PySem.Spec PyProof.Rows L2
open C8 (Cal pe_c pe_gc InsC call_isC)
/-! ### a law's loop over cells: from the hand layer into the layer of data -/
def spLaw (K : PySem.W.Frag) : Sp := fun vs H Q _ => ∃ (a : Addr) (ns : List Int), vs = [.ref a] ∧ SqL K H a (ns.map V.int) ∧ ns.length ≤ 63 ∧ ∀ H', Q (.bl true) H'
theorem Le.frz {H H' : Hp} (a : Le H H') {p : Addr} {o : Obj} {u : HO} (h : H p = some (.frz o u)) : H' p = some (.frz o u) := by
  rcases a p _ h with h | ⟨_, _, _, _, e, _⟩
  · exact h
  · cases e
theorem SqL.le {K : PySem.W.Frag} {H H' : Hp} {a : Addr} {xs : List V} (h : SqL K H a xs) (l : Le H H') : SqL K H' a xs := by
  rcases h with (h | ⟨o, h⟩) | h
  · exact .inl (.inl (l.lst h))
  · exact .inl (.inr ⟨o, l.frz h⟩)
  · exact .inr h
/-- what was made anew is left -/
theorem Le.back {H H1 H' : Hp} {p : Addr} (s : Same H H1) (l : LeX [p] H1 H') (n : H p = none) : Le H H' := fun b o hb =>
  l b o (by rw [List.mem_singleton]; intro e; subst e; rw [n] at hb; cases hb) (s b o hb)
theorem XS.enter {z : Cz} {O : List Addr} {g : List Sl} {m : Nat} {σ : L2.St} {H : Hp} {t : TS} {D : Ends} {E : DE} (R : Real z O g m σ H) (k : DK z O H E D) (h : XS z t g m E) : t D σ H := h O σ H R D k
/-- the state of a law's turn: the script, the cell, the purse -/
theorem real_turn {a p : Addr} {i m : Nat} {os : List (Option V)} {H : Hp} (hp : Pur H p m) :
    Real ⟨[p], [p], H⟩ [p] ([.raw (.ref a), .dt (.int (i : Int)), .pu] ++ os.map fun _ => Sl.un) m ([some (.ref a), some (.int (i : Int)), some (.ref p)] ++ os) H where
  dom := fun q h => by rw [List.mem_singleton.mp h]; exact hp.at
  sub := fun _ h => h
  new := fun _ h => .inl h
  pg := fun _ h => h
  pur := fun b hb => by rw [List.mem_singleton.mp hb]; exact hp
  le := LeX.refl _ _
  len := by simp
  sl := fun j x h => by
    rcases j with _ | _ | _ | j
    · cases (Option.some.inj h : _ = x); exact rfl
    · cases (Option.some.inj h : _ = x); exact ⟨_, rfl, .int _⟩
    · cases (Option.some.inj h : _ = x); exact ⟨p, rfl, rfl⟩
    · have h2 : (os.map fun _ => Sl.un)[j]? = some x := h
      rw [List.getElem?_map] at h2
      cases e : os[j]? with
      | none => rw [e] at h2; cases h2
      | some o => rw [e] at h2; cases h2; trivial
  inj := fun j k q ds es h => by
    rcases j with _ | _ | _ | j
    · cases (Option.some.inj h : Sl.raw _ = Sl.ow ds)
    · cases (Option.some.inj h : Sl.dt _ = Sl.ow ds)
    · cases (Option.some.inj h : Sl.pu = Sl.ow ds)
    · have h2 : (os.map fun _ => Sl.un)[j]? = some (.ow ds) := h
      rw [List.getElem?_map] at h2
      cases e : os[j]? with
      | none => rw [e] at h2; cases h2
      | some o => rw [e] at h2; cases h2
theorem st_of {a : Addr} {σ : L2.St} {n : Nat} (h : σ.length = n + 3) (h0 : σ[0]? = some (some (.ref a))) : ∃ (o1 o2 : Option V) (os : List (Option V)), σ = [some (.ref a), o1, o2] ++ os ∧ os.length = n := by
  rcases σ with _ | ⟨x, _ | ⟨y, _ | ⟨z, os⟩⟩⟩
  · simp at h
  · simp at h
  · simp at h
  · have : x = some (.ref a) := Option.some.inj h0
    subst this
    exact ⟨y, z, os, rfl, by simpa using h⟩
theorem manyR_pos : ∀ {rr : RR}, OkR rr → 1 ≤ manyR rr
  | _, .nil => Nat.le_refl _
  | _, .two (r := r) _ _ o => by
    have := manyR_pos o
    show 1 ≤ 2 * manyR r
    omega
  | _, .three _ _ => (by decide : 1 ≤ 3 * 1)
theorem manyH_pos {ns : List Int} (G : GoodP ns) : 1 ≤ manyH ns := by
  rw [← manyH_R]
  exact manyR_pos (rowsZ_hs G).ok
/-- one product of letters -/
def unit (n j : Nat) : List Rat := (List.range n).map fun k => if k = j then 1 else 0
theorem unit_len (n j : Nat) : (unit n j).length = n := by simp [unit]
theorem Nums.unit {ns : List Int} (j : Nat) : Nums ns (My.unit (manyH ns) j) := ⟨unit_len _ _, fun x hx => by
  obtain ⟨k, hk, rfl⟩ := List.mem_map.mp hx
  show VB DD NN (if k = j then 1 else 0)
  split
  · have := VB_dd (q := (1, 1)) (by decide) (by decide) (by decide)
    rwa [show qR (1, 1) = 1 from rfl] at this
  · exact VB.zero⟩
theorem Nums.zero {ns : List Int} : Nums ns (vz (manyH ns)) := ⟨vz_len _, VBs.vz⟩
theorem Nums.of {ns : List Int} {qs : List (Int × Int)} (l : qs.length = manyH ns) (h : ∀ q ∈ qs, q.2 ≠ 0 ∧ q.1.natAbs ≤ 10 ^ 7 ∧ q.2.natAbs ≤ 30) : Nums ns (qs.map qR) := ⟨by rw [List.length_map]; exact l, fun x hx => by
  obtain ⟨q, hq, rfl⟩ := List.mem_map.mp hx
  obtain ⟨h0, h1, h2⟩ := h q hq
  exact VB_dd h0 h2 h1⟩
theorem Nums.scl {ns : List Int} {j : Nat} {b : Rat} (hb : VB DD NN b) : Nums ns (vscl (My.unit (manyH ns) j) b) := ⟨by rw [vscl_len, unit_len], fun x hx => by
  obtain ⟨y, hy, rfl⟩ := List.mem_map.mp hx
  obtain ⟨k, hk, rfl⟩ := List.mem_map.mp hy
  show VB DD NN ((if k = j then 1 else 0) * b)
  split
  · rw [Rat.one_mul]; exact hb
  · rw [Rat.zero_mul]; exact VB.zero⟩
theorem atI_last' {α : Type} {l : List α} (h : 0 < l.length) : ∃ x, x ∈ l ∧ atI l (-1) = some x := by
  have e : ixN l.length (-1) = some (l.length - 1) := by
    unfold ixN
    rw [if_neg (by decide), if_pos (by omega)]
    congr 1
    omega
  exact ⟨l[l.length - 1], List.getElem_mem _, by unfold atI; rw [e]; exact List.getElem?_eq_getElem (by omega)⟩
theorem atI_map' {α β : Type} {f : α → β} {l : List α} {i : Int} {x : α} (h : atI l i = some x) : atI (l.map f) i = some (f x) := by
  unfold atI at *
  rw [List.length_map]
  cases e : ixN l.length i with
  | none => rw [e] at h; cases h
  | some j =>
    rw [e] at h
    have h' : l[j]? = some x := h
    show (l.map f)[j]? = _
    rw [List.getElem?_map, h']; rfl
theorem atI_before {α : Type} {l : List α} {k : Nat} (h : k < l.length) : ∃ x, x ∈ l ∧ atI l ((k : Int) - 1) = some x := by
  rcases k with _ | k
  · exact atI_last' h
  · refine ⟨l[k], List.getElem_mem _, ?_⟩
    rw [show (((k + 1 : Nat) : Int) - 1) = (k : Int) by omega]
    exact atI_nat (List.getElem?_eq_getElem (by omega))
theorem law_body {K : PySem.W.Frag} {n N : Nat} (hn : n ≤ 100) {rest : TS} {a : Addr} {ns : List Int} {Ex : XK} {H : Hp} {σ0 : L2.St} {X : L2.St → Hp → Prop} {Q : VK} (hS : SqL K H a (ns.map V.int)) (hσ : σ0.length = N + 3) (h0 : σ0[0]? = some (some (.ref a)))
    (hb : ∀ (i : Nat) (z : Cz), i < n → XS z rest ([.raw (.ref a), .dt (.int (i : Int)), .pu] ++ List.replicate N .un) (1000 * i) { nx := fun g _ => g[0]? = some (.raw (.ref a)) ∧ g.length = N + 3, rt := fun _ _ => False }) (k : ∀ H', Q (.bl true) H') :
    (tSeq (tFor (iRng1 (tCons (tC (.int (n : Int))) tNil)) (gName 1) (tSeq (tAsg (tCall (sp_Lpurse K) [] Ex (tCons (tVar 0) (tCons (tVar 1) tNil))) (gName 2)) rest)) (tRet (tC (.bl true)))) { nx := X, rt := Q } σ0 H := by
  refine ⟨(n : Int), rfl, by omega, by omega, for_range (lo := 0) (n := (n : Int).toNat) (fun i σ H' => σ.length = N + 3 ∧ σ[0]? = some (some (.ref a)) ∧ Le H H') ⟨hσ, h0, Le.refl H⟩ ?_ ?_⟩
  · rintro i σ H0 hi ⟨hl, h0, s0⟩
    have hi : i < n := by omega
    obtain ⟨o1, o2, os, rfl, lo⟩ := st_of hl h0
    refine ⟨_, rfl, _, rfl, a, ns, i, by rw [Int.zero_add]; rfl, SqL.le hS s0, by omega, fun H1 pu s1 hpu0 hpu => ?_⟩
    have R := real_turn (a := a) (i := i) (os := os) hpu
    have e0 : ((([some (.ref a), o1, o2] ++ os).set 1 (some (.int (0 + (i : Int))))).set 2 (some (.ref pu))) = [some (.ref a), some (.int (i : Int)), some (.ref pu)] ++ os := by rw [Int.zero_add]; rfl
    have eg : (os.map fun _ => Sl.un) = List.replicate N .un := by rw [← lo]; exact List.map_const'
    rw [eg, ← e0] at R
    refine XS.enter (t := rest) (σ := (([some (.ref a), o1, o2] ++ os).set 1 (some (.int (0 + (i : Int))))).set 2 (some (.ref pu))) R ?_ (hb i _ hi)
    have fin : ∀ O' g' m' σ' H', (g'[0]? = some (Sl.raw (.ref a)) ∧ g'.length = N + 3) → Real ⟨[pu], [pu], H1⟩ O' g' m' σ' H' → σ'.length = N + 3 ∧ σ'[0]? = some (some (.ref a)) ∧ Le H H' := fun O' g' m' σ' H' c R' => ⟨by rw [R'.len]; exact c.2, R'.sl 0 _ c.1, s0.trans (Le.back s1 R'.le hpu0)⟩
    exact ⟨fun O' g' m' σ' H' c R' _ => fin O' g' m' σ' H' c R', fun _ _ _ _ _ _ _ c => c.elim, fun _ _ _ _ _ _ _ c => c.elim, fun _ _ _ _ _ c => c.elim, fun _ _ _ _ _ c => c.elim⟩
  · rintro σ H' _
    exact k _
end My

namespace My
open PySem PySem.Spec PyProof.Rows L2
open C8 (Cal pe_c pe_gc)
/-! ### data that is compared -/
def dInts (ns : List Int) : PyData := .list (ns.map PyData.int)
def dFr (q : Int × Int) : PyData := .tuple [.int q.1, .int q.2]
theorem canInts : ∀ ns : List Int, PyData.canLayAll0 (ns.map PyData.int) = true ∧ PyData.depthAll (ns.map PyData.int) ≤ 1
  | [] => ⟨rfl, by decide⟩
  | n :: r => by
    have h := canInts r
    refine ⟨?_, ?_⟩
    · show (PyData.canLay0 (.int n) && PyData.canLayAll0 (r.map PyData.int)) = true
      rw [h.1]; rfl
    · show max (PyData.depth (.int n)) (PyData.depthAll (r.map PyData.int)) ≤ 1
      have : PyData.depth (.int n) ≤ 1 := by unfold PyData.depth; omega
      omega
theorem shInts (ns : List Int) : SeqAt.shaped (dInts ns) = true := by
  unfold SeqAt.shaped dInts
  have h := canInts ns
  have d : PyData.depth (.list (ns.map PyData.int)) ≤ 64 := by
    show PyData.depthAll (ns.map PyData.int) + 1 ≤ 64
    omega
  rw [show PyData.canLay0 (.list (ns.map PyData.int)) = true from h.1, decide_eq_true d]; rfl
theorem dpAllInts {K : PySem.W.Frag} {H : Hp} : ∀ ns : List Int, DpAll K H (ns.map V.int) (ns.map PyData.int)
  | [] => .nil
  | n :: r => .cons (.int n) (dpAllInts r)
theorem dpInts {K : PySem.W.Frag} {H : Hp} {a : Addr} {ns : List Int} (h : SqL K H a (ns.map V.int)) : Dp K H (.ref a) (dInts ns) := .lst h (dpAllInts ns)
theorem dpFr {K : PySem.W.Frag} {H : Hp} {v : V} {q : Int × Int} (h : FrAt K H v q) : Dp K H v (dFr q) := by
  obtain ⟨p, rfl, hp⟩ := h
  exact .tup (SqT.of hp) (.cons (.int _) (.cons (.int _) .nil))
theorem eqInts (ns : List Int) : PyData.eqv (dInts ns) (dInts ns) = true := SeqAt.eqv_refl _ (SeqAt.canLay_of_shaped (shInts ns))
end My

namespace My
open PySem PySem.Spec PyProof.Rows L2
open C8 (Cal pe_c pe_gc)
/-- what the law's class answers of: no error, or one that was caught and kept; j: its sort -/
def Ask (K : PySem.W.Frag) (c : Cs) (H : Hp) (v : V) (j : Option Nat) : Prop := ∃ t, Row K c t j ∧
  ((v = .non ∧ t = .type "NoneType" ∧ j = none) ∨ ∃ a D d i, v = .ref a ∧ t = .ref D ∧ Kept H a D d ∧ ExcC K D ∧ j = some i ∧ i < 14)
theorem Kept.same {H H' : Hp} {a D : Addr} {d : Option Addr} (h : Kept H a D d) (s : Same H H') : Kept H' a D d := by
  obtain ⟨h1, h2⟩ := h
  refine ⟨s _ _ h1, ?_⟩
  rcases h2 with rfl | ⟨dd, fs, rfl, h3⟩
  · exact .inl rfl
  · exact .inr ⟨dd, fs, rfl, s _ _ h3⟩
theorem Ask.same {K : PySem.W.Frag} {c : Cs} {H H' : Hp} {v : V} {j : Option Nat} (h : Ask K c H v j) (s : Same H H') : Ask K c H' v j := by
  obtain ⟨t, r, h | ⟨a, D, d, i, e1, e2, k, x⟩⟩ := h
  · exact ⟨t, r, .inl h⟩
  · exact ⟨t, r, .inr ⟨a, D, d, i, e1, e2, k.same s, x⟩⟩
theorem Ask.is {K : PySem.W.Frag} {c : Cs} {H : Hp} {v : V} {j : Option Nat} {C : Addr} {b : Bool} {Q : VK} (h : Ask K c H v j) (f : ∀ t, Row K c t j → PySem.W.kitOne K t (.ref C) = some b) (q : Q (.bl b) H) : rIsi K [v, .ref C] H Q ∨ rIsK K [v, .ref C] H Q := by
  obtain ⟨t, r, ⟨rfl, rfl, rfl⟩ | ⟨a, D, d, i, rfl, rfl, k, x, rfl, hi⟩⟩ := h
  · exact .inl ⟨_, _, _, _, b, rfl, .own C, .base .non, f _ r, q⟩
  · exact .inr ⟨a, D, d, _, _, b, rfl, k, x, .own C, f _ r, q⟩
/-- what the law's class answers -/
def kindsOf (j : Option Nat) : List Int := match j with | some k => [(k : Int)] | none => []
def kindsTo (j : Option Nat) (i : Nat) : List Int := match j with | some k => if k < i then [(k : Int)] else [] | none => []
theorem kindsTo_all {j : Option Nat} (h : ∀ i, j = some i → i < 14) : kindsTo j 14 = kindsOf j := by
  cases j with
  | none => rfl
  | some k => exact if_pos (h k rfl)
theorem kindsTo_len (j : Option Nat) (i : Nat) : (kindsTo j i).length ≤ 1 := by
  unfold kindsTo
  cases j with
  | none => exact Nat.zero_le _
  | some k =>
    dsimp only
    split
    · exact Nat.le_refl _
    · exact Nat.zero_le _
theorem kindsTo_yes {j : Option Nat} {i : Nat} (h : (j == some i) = true) : kindsTo j (i + 1) = kindsTo j i ++ [(i : Int)] := by
  have e : j = some i := eq_of_beq h
  subst e
  show (if i < i + 1 then [(i : Int)] else []) = (if i < i then [(i : Int)] else []) ++ [(i : Int)]
  rw [if_pos (by omega), if_neg (by omega)]; rfl
theorem kindsTo_no {j : Option Nat} {i : Nat} (h : (j == some i) = false) : kindsTo j (i + 1) = kindsTo j i := by
  cases j with
  | none => rfl
  | some k =>
    have ne : k ≠ i := fun z => by rw [z] at h; simp at h
    show (if k < i + 1 then [(k : Int)] else []) = (if k < i then [(k : Int)] else [])
    by_cases l : k < i
    · rw [if_pos l, if_pos (by omega)]
    · rw [if_neg l, if_neg (by omega)]
def flagsV (j : Option Nat) : List V := [.bl (j == some 0), .bl (j == some 1), .bl (j == some 2), .bl (j == some 3), .bl (j == some 4), .bl (j == some 5), .bl (j == some 6), .bl (j == some 7), .bl (j == some 8), .bl (j == some 9), .bl (j == some 10), .bl (j == some 11), .bl (j == some 12), .bl (j == some 13)]
theorem flags_at {j : Option Nat} {i : Nat} (h : i < 14) : (flagsV j)[i]? = some (.bl (j == some i)) := by
  match i, h with
  | 0, _ | 1, _ | 2, _ | 3, _ | 4, _ | 5, _ | 6, _ | 7, _ | 8, _ | 9, _ | 10, _ | 11, _ | 12, _ | 13, _ => rfl
theorem Ask.lt {K : PySem.W.Frag} {c : Cs} {H : Hp} {v : V} {j : Option Nat} (h : Ask K c H v j) : ∀ i, j = some i → i < 14 := by
  obtain ⟨t, r, ⟨_, _, e⟩ | ⟨a, D, d, i, _, _, k, x, e, hi⟩⟩ := h
  · intro i z; rw [e] at z; cases z
  · intro i' z; rw [e] at z; cases z; exact hi
theorem Ask.non {K : PySem.W.Frag} {c : Cs} {H : Hp} {v : V} {j : Option Nat} (h : Ask K c H v j) : (v = .non ∧ j = none) ∨ (v ≠ .non ∧ ∃ i, j = some i) := by
  obtain ⟨t, r, ⟨e, _, e2⟩ | ⟨a, D, d, i, e, _, k, x, e2, hi⟩⟩ := h
  · exact .inl ⟨e, e2⟩
  · exact .inr ⟨(by rw [e]; exact fun z => nomatch z), i, e2⟩
section
variable {c : Cs} {P : Program} {w : World} {K : PySem.W.Frag} {mg : Str → Option Value} {base : Heap}
abbrev s_Lclass : Stmt := top 77
abbrev N_Lclass : List Str := ["_law_e", "_law_found", "_law_kinds", "_law_k"]
abbrev P_Lclass : List Str := ["_law_e"]
theorem sc_Lclass : FnScope N_Lclass ["_law_e"] (defScope s_Lclass) := ⟨rfl, rfl, rfl, by decide +kernel, rfl, by decide +kernel, by decide +kernel⟩

def sp_Lclass (K : PySem.W.Frag) (c : Cs) : Sp := fun vs H Q _ => ∃ (v : V) (j : Option Nat), vs = [v] ∧ Ask K c H v j ∧ ∀ H' p, Same H H' → H' p = some (.lst ((kindsOf j).map V.int)) → H p = none → Q (.ref p) H'
theorem ok_Lclass (T : Txt K mg c) {f : Addr} {fd : FuncData} (F : L2.Fun K "_law_class" "_law_class" s_Lclass f fd) : FnOk P w K mg base CX0 1 f fd P_Lclass (sp_Lclass K c) := by
  refine F.ok sc_Lclass (fun vs H Q E h => ?_) (fun cdv A outer s H vs Q E hr h => ?_)
  · obtain ⟨v, j, rfl, _⟩ := h
    rfl
  · obtain ⟨v, j, rfl, A0, k⟩ := h
    refine ⟨_, (pss_cons (ps_set (i := 1) sc_Lclass.nd rfl (by first | exact Or.inl rfl | exact Or.inr rfl) (pe_lst (pa_cons (pe_callB call_isA (by rfl) T.z_isinstance (by decide +kernel) (pa_cons (pv 0) (pa_cons (pe_gc (v := .ref c.NoPoly) rfl ⟨_, T.g_NoPoly, rfl⟩) pa_nil))) (pa_cons (pe_callB call_isA (by rfl) T.z_isinstance (by decide +kernel) (pa_cons (pv 0) (pa_cons (pe_gc (v := .ref c.NoHouse) rfl ⟨_, T.g_NoHouse, rfl⟩) pa_nil))) (pa_cons (pe_callB call_isA (by rfl) T.z_isinstance (by decide +kernel) (pa_cons (pv 0) (pa_cons (pe_gc (v := .ref c.NoLetter) rfl ⟨_, T.g_NoLetter, rfl⟩) pa_nil))) (pa_cons (pe_callB call_isA (by rfl) T.z_isinstance (by decide +kernel) (pa_cons (pv 0) (pa_cons (pe_gc (v := .ref c.NoCount) rfl ⟨_, T.g_NoCount, rfl⟩) pa_nil))) pa_nil))))))
      (pss_cons (ps_set (i := 1) sc_Lclass.nd rfl (by first | exact Or.inl rfl | exact Or.inr rfl) (pe_op op_cat (pv 1) (pe_lst (pa_cons (pe_callB call_isA (by rfl) T.z_isinstance (by decide +kernel) (pa_cons (pv 0) (pa_cons (pe_gc (v := .ref c.NoMove) rfl ⟨_, T.g_NoMove, rfl⟩) pa_nil))) (pa_cons (pe_callB call_isA (by rfl) T.z_isinstance (by decide +kernel) (pa_cons (pv 0) (pa_cons (pe_gc (v := .ref c.NoWord) rfl ⟨_, T.g_NoWord, rfl⟩) pa_nil))) (pa_cons (pe_callB call_isA (by rfl) T.z_isinstance (by decide +kernel) (pa_cons (pv 0) (pa_cons (pe_gc (v := .ref c.Full) rfl ⟨_, T.g_Full, rfl⟩) pa_nil))) (pa_cons (pe_callB call_isA (by rfl) T.z_isinstance (by decide +kernel) (pa_cons (pv 0) (pa_cons (pe_gc (v := .ref c.NoDeed) rfl ⟨_, T.g_NoDeed, rfl⟩) pa_nil))) pa_nil)))))))
      (pss_cons (ps_set (i := 1) sc_Lclass.nd rfl (by first | exact Or.inl rfl | exact Or.inr rfl) (pe_op op_cat (pv 1) (pe_lst (pa_cons (pe_callB call_isA (by rfl) T.z_isinstance (by decide +kernel) (pa_cons (pv 0) (pa_cons (pe_gc (v := .ref c.NoText) rfl ⟨_, T.g_NoText, rfl⟩) pa_nil))) (pa_cons (pe_callB call_isA (by rfl) T.z_isinstance (by decide +kernel) (pa_cons (pv 0) (pa_cons (pe_gc (v := .ref c.NoLine) rfl ⟨_, T.g_NoLine, rfl⟩) pa_nil))) (pa_cons (pe_callB call_isA (by rfl) T.z_isinstance (by decide +kernel) (pa_cons (pv 0) (pa_cons (pe_gc (v := .ref c.NoOver) rfl ⟨_, T.g_NoOver, rfl⟩) pa_nil))) (pa_cons (pe_callB call_isA (by rfl) T.z_isinstance (by decide +kernel) (pa_cons (pv 0) (pa_cons (pe_gc (v := .ref c.NoName) rfl ⟨_, T.g_NoName, rfl⟩) pa_nil))) pa_nil)))))))
      (pss_cons (ps_set (i := 1) sc_Lclass.nd rfl (by first | exact Or.inl rfl | exact Or.inr rfl) (pe_op op_cat (pv 1) (pe_lst (pa_cons (pe_callB call_isA (by rfl) T.z_isinstance (by decide +kernel) (pa_cons (pv 0) (pa_cons (pe_gc (v := .ref c.Twice) rfl ⟨_, T.g_Twice, rfl⟩) pa_nil))) (pa_cons (pe_callB call_isA (by rfl) T.z_isinstance (by decide +kernel) (pa_cons (pv 0) (pa_cons (pe_gc (v := .ref c.NoNumber) rfl ⟨_, T.g_NoNumber, rfl⟩) pa_nil))) pa_nil)))))
      (pss_cons (ps_setLc (i := 2) (own := [("_law_k", 3)]) (g := gName 3) (by rfl) sc_Lclass.nd rfl rfl (sw_true rfl rfl rfl (by decide +kernel)) (pi_range1 rfl T.z_range (pa_cons pe_int pa_nil)) (blkOk_by (own := [("_law_k", 3)]) (N := N_Lclass) (sc := defScope s_Lclass) (by decide +kernel)) (fun _ _ _ _ _ => (pg_name (i := 3) sc_Lclass.nd rfl (by first | exact Or.inl rfl | exact Or.inr rfl))) (fun _ _ _ _ _ => (pts_one (pt_val (pe_ix (show IxR _ (rIxL K) from ix_list) (pv 1) (pv 3) (fun _ _ => rfl))))) (fun _ _ _ _ _ => (pv 3)))
      (pss_cons (ps_if (PW.pt (pw_and (pt_cmpR op_notN (pv 0) pe_non (nomark _)) (pw_and1 (pt_cmpR (op_eqD hr.units) (pv 2) (pe_lst pa_nil) (nomark _))))) (pss_one (ps_ret (pe_lst (pa_cons pe_int pa_nil)))) pss_nil)
      (pss_cons (ps_if (pt_cmpR op_ne (pe_callB call_isA (by rfl) T.z_isinstance (by decide +kernel) (pa_cons (pv 0) (pa_cons (pe_gc (v := .ref c.RootError) rfl ⟨_, T.g_RootError, rfl⟩) pa_nil))) (pe_and (pe_cmpR (op_neD hr.units) (pv 2) (pe_lst pa_nil) (nomark _)) (pe_one (pe_cmpR op_lt (pe_ix ix_list (pv 2) pe_int (fun _ _ => rfl)) pe_int (nomark _)))) (nomark _)) (pss_one (ps_ret (pe_lst (pa_cons pe_int pa_nil)))) pss_nil)
      (pss_one (ps_ret (pv 2)))))))))), ?_⟩
    refine ⟨_, rfl, A0.is (fun t r => r.k_NoPoly) ⟨_, rfl, A0.is (fun t r => r.k_NoHouse) ⟨_, rfl, A0.is (fun t r => r.k_NoLetter) ⟨_, rfl, A0.is (fun t r => r.k_NoCount) ⟨sz4, fun p1 hp1 => ?_⟩⟩⟩⟩⟩
    have s1 := same_new (o := .lst [.bl (j == some 0), .bl (j == some 1), .bl (j == some 2), .bl (j == some 3)]) hp1
    have A1 := A0.same s1
    refine ⟨_, rfl, _, rfl, A1.is (fun t r => r.k_NoMove) ⟨_, rfl, A1.is (fun t r => r.k_NoWord) ⟨_, rfl, A1.is (fun t r => r.k_Full) ⟨_, rfl, A1.is (fun t r => r.k_NoDeed) ⟨sz4, fun p2 hp2 => ?_⟩⟩⟩⟩⟩
    refine ⟨p1, p2, _, _, rfl, rfl, same_new hp2 _ _ upd_same, upd_same, (show 8 ≤ sizeLine by decide), fun p3 hp3 => ?_⟩
    have s3 := (s1.trans (same_new (o := .lst [.bl (j == some 4), .bl (j == some 5), .bl (j == some 6), .bl (j == some 7)]) hp2)).trans (same_new (o := .lst ([V.bl (j == some 0), .bl (j == some 1), .bl (j == some 2), .bl (j == some 3)] ++ [.bl (j == some 4), .bl (j == some 5), .bl (j == some 6), .bl (j == some 7)])) hp3)
    have A3 := A0.same s3
    refine ⟨_, rfl, _, rfl, A3.is (fun t r => r.k_NoText) ⟨_, rfl, A3.is (fun t r => r.k_NoLine) ⟨_, rfl, A3.is (fun t r => r.k_NoOver) ⟨_, rfl, A3.is (fun t r => r.k_NoName) ⟨sz4, fun p4 hp4 => ?_⟩⟩⟩⟩⟩
    refine ⟨p3, p4, _, _, rfl, rfl, same_new hp4 _ _ upd_same, upd_same, (show 12 ≤ sizeLine by decide), fun p5 hp5 => ?_⟩
    have s5 := (s3.trans (same_new (o := .lst [.bl (j == some 8), .bl (j == some 9), .bl (j == some 10), .bl (j == some 11)]) hp4)).trans (same_new (o := .lst (([V.bl (j == some 0), .bl (j == some 1), .bl (j == some 2), .bl (j == some 3)] ++ [.bl (j == some 4), .bl (j == some 5), .bl (j == some 6), .bl (j == some 7)]) ++ [.bl (j == some 8), .bl (j == some 9), .bl (j == some 10), .bl (j == some 11)])) hp5)
    have A5 := A0.same s5
    refine ⟨_, rfl, _, rfl, A5.is (fun t r => r.k_Twice) ⟨_, rfl, A5.is (fun t r => r.k_NoNumber) ⟨sz2, fun p6 hp6 => ?_⟩⟩⟩
    refine ⟨p5, p6, _, _, rfl, rfl, same_new hp6 _ _ upd_same, upd_same, (show 14 ≤ sizeLine by decide), fun p7 hp7 => ?_⟩
    have s7 := (s5.trans (same_new (o := .lst [.bl (j == some 12), .bl (j == some 13)]) hp6)).trans (same_new (o := .lst (flagsV j)) hp7)
    refine ⟨14, rfl, by decide, by decide, fun D hD => lc_range (lo := 0) (n := 14) (fun i H' => H' D = some (.lst ((kindsTo j i).map V.int)) ∧ H' p7 = some (.lst (flagsV j)) ∧ Same H H') ⟨?_, same_new hD _ _ upd_same, s7.trans (same_new hD)⟩ ?_ ?_⟩
    · rw [upd_same]
      cases j with
      | none => rfl
      | some k => rfl
    · rintro i H' hi ⟨hD', h7, sm⟩
      refine ⟨rfl, _, rfl, _, rfl, p7, _, _, _, rfl, rfl, SqL.of h7, ?_, (j == some i), rfl, ?_⟩
      · rw [Int.zero_add]
        exact atI_nat (flags_at hi)
      have D7 : D ≠ p7 := fun z => by rw [z] at hD; rw [upd_same] at hD; cases hD
      have HD : H D = none := s7.free hD
      refine ite2 (fun hc => ?_) (fun hc => ?_)
      · refine ⟨_, rfl, _, hD', ?_, ?_, ?_, ?_⟩
        · rw [List.length_map]
          have := kindsTo_len j i
          exact Nat.lt_of_le_of_lt this (by decide)
        · rw [upd_same, kindsTo_yes hc, List.map_append, Int.zero_add]; rfl
        · rw [upd_ne D7.symm]; exact h7
        · intro b u hb
          rw [upd_ne (ne_of_none hb HD)]
          exact sm b u hb
      · refine ⟨?_, h7, sm⟩
        rw [kindsTo_no (by simpa using hc)]; exact hD'
    · rintro H8 ⟨hD', h7, sm⟩
      rw [kindsTo_all A0.lt] at hD'
      have HD : H D = none := s7.free hD
      rcases A0.non with ⟨rfl, rfl⟩ | ⟨vn, i, rfl⟩
      · refine ⟨_, rfl, rfl, _, rfl, ?_⟩
        refine ite2 (fun hc => absurd hc (by decide)) (fun _ => ?_)
        refine ⟨_, rfl, (A0.same sm).is (fun t r => r.k_RootError) ?_⟩
        refine ⟨_, rfl, (show 0 ≤ sizeLine by decide), fun p8 hp8 => ⟨dInts [], dInts [], dpInts (SqL.of (same_new hp8 _ _ hD')), dpInts (SqL.of upd_same), shInts [], shInts [], (!PyData.eqv (dInts []) (dInts [])), rfl, ?_⟩⟩
        rw [eqInts]
        refine ite2 (fun hc => nomatch hc) (fun _ => ?_)
        refine ⟨rfl, _, rfl, ?_⟩
        refine iteNS rfl ?_
        exact ⟨_, rfl, k _ D (sm.trans (same_new hp8)) (same_new hp8 _ _ hD') HD⟩
      · refine ⟨_, rfl, rfl, _, rfl, ?_⟩
        refine ite2 (fun _ => ?_) (fun hc => absurd (by rw [decide_eq_false vn]; rfl) hc)
        refine ⟨_, rfl, (show 0 ≤ sizeLine by decide), fun p8 hp8 => ⟨dInts [(i : Int)], dInts [], dpInts (SqL.of (same_new hp8 _ _ hD')), dpInts (SqL.of upd_same), shInts _, shInts [], (PyData.eqv (dInts [(i : Int)]) (dInts [])), rfl, ?_⟩⟩
        have e0 : PyData.eqv (dInts [(i : Int)]) (dInts []) = false := rfl
        rw [e0]
        refine ite2 (fun hc => nomatch hc) (fun _ => ?_)
        have s8 := sm.trans (same_new (o := .lst []) hp8)
        refine ⟨_, rfl, (A0.same s8).is (fun t r => r.k_RootError) ?_⟩
        refine ⟨_, rfl, (show 0 ≤ sizeLine by decide), fun p9 hp9 => ⟨dInts [(i : Int)], dInts [], dpInts (SqL.of (same_new hp9 _ _ (same_new hp8 _ _ hD'))), dpInts (SqL.of upd_same), shInts _, shInts [], (!PyData.eqv (dInts [(i : Int)]) (dInts [])), rfl, ?_⟩⟩
        rw [e0]
        refine ite2 (fun _ => ?_) (fun hc => absurd rfl hc)
        have hD9 := same_new (o := .lst []) hp9 _ _ (same_new (o := .lst []) hp8 _ _ hD')
        refine ⟨_, rfl, D, _, _, _, rfl, rfl, SqL.of hD9, rfl, _, _, rfl, rfl, rfl, _, rfl, ?_⟩
        have eb : (Option.any (fun i => decide (i < 10)) (some i)) = decide ((i : Int) < 10) := by
          show decide (i < 10) = decide ((i : Int) < 10)
          exact decide_eq_decide.mpr (by omega)
        rw [eb]
        refine iteNS rfl ?_
        exact ⟨_, rfl, k _ D (s8.trans (same_new hp9)) hD9 HD⟩
end
end My

namespace My
open PySem PySem.Spec PyProof.Rows L2
open C8 (Cal pe_c pe_gc)
section
variable {c : Cs} {P : Program} {w : World} {K : PySem.W.Frag} {mg : Str → Option Value} {base : Heap}

abbrev s_Lmade : Stmt := top 72
abbrev N_Lmade : List Str := ["_law_hi", "_law_lo", "_law_one", "_law_its"]
abbrev P_Lmade : List Str := ["_law_hi", "_law_lo"]
theorem sc_Lmade : FnScope N_Lmade ["_law_hi", "_law_lo"] (defScope s_Lmade) := ⟨rfl, rfl, rfl, by decide +kernel, rfl, by decide +kernel, by decide +kernel⟩

theorem ok_Lmade (T : Txt K mg c) {f : Addr} {fd : FuncData} (F : L2.Fun K "_law_made" "_law_made" s_Lmade f fd) : FnOk P w K mg base CX0 1 f fd P_Lmade (sp_lowest K) := by
  refine F.ok sc_Lmade (fun vs H Q E h => ?_) (fun cdv A outer s H vs Q E hr h => ?_)
  · obtain ⟨q, rfl, _⟩ := h
    rfl
  · obtain ⟨⟨t, b⟩, rfl, hb, hz, k⟩ := h
    have hb : b ≠ 0 := hb
    refine ⟨_, (pss_cons (ps_set (i := 2) sc_Lmade.nd rfl (by first | exact Or.inl rfl | exact Or.inr rfl) (pe_callB call_abs (by rfl) T.z_abs (by decide +kernel) (pa_cons (pv 0) pa_nil)))
      (pss_cons (ps_set (i := 3) sc_Lmade.nd rfl (by first | exact Or.inl rfl | exact Or.inr rfl) (pe_callB call_abs (by rfl) T.z_abs (by decide +kernel) (pa_cons (pv 1) pa_nil)))
      (pss_cons (ps_while PassesOwn.never (pt_cmpR op_ne (pv 3) pe_int (nomark _)) (pss_one (ps_par (i := 2) (j := 3) (by rfl) sc_Lmade.nd rfl rfl (by decide) rfl rfl (pa_cons (pv 3) (pa_cons (pe_op op_modN (pv 2) (pv 3)) pa_nil)) (by rfl))))
      (pss_cons (ps_if (pt_cmpR op_lt (pv 1) pe_int (nomark _)) (pss_one (ps_set (i := 2) sc_Lmade.nd rfl (by first | exact Or.inl rfl | exact Or.inr rfl) (pe_op op_sub pe_int (pv 2)))) pss_nil)
      (pss_one (ps_ret (pe_tup (pa_cons (pe_op op_fdivA (pv 0) (pv 2)) (pa_cons (pe_op op_fdivA (pv 1) (pv 2)) pa_nil))))))))), ?_⟩
    refine ⟨_, rfl, _, rfl, _, rfl, _, rfl, ?_⟩
    have sgo : shr t b ≠ 0 ∧ (shr t b).natAbs.log2 < 9000 := by
      refine ⟨shr_ne hb, ?_⟩
      have : Sz 8000 (shr t b) := by
        unfold Sz
        rw [shr_abs]
        have : Int.gcd t b ≤ b.natAbs := Nat.le_of_dvd (by omega) (Int.gcd_dvd_natAbs_right t b)
        exact Nat.lt_of_le_of_lt this hz
      exact this.log (by decide) (by decide)
    have eab : ∀ x : Int, (if x < 0 then -x else x) = (x.natAbs : Int) := fun x => by split <;> omega
    refine while_by (fun σ H' => H' = H ∧ ∃ x y : Int, σ = [some (.int t), some (.int b), some (.int x), some (.int y)] ∧ 0 ≤ x ∧ 0 ≤ y ∧ Int.gcd x y = Int.gcd t b) (fun σ _ => match σ with | [_, _, _, some (.int y)] => y.natAbs | _ => 0) ⟨rfl, _, _, rfl, ?_, ?_, ?_⟩ ?_ ?_
    · show (0 : Int) ≤ (if t < 0 then -t else t)
      rw [eab]; omega
    · show (0 : Int) ≤ (if b < 0 then -b else b)
      rw [eab]; omega
    · show Int.gcd (if t < 0 then -t else t) (if b < 0 then -b else b) = _
      rw [eab, eab]
      rfl
    · rintro σ H' ⟨rfl, x, y, rfl, hx, hy0, hg⟩
      refine ⟨_, rfl, rfl, _, rfl, ?_⟩
      refine ite2 (fun hc => ?_) (fun hc => ?_)
      · have hy : y ≠ 0 := by simpa using hc
        refine ⟨_, rfl, _, rfl, _, rfl, _, _, rfl, rfl, hy, _, _, rfl, ?_⟩
        exact ⟨⟨rfl, _, _, rfl, hy0, (fmod_bd (by omega)).1, (gcd_fmod x y).trans hg⟩, fmod_lt hy⟩
      · have hy : y = 0 := by simpa using hc
        subst hy
        have ex : x = (Int.gcd t b : Nat) := by rw [← hg, Int.gcd_zero_right]; omega
        subst ex
        refine ⟨_, rfl, _, _, rfl, rfl, _, rfl, ?_⟩
        refine ite2 (fun hc => ?_) (fun hc => ?_)
        · have hn : b < 0 := by simpa using hc
          have e : (0 : Int) - ((Int.gcd t b : Nat) : Int) = shr t b := by unfold shr sg; rw [if_pos hn]; omega
          have c : ∀ i, CFd i ((0 : Int) - ((Int.gcd t b : Nat) : Int)) := fun i => by rw [e]; exact sgo
          refine ⟨_, rfl, _, _, rfl, rfl, ?_⟩
          refine ⟨_, rfl, _, rfl, _, _, rfl, rfl, c _, _, rfl, _, rfl, _, _, rfl, rfl, c _, sz2, fun p hp => ?_⟩
          refine k _ p (same_new hp) ?_ hp
          rw [upd_same]
          unfold frV low lowT lowB
          rw [← e]
        · have hn : ¬ b < 0 := by simpa using hc
          have e : ((Int.gcd t b : Nat) : Int) = shr t b := by unfold shr sg; rw [if_neg hn]; omega
          have c : ∀ i, CFd i ((Int.gcd t b : Nat) : Int) := fun i => by rw [e]; exact sgo
          refine ⟨_, rfl, _, rfl, _, _, rfl, rfl, c _, _, rfl, _, rfl, _, _, rfl, rfl, c _, sz2, fun p hp => ?_⟩
          refine k _ p (same_new hp) ?_ hp
          rw [upd_same]
          unfold frV low lowT lowB
          rw [← e]
    · rintro σ H Q Q' hq ⟨v, h1, h2, k, h3, h4⟩
      exact ⟨v, h1, h2, k, h3, hq _ _ h4⟩

end
end My

namespace My
open PySem PySem.Spec PyProof.Rows L2
open C8 (Cal pe_c pe_gc InsC call_isC)
def W_Ldrawn (CH : Addr) : WpP := fun m ds C => ds = [] ∧ m ≤ 2 ^ 26 ∧ ∀ ns : List Int, GoodP ns → C (m + 300) (.lst [nsD ns, rwsD (rowsZ ns), .int (manyH ns)])
section

variable {c : Cs} {CH CN : Addr} {P : Program} {w : World} {K : PySem.W.Frag} {mg : Str → Option Value} {base : Heap}
abbrev s_Ldrawn : Stmt := top 84
abbrev N_Ldrawn : List Str := ["_law_purse_here", "_law_poly_here", "_law_house"]
abbrev P_Ldrawn : List Str := ["_law_purse_here"]
theorem sc_Ldrawn : FnScope N_Ldrawn ["_law_purse_here"] (defScope s_Ldrawn) := ⟨rfl, rfl, rfl, by decide +kernel, rfl, by decide +kernel, by decide +kernel⟩

theorem ok_Ldrawn (T : Txt K mg c) {f : Addr} {fd : FuncData} (F : L2.Fun K "_law_drawn" "_law_drawn" s_Ldrawn f fd) (h_Lpoly : Cal P w K mg base 4 "_law_poly" (spP W_Lpoly) []) (h_house_of : CalX P w K mg base 6 "house_of" (spX (W_house_of c CH))) (n_House_len : SpM P w K mg base 1 CH "__len__" (spD (W_Hlen CH))) (m_House_steps_1 : KMet CX0 P w K mg base 1 CH "steps" (spD (W_steps CH)) 1 [] [.p 0]) :
    FnOk P w K mg base CX0 7 f fd P_Ldrawn (spP (W_Ldrawn CH)) := by
  refine okP F sc_Ldrawn (by decide) (fun m ds C ⟨e, _⟩ => by rw [e]; rfl) fun cdv A outer s H E hr => ⟨_, (pss_cons (ps_set (i := 1) sc_Ldrawn.nd rfl (by first | exact Or.inl rfl | exact Or.inr rfl) (pe_c h_Lpoly hr (by decide) rfl (pa_cons (pv 0) pa_nil)))
      (pss_cons (ps_set (i := 2) sc_Ldrawn.nd rfl (by first | exact Or.inl rfl | exact Or.inr rfl) (pe_cX h_house_of hr (by decide) rfl (pa_cons (pv 1) pa_nil)))
      (pss_one (ps_ret (pe_lst (pa_cons (pv 1) (pa_cons (pe_km0 (pv 2) m_House_steps_1 hr (by decide) (E := fun _ => E0) (fun _ => by first | exact psAt0 | exact psAtL) pk_nil) (pa_cons (pe_callB (call_lenS n_House_len hr (by decide)) (by rfl) T.z_len (by decide +kernel) (pa_cons (pv 2) pa_nil)) pa_nil)))))))), fun z m ds C ⟨e, hm, q⟩ => ?_⟩
  subst e
  (repeat' (first | refine XS.seq ?_ | refine XS.set ?_ | refine XE.callP rfl ?_ | refine XA.nil ?_))
  refine ⟨rfl, by omega, fun ns G => ?_⟩
  have ml := manyH_le ns
  (repeat' (first | refine XS.seq ?_ | refine XS.set ?_ | refine XE.var rfl ?_ | refine XE.callX0 ?_ | refine XA.nil ?_ | refine XA.cons ?_))
  refine ⟨ns, rfl, fun _ => ?_, fun h => by rw [fault_of_good G] at h; cases h⟩
  (repeat' (first | refine XS.ret ?_ | refine XE.var rfl ?_ | refine XE.ofN (XN.lst ?_) | refine XE.km rfl ?_ | refine XA.nil ?_ | refine XA.cons ?_ | refine go_ins rfl rfl ?_ | refine go_kc rfl rfl ?_))
  refine ⟨ns, rfl, ?_⟩
  (repeat' (first | refine XE.var rfl ?_ | refine XE.cb db_lenO ?_ | refine XA.nil ?_ | refine XA.cons ?_))
  refine ⟨_, _, rfl, rfl, ns, rfl, _, rfl, by omega, by omega, ?_⟩
  (repeat' (first | refine XA.nil ?_ | refine go_len rfl ?_))
  exact q ns G
end
end My

namespace My
open PySem PySem.Spec PyProof.Rows L2
open C8 (Cal pe_c pe_gc InsC call_isC)
/-! ### what is asked and told -/
theorem atI_zero {α : Type} {x : α} {xs : List α} : atI (x :: xs) 0 = some x := by
  unfold atI ixN
  simp
def Sort_ (K : PySem.W.Frag) (c : Cs) (d : Dat) (j : Option Nat) : Prop := (d = .non ∧ j = none ∧ Row K c (.type "NoneType") none) ∨ ∃ C fs i, d = .exc C fs ∧ j = some i ∧ i < 14 ∧ Row K c (.ref C) (some i) ∧ ExcC K C
def W_Lclass (K : PySem.W.Frag) (c : Cs) : WpD := fun ds C => ∃ d j, ds = [d] ∧ Sort_ K c d j ∧ C (nsD (kindsOf j))
theorem ad_Lclass {c : Cs} {K : PySem.W.Frag} {vs : List V} {H : Hp} {Q : VK} {E : XK} (h : spD (W_Lclass K c) vs H Q E) : sp_Lclass K c vs H Q E := by
  obtain ⟨G, ds, C, hd, r, ⟨d, j, rfl, hs, q⟩, k⟩ := h
  cases r with
  | cons r t =>
    cases t
    rename_i v
    have fin : ∀ H' p, Same H H' → H' p = some (.lst ((kindsOf j).map V.int)) → H p = none → Q (.ref p) H' := fun H' p s hp n => k _ _ H' q (.of s) (.lst (by rw [hid_out (no_of_dom hd n)]; exact hp) (RpL.ints _))
    rcases hs with ⟨rfl, rfl, row⟩ | ⟨C', fs, i, rfl, rfl, lt, row, ex⟩
    · cases r
      exact ⟨_, none, rfl, ⟨_, row, .inl ⟨rfl, rfl, rfl⟩⟩, fin⟩
    · cases r with
      | exc0 h => exact ⟨_, some i, rfl, ⟨_, row, .inr ⟨_, C', none, i, rfl, rfl, ⟨(hid_some h).2, .inl rfl⟩, ex, rfl, lt⟩⟩, fin⟩
      | exc1 h h2 rf => exact ⟨_, some i, rfl, ⟨_, row, .inr ⟨_, C', _, i, rfl, rfl, ⟨(hid_some h).2, .inr ⟨_, _, rfl, (hid_some h2).2⟩⟩, ex, rfl, lt⟩⟩, fin⟩
/-- the shares that a way hands in -/
def rowOf (way : Nat) (qs : List (Int × Int)) : List (Int × Int) := if way ≤ 3 then qs else if way = 7 then [((qs.headD (0, 1)).1, 1)] else qs.take 1
/-- what a way tells: shares, or the class of the refusal -/
noncomputable def ansR (way : Nat) (ns : List Int) (qs : List (Int × Int)) (j : Int) : Except Nat (List Rat) :=
  if way = 2 ∨ way = 3 then (if 0 ≤ j ∧ j < ((rowsZ ns).length : Int) then .ok (unitL (manyH ns) (spotH ns j.toNat)) else .error 2)
  else if manyH ns < (rowOf way qs).length ∨ ∃ q ∈ rowOf way qs, q.2 = 0 then .error 13 else .ok ((rowOf way qs).map qR ++ vz (manyH ns - (rowOf way qs).length))
def ansD : Except Nat (List Rat) → Dat
  | .ok xs => rsD xs
  | .error n => nsD [(n : Int)]
/-- what may be asked -/
structure AskOk (ns : List Int) (qs : List (Int × Int)) : Prop where
  g : GoodP ns
  ne : qs ≠ []
  l : qs.length ≤ 900
  sz : ∀ q ∈ qs, Sz 8000 q.2
def W_Lmany : WpD := fun ds C => ∃ rs : List Rw, ds = [rwsD rs] ∧ rs.length ≤ 3 ∧ (∀ r ∈ rs, r.1 = 2 ∨ r.1 = 3) ∧ manyR (rrOf rs) ≤ 27 ∧ C (.int (manyR (rrOf rs) : Nat))
def W_Lshares_good : WpD := fun ds C => ∃ xs : List Rat, ds = [rsD xs, rsD xs] ∧ C (.bl true)
def W_Lasked (c : Cs) (CH CN : Addr) : WpX := fun ds C X => ∃ (way : Nat) (ns : List Int) (qs : List (Int × Int)) (j : Int), ds = [.int (way : Int), houseD CH ns, qsD qs, .int j] ∧ way < 8 ∧ AskOk ns qs ∧
  (∀ xs, ansR way ns qs j = .ok xs → C (numD CN CH ns xs)) ∧ (ansR way ns qs j = .error 2 → X ⟨c.NoLetter, []⟩) ∧ (ansR way ns qs j = .error 13 → X ⟨c.NoNumber, []⟩)
def W_Lanswer (CH : Addr) : WpD := fun ds C => ∃ (way : Nat) (ns : List Int) (qs : List (Int × Int)) (j : Int), ds = [.int (way : Int), houseD CH ns, qsD qs, .int j] ∧ way < 8 ∧ AskOk ns qs ∧ C (ansD (ansR way ns qs j))
def W_Ldue : WpD := fun ds C => ∃ (way : Nat) (ns : List Int) (qs : List (Int × Int)) (j : Int), ds = [.int (way : Int), rwsD (rowsZ ns), qsD qs, .int j] ∧ way < 8 ∧ AskOk ns qs ∧ C (ansD (ansR way ns qs j))
theorem ans_cases (way : Nat) (ns : List Int) (qs : List (Int × Int)) (j : Int) : (∃ xs, ansR way ns qs j = .ok xs) ∨ ansR way ns qs j = .error 2 ∨ ansR way ns qs j = .error 13 := by
  unfold ansR
  split <;> split
  · exact .inl ⟨_, rfl⟩
  · exact .inr (.inl rfl)
  · exact .inr (.inr rfl)
  · exact .inl ⟨_, rfl⟩
theorem ans_len {way : Nat} {ns : List Int} {qs : List (Int × Int)} {j : Int} {xs : List Rat} (h : ansR way ns qs j = .ok xs) : xs.length = manyH ns := by
  unfold ansR at h
  split at h <;> split at h
  · cases h
    unfold unitL
    rw [List.length_map, List.length_range]
  · cases h
  · cases h
  · rename_i h1 h2
    cases h
    have h3 : (rowOf way qs).length ≤ manyH ns := Nat.le_of_not_lt fun h => h2 (.inl h)
    rw [List.length_append, List.length_map, vz_len]
    omega
section
variable {c : Cs} {CH CN : Addr} {P : Program} {w : World} {K : PySem.W.Frag} {mg : Str → Option Value} {base : Heap}
abbrev s_Lmany : Stmt := top 73
abbrev N_Lmany : List Str := ["_law_steps", "_law_found", "_law_degree", "_law_square"]
abbrev P_Lmany : List Str := ["_law_steps"]
theorem sc_Lmany : FnScope N_Lmany ["_law_steps"] (defScope s_Lmany) := ⟨rfl, rfl, rfl, by decide +kernel, rfl, by decide +kernel, by decide +kernel⟩

theorem ok_Lmany (T : Txt K mg c) {f : Addr} {fd : FuncData} (F : L2.Fun K "_law_many" "_law_many" s_Lmany f fd) : FnOk P w K mg base CX0 1 f fd P_Lmany (spD W_Lmany) := by
  refine okD F sc_Lmany (fun ds C ⟨_, e, _⟩ => by rw [e]; rfl) fun cdv A outer s H E hr => ⟨_, (pss_cons (ps_set (i := 1) sc_Lmany.nd rfl (by first | exact Or.inl rfl | exact Or.inr rfl) pe_int)
      (pss_cons (ps_for PassesOwn.never rfl (pi_list (pv 0)) (pg_tup rfl (pgs_cons (pg_name (i := 2) sc_Lmany.nd rfl (by first | exact Or.inl rfl | exact Or.inr rfl)) (pgs_cons (pg_name (i := 3) sc_Lmany.nd rfl (by first | exact Or.inl rfl | exact Or.inr rfl)) pgs_nil))) (pss_one (ps_set (i := 1) sc_Lmany.nd rfl (by first | exact Or.inl rfl | exact Or.inr rfl) (pe_op op_mulW (pv 1) (pv 2)))))
      (pss_one (ps_ret (pv 1))))), fun z ds C ⟨rs, e, l3, hd, l27, q⟩ => ?_⟩
  subst e
  (repeat' (first | refine XS.seq ?_ | refine XS.set ?_ | refine XE.int ?_))
  refine XS.for (XI.list ?_)
  (repeat' (first | refine XE.var rfl ?_ | refine go_lst ?_))
  refine ⟨fun i g m => (∃ s2 s3, g = [.dt (rwsD rs), .dt (.int (manyR (rrOf (rs.take i)) : Nat)), s2, s3]) ∧ m = 0, ⟨⟨_, _, rfl⟩, rfl⟩, fun i d g2 m2 hi ⟨⟨s2, s3, e1⟩, e2⟩ => ?_, fun g2 m2 ⟨⟨s2, s3, e1⟩, e2⟩ => ?_⟩
  · subst e1 e2
    obtain ⟨r, hr, rfl⟩ := map_get hi
    have hdr := hd r (List.mem_of_getElem? hr)
    have e3 : ((manyR (rrOf (rs.take (i + 1))) : Nat) : Int) = ((manyR (rrOf (rs.take i)) : Nat) : Int) * r.1 := by
      rw [spot_step hr, Int.natCast_mul, Int.toNat_of_nonneg (by omega), Int.mul_comm]
    have hm := spot_le hd i
    (repeat' (first | refine XS.set ?_ | refine XE.var rfl ?_ | refine XE.op dr_I ?_ | refine XGs.cons ?_ | refine XGs.nil ?_ | refine XG.name rfl ?_ | refine XG.tupG rfl ?_))
    refine go_I (cmul_small (by rw [Int.natAbs_natCast]; exact Nat.lt_of_le_of_lt (show _ ≤ 27 by omega) (by decide)) (Nat.lt_of_le_of_lt (show _ ≤ 3 by omega) (by decide))) ?_
    skip
    refine ⟨⟨.dt (.int r.1), .dt (qsD r.2), ?_⟩, rfl⟩
    rw [e3]
    rfl
  · subst e1 e2
    rw [List.length_map, List.take_length]
    (repeat' (first | refine XS.ret ?_ | refine XE.var rfl ?_))
    exact q
abbrev s_Lshares_good : Stmt := top 78
abbrev N_Lshares_good : List Str := ["_law_quota", "_law_due_here", "_law_one"]
abbrev P_Lshares_good : List Str := ["_law_quota", "_law_due_here"]
theorem sc_Lshares_good : FnScope N_Lshares_good ["_law_quota", "_law_due_here"] (defScope s_Lshares_good) := ⟨rfl, rfl, rfl, by decide +kernel, rfl, by decide +kernel, by decide +kernel⟩

theorem ok_Lshares_good (T : Txt K mg c) {f : Addr} {fd : FuncData} (F : L2.Fun K "_law_shares_good" "_law_shares_good" s_Lshares_good f fd) (h_Lwhole : Cal P w K mg base 1 "_law_whole" (spD W_Lwhole) []) : FnOk P w K mg base CX0 2 f fd P_Lshares_good (spD W_Lshares_good) := by
  refine okD F sc_Lshares_good (fun ds C ⟨_, e, _⟩ => by rw [e]; rfl) fun cdv A outer s H E hr => ⟨_, (pss_cons (ps_if (PW.pt (pw_or (pt_not (pt_val (pe_callB call_isi (by rfl) T.z_isinstance (by decide +kernel) (pa_cons (pv 0) (pa_cons (pe_bltn (v := .ty "list") (by rfl) T.z_list (by decide +kernel) rfl) pa_nil))))) (pw_or1 (pt_cmpR (op_neD hr.units) (pv 0) (pv 1) (nomark _))))) (pss_one (ps_ret pe_bl)) pss_nil)
      (pss_cons (ps_for PassesOwn.never rfl (pi_list (pv 0)) (pg_name (i := 2) sc_Lshares_good.nd rfl (by first | exact Or.inl rfl | exact Or.inr rfl)) (pss_one (ps_if (PW.pt (pw_or (pt_not (pt_val (pe_callB call_isi (by rfl) T.z_isinstance (by decide +kernel) (pa_cons (pv 2) (pa_cons (pe_bltn (v := .ty "tuple") (by rfl) T.z_tuple (by decide +kernel) rfl) pa_nil))))) (pw_or (pt_not (pt_val (pe_c h_Lwhole hr (by decide) rfl (pa_cons (pe_ix ix_tup (pv 2) pe_int (fun _ _ => rfl)) pa_nil)))) (pw_or1 (pt_not (pt_val (pe_c h_Lwhole hr (by decide) rfl (pa_cons (pe_ix ix_tup (pv 2) pe_int (fun _ _ => rfl)) pa_nil)))))))) (pss_one (ps_ret pe_bl)) pss_nil)))
      (pss_one (ps_ret pe_bl)))), fun z ds C ⟨xs, e, q⟩ => ?_⟩
  subst e
  (repeat' (first | refine XS.seq ?_ | refine XS.ite ?_ | refine XE.var rfl ?_ | refine XE.op dr_neD ?_ | refine XE.isTy ?_ | refine XT.test ?_ | refine XT.not ?_ | refine XT.or ?_ | refine go_isTy rfl (by first | exact kb_int_int | exact kb_int_bool | exact kb_bool_int | exact kb_bool_bool | exact kb_str_str | exact kb_list_list | exact kb_tuple_tuple | exact kb_tuple_list | exact kb_list_tuple | exact kb_NoneType_list | exact kb_NoneType_int | exact kb_str_int | exact kb_int_list | exact kb_int_tuple | exact kb_NoneType_tuple | exact kb_list_int | exact kb_tuple_int | exact kb_str_bool) ?_ | refine go_bl ?_))
  refine go_neD (cmp_rs _) (cmp_rs _) ?_
  rw [eqD_refl (cmp_rs _)]
  (repeat' (first | refine XS.next ?_ | refine XS.seq ?_ | refine go_bl ?_))
  refine XS.for (XI.list ?_)
  (repeat' (first | refine XE.var rfl ?_ | refine go_lst ?_))
  refine ⟨fun i g m => ∃ s2, g = [.dt (rsD xs), .dt (rsD xs), s2] ∧ m = 0, ⟨_, rfl, rfl⟩, fun i d g2 m2 hi ⟨s2, e1, e2⟩ => ?_, fun g2 m2 ⟨s2, e1, e2⟩ => ?_⟩
  · subst e1 e2
    obtain ⟨x, hx, rfl⟩ := fr_get hi
    (repeat' (first | (guard_target =~ XS _ _ _ _ _; first | refine XS.ite ?_) | (guard_target =~ XE _ _ _ _ _; first | refine XE.var rfl ?_ | refine XE.int ?_ | refine XE.op dr_ixT ?_ | refine XE.call ?_ | refine XE.isTy ?_) | (guard_target =~ XA _ _ _ _ _; first | refine XA.nil ?_ | refine XA.cons ?_) | (guard_target =~ XT _ _ _ _ _; first | refine XT.test ?_ | refine XT.not ?_ | refine XT.or ?_) | (guard_target =~ XG _ _ _ _ _ _; first | refine XG.name rfl ?_) | refine go_isTy rfl (by first | exact kb_int_int | exact kb_int_bool | exact kb_bool_int | exact kb_bool_bool | exact kb_str_str | exact kb_list_list | exact kb_tuple_tuple | exact kb_tuple_list | exact kb_list_tuple | exact kb_NoneType_list | exact kb_NoneType_int | exact kb_str_int | exact kb_int_list | exact kb_int_tuple | exact kb_NoneType_tuple | exact kb_list_int | exact kb_tuple_int | exact kb_str_bool) ?_ | refine go_ixT rfl ?_ | refine go_bl ?_))
    refine ⟨_, rfl, ?_⟩
    (repeat' (first | refine XE.var rfl ?_ | refine XE.int ?_ | refine XE.op dr_ixT ?_ | refine XE.call ?_ | refine XA.nil ?_ | refine XA.cons ?_ | refine XT.test ?_ | refine XT.not ?_ | refine go_ixT rfl ?_ | refine go_bl ?_))
    refine ⟨_, rfl, ?_⟩
    (repeat' (first | refine XS.next ?_ | refine go_bl ?_))
    exact ⟨_, rfl, rfl⟩
  · subst e1 e2
    (repeat' (first | refine XS.ret ?_ | refine XE.bl ?_))
    exact q
abbrev s_Lasked : Stmt := top 85
abbrev N_Lasked : List Str := ["_law_way", "_law_house", "_law_quota", "_law_spot_at", "_law_hi", "_law_lo"]
abbrev P_Lasked : List Str := ["_law_way", "_law_house", "_law_quota", "_law_spot_at"]
theorem sc_Lasked : FnScope N_Lasked ["_law_way", "_law_house", "_law_quota", "_law_spot_at"] (defScope s_Lasked) := ⟨rfl, rfl, rfl, by decide +kernel, rfl, by decide +kernel, by decide +kernel⟩

theorem ok_Lasked (T : Txt K mg c) {f : Addr} {fd : FuncData} (F : L2.Fun K "_law_asked" "_law_asked" s_Lasked f fd) (m_House_number_2 : KMet (L2.CX P w) P w K mg base 4 CH "number" (spL (W_number c CH CN)) 2 [] [.p 0, .p 1]) (m_House_number_1_shares : KMet (L2.CX P w) P w K mg base 4 CH "number" (spL (W_number c CH CN)) 1 ["shares"] [.p 0, .k 0])
    (m_House_letter_2 : KMet (L2.CX P w) P w K mg base 4 CH "letter" (spX (W_letter c CH CN)) 2 [] [.p 0, .p 1]) (m_House_letter_1_place : KMet (L2.CX P w) P w K mg base 4 CH "letter" (spX (W_letter c CH CN)) 1 ["place"] [.p 0, .k 0])
    (m_House_whole_3 : KMet (L2.CX P w) P w K mg base 5 CH "whole" (spX (W_whole c CH CN)) 3 [] [.p 0, .p 1, .p 2]) (m_House_whole_1_bottom_top : KMet (L2.CX P w) P w K mg base 5 CH "whole" (spX (W_whole c CH CN)) 1 ["bottom", "top"] [.p 0, .k 1, .k 0])
    (m_House_whole_2_bottom : KMet (L2.CX P w) P w K mg base 5 CH "whole" (spX (W_whole c CH CN)) 2 ["bottom"] [.p 0, .p 1, .k 0]) (m_House_whole_2 : KMet (L2.CX P w) P w K mg base 5 CH "whole" (spX (W_whole c CH CN)) 2 [] [.p 0, .p 1, .c (.int 1)]) : FnOk P w K mg base (L2.CX P w) 6 f fd P_Lasked (spX (W_Lasked c CH CN)) := by
  refine okX F sc_Lasked (fun ds C X ⟨_, _, _, _, e, _⟩ => by rw [e]; rfl) fun cdv A outer s H E hr => ⟨_, (pss_cons (ps_if (pt_cmpR op_eq (pv 0) pe_int (nomark _)) (pss_one (ps_ret (pe_km (pv 1) m_House_number_2 hr (by decide) (fun σ => passAt (takes_of rfl rfl rfl rfl) σ) (pa_cons (pv 2) pa_nil) pk_nil))) pss_nil)
      (pss_cons (ps_if (pt_cmpR op_eq (pv 0) pe_int (nomark _)) (pss_one (ps_ret (pe_km0 (pv 1) m_House_number_1_shares hr (by decide) (fun σ => passAt (takes_of rfl rfl rfl rfl) σ) (pk_cons (pv 2) pk_nil)))) pss_nil)
      (pss_cons (ps_if (pt_cmpR op_eq (pv 0) pe_int (nomark _)) (pss_one (ps_ret (pe_km (pv 1) m_House_letter_2 hr (by decide) (fun σ => passAt (takes_of rfl rfl rfl rfl) σ) (pa_cons (pv 3) pa_nil) pk_nil))) pss_nil)
      (pss_cons (ps_if (pt_cmpR op_eq (pv 0) pe_int (nomark _)) (pss_one (ps_ret (pe_km0 (pv 1) m_House_letter_1_place hr (by decide) (fun σ => passAt (takes_of rfl rfl rfl rfl) σ) (pk_cons (pv 3) pk_nil)))) pss_nil)
      (pss_cons (ps_asg (pe_ix ix_list (pv 2) pe_int (fun _ _ => rfl)) (pg_tup rfl (pgs_cons (pg_name (i := 4) sc_Lasked.nd rfl (by first | exact Or.inl rfl | exact Or.inr rfl)) (pgs_cons (pg_name (i := 5) sc_Lasked.nd rfl (by first | exact Or.inl rfl | exact Or.inr rfl)) pgs_nil))))
      (pss_cons (ps_if (pt_cmpR op_eq (pv 0) pe_int (nomark _)) (pss_one (ps_ret (pe_km (pv 1) m_House_whole_3 hr (by decide) (fun σ => passAt (takes_of rfl rfl rfl rfl) σ) (pa_cons (pv 4) (pa_cons (pv 5) pa_nil)) pk_nil))) pss_nil)
      (pss_cons (ps_if (pt_cmpR op_eq (pv 0) pe_int (nomark _)) (pss_one (ps_ret (pe_km0 (pv 1) m_House_whole_1_bottom_top hr (by decide) (fun σ => passAt (takes_of rfl rfl rfl rfl) σ) (pk_cons (pv 5) (pk_cons (pv 4) pk_nil))))) pss_nil)
      (pss_cons (ps_if (pt_cmpR op_eq (pv 0) pe_int (nomark _)) (pss_one (ps_ret (pe_km (pv 1) m_House_whole_2_bottom hr (by decide) (fun σ => passAt (takes_of rfl rfl rfl rfl) σ) (pa_cons (pv 4) pa_nil) (pk_cons (pv 5) pk_nil)))) pss_nil)
      (pss_one (ps_ret (pe_km (pv 1) m_House_whole_2 hr (by decide) (fun σ => passAt (takes_of rfl rfl rfl rfl) σ) (pa_cons (pv 4) pa_nil) pk_nil))))))))))), fun z ds C X hX ⟨way, ns, qs, j, e, hw, A, q, x2, x13⟩ => ?_⟩
  subst e
  have mp := manyH_pos A.g
  obtain ⟨q0, qr, rfl⟩ := List.exists_cons_of_ne_nil A.ne
  have h8 : way = 0 ∨ way = 1 ∨ way = 2 ∨ way = 3 ∨ way = 4 ∨ way = 5 ∨ way = 6 ∨ way = 7 := by omega
  rcases h8 with rfl | rfl | rfl | rfl | rfl | rfl | rfl | rfl
  · (repeat' (first | refine XS.seq ?_ | refine XS.ret ?_ | refine XS.ite ?_ | refine XE.var rfl ?_ | refine XE.int ?_ | refine XE.op dr_eq ?_ | refine XT.test ?_ | refine go_eq rfl rfl rfl ?_ | refine go_bl ?_))
    refine XE.kmLd num_arg rfl (X := fun _ e => X e) (fun O σ m' H' e cls d x R q => hX O _ m' σ H' e cls d x R q) ?_
    (repeat' (first | refine XE.var rfl ?_ | refine XA.nil ?_ | refine XA.cons ?_ | refine go_ins rfl rfl ?_ | refine go_kc rfl rfl ?_))
    refine ⟨ns, (q0 :: qr), rfl, A.l, A.sz, fun h => x13 ?_, fun hl hz => q _ ?_⟩
    · exact if_neg (by decide) |>.trans (if_pos h)
    · exact if_neg (by decide) |>.trans (if_neg (by rintro (h | ⟨y, hy, h⟩); exact absurd h (by show ¬ manyH ns < (q0 :: qr).length; omega); exact hz y hy h))
  · (repeat' (first | refine XS.next ?_ | refine XS.seq ?_ | refine XS.ret ?_ | refine XS.ite ?_ | refine XE.var rfl ?_ | refine XE.int ?_ | refine XE.op dr_eq ?_ | refine XT.test ?_ | refine go_eq rfl rfl rfl ?_ | refine go_bl ?_))
    refine XE.kmLd num_arg rfl (X := fun _ e => X e) (fun O σ m' H' e cls d x R q => hX O _ m' σ H' e cls d x R q) ?_
    (repeat' (first | refine XE.var rfl ?_ | refine XA.nil ?_ | refine XA.cons ?_ | refine go_ins rfl rfl ?_ | refine go_kc rfl rfl ?_))
    refine ⟨ns, (q0 :: qr), rfl, A.l, A.sz, fun h => x13 ?_, fun hl hz => q _ ?_⟩
    · exact if_neg (by decide) |>.trans (if_pos h)
    · exact if_neg (by decide) |>.trans (if_neg (by rintro (h | ⟨y, hy, h⟩); exact absurd h (by show ¬ manyH ns < (q0 :: qr).length; omega); exact hz y hy h))
  · (repeat' (first | refine XS.next ?_ | refine XS.seq ?_ | refine XS.ret ?_ | refine XS.ite ?_ | refine XE.var rfl ?_ | refine XE.int ?_ | refine XE.op dr_eq ?_ | refine XT.test ?_ | refine go_eq rfl rfl rfl ?_ | refine go_bl ?_))
    refine XE.kmX (X := fun _ e => X e) rfl (fun O σ m' H' e cls d x R q => hX O _ m' σ H' e cls d x R q) ?_
    (repeat' (first | refine XE.var rfl ?_ | refine XA.nil ?_ | refine XA.cons ?_ | refine go_ins rfl rfl ?_ | refine go_kc rfl rfl ?_))
    refine ⟨ns, j, rfl, A.g, fun h => x2 ?_, fun h => q _ ?_⟩
    · exact if_pos (by decide) |>.trans (if_neg h)
    · exact if_pos (by decide) |>.trans (if_pos h)
  · (repeat' (first | refine XS.next ?_ | refine XS.seq ?_ | refine XS.ret ?_ | refine XS.ite ?_ | refine XE.var rfl ?_ | refine XE.int ?_ | refine XE.op dr_eq ?_ | refine XT.test ?_ | refine go_eq rfl rfl rfl ?_ | refine go_bl ?_))
    refine XE.kmX (X := fun _ e => X e) rfl (fun O σ m' H' e cls d x R q => hX O _ m' σ H' e cls d x R q) ?_
    (repeat' (first | refine XE.var rfl ?_ | refine XA.nil ?_ | refine XA.cons ?_ | refine go_ins rfl rfl ?_ | refine go_kc rfl rfl ?_))
    refine ⟨ns, j, rfl, A.g, fun h => x2 ?_, fun h => q _ ?_⟩
    · exact if_pos (by decide) |>.trans (if_neg h)
    · exact if_pos (by decide) |>.trans (if_pos h)
  · (repeat' (first | (guard_target =~ XS _ _ _ _ _; first | refine XS.next ?_ | refine XS.seq ?_ | refine XS.ite ?_ | refine XS.asg ?_) | (guard_target =~ XE _ _ _ _ _; first | refine XE.var rfl ?_ | refine XE.int ?_ | refine XE.op dr_ixL ?_ | refine XE.op dr_eq ?_) | (guard_target =~ XT _ _ _ _ _; first | refine XT.test ?_) | refine go_eq rfl rfl rfl ?_ | refine go_bl ?_))
    refine go_ix (j := 0) (x := qD q0) atI_zero ?_
    (repeat' (first | (guard_target =~ XS _ _ _ _ _; first | refine XS.seq ?_ | refine XS.ret ?_ | refine XS.ite ?_) | (guard_target =~ XE _ _ _ _ _; first | refine XE.var rfl ?_ | refine XE.int ?_ | refine XE.op dr_eq ?_) | (guard_target =~ XT _ _ _ _ _; first | refine XT.test ?_) | (guard_target =~ XGs _ _ _ _ _ _; first | refine XGs.cons ?_ | refine XGs.nil ?_) | (guard_target =~ XG _ _ _ _ _ _; first | refine XG.name rfl ?_ | refine XG.tupG rfl ?_) | refine go_eq rfl rfl rfl ?_ | refine go_bl ?_))
    refine XE.kmX (X := fun _ e => X e) rfl (fun O σ m' H' e cls d x R q => hX O _ m' σ H' e cls d x R q) ?_
    (repeat' (first | refine XE.var rfl ?_ | refine XA.nil ?_ | refine XA.cons ?_ | refine go_ins rfl rfl ?_ | refine go_kc rfl rfl ?_))
    refine ⟨ns, q0.1, q0.2, rfl, A.sz q0 (List.mem_cons_self ..), mp, fun h => x13 ?_, fun h => q _ ?_⟩
    · exact if_neg (by decide) |>.trans (if_pos (.inr ⟨q0, List.mem_singleton.mpr rfl, h⟩))
    · exact if_neg (by decide) |>.trans (if_neg (by rintro (h' | ⟨y, hy, h'⟩); exact absurd h' (by show ¬ manyH ns < 1; omega); rw [List.mem_singleton.mp hy] at h'; exact absurd h' h))
  · (repeat' (first | (guard_target =~ XS _ _ _ _ _; first | refine XS.next ?_ | refine XS.seq ?_ | refine XS.ite ?_ | refine XS.asg ?_) | (guard_target =~ XE _ _ _ _ _; first | refine XE.var rfl ?_ | refine XE.int ?_ | refine XE.op dr_ixL ?_ | refine XE.op dr_eq ?_) | (guard_target =~ XT _ _ _ _ _; first | refine XT.test ?_) | refine go_eq rfl rfl rfl ?_ | refine go_bl ?_))
    refine go_ix (j := 0) (x := qD q0) atI_zero ?_
    (repeat' (first | (guard_target =~ XS _ _ _ _ _; first | refine XS.next ?_ | refine XS.seq ?_ | refine XS.ret ?_ | refine XS.ite ?_) | (guard_target =~ XE _ _ _ _ _; first | refine XE.var rfl ?_ | refine XE.int ?_ | refine XE.op dr_eq ?_) | (guard_target =~ XT _ _ _ _ _; first | refine XT.test ?_) | (guard_target =~ XGs _ _ _ _ _ _; first | refine XGs.cons ?_ | refine XGs.nil ?_) | (guard_target =~ XG _ _ _ _ _ _; first | refine XG.name rfl ?_ | refine XG.tupG rfl ?_) | refine go_eq rfl rfl rfl ?_ | refine go_bl ?_))
    refine XE.kmX (X := fun _ e => X e) rfl (fun O σ m' H' e cls d x R q => hX O _ m' σ H' e cls d x R q) ?_
    (repeat' (first | refine XE.var rfl ?_ | refine XA.nil ?_ | refine XA.cons ?_ | refine go_ins rfl rfl ?_ | refine go_kc rfl rfl ?_))
    refine ⟨ns, q0.1, q0.2, rfl, A.sz q0 (List.mem_cons_self ..), mp, fun h => x13 ?_, fun h => q _ ?_⟩
    · exact if_neg (by decide) |>.trans (if_pos (.inr ⟨q0, List.mem_singleton.mpr rfl, h⟩))
    · exact if_neg (by decide) |>.trans (if_neg (by rintro (h' | ⟨y, hy, h'⟩); exact absurd h' (by show ¬ manyH ns < 1; omega); rw [List.mem_singleton.mp hy] at h'; exact absurd h' h))
  · (repeat' (first | (guard_target =~ XS _ _ _ _ _; first | refine XS.next ?_ | refine XS.seq ?_ | refine XS.ite ?_ | refine XS.asg ?_) | (guard_target =~ XE _ _ _ _ _; first | refine XE.var rfl ?_ | refine XE.int ?_ | refine XE.op dr_ixL ?_ | refine XE.op dr_eq ?_) | (guard_target =~ XT _ _ _ _ _; first | refine XT.test ?_) | refine go_eq rfl rfl rfl ?_ | refine go_bl ?_))
    refine go_ix (j := 0) (x := qD q0) atI_zero ?_
    (repeat' (first | (guard_target =~ XS _ _ _ _ _; first | refine XS.next ?_ | refine XS.seq ?_ | refine XS.ret ?_ | refine XS.ite ?_) | (guard_target =~ XE _ _ _ _ _; first | refine XE.var rfl ?_ | refine XE.int ?_ | refine XE.op dr_eq ?_) | (guard_target =~ XT _ _ _ _ _; first | refine XT.test ?_) | (guard_target =~ XGs _ _ _ _ _ _; first | refine XGs.cons ?_ | refine XGs.nil ?_) | (guard_target =~ XG _ _ _ _ _ _; first | refine XG.name rfl ?_ | refine XG.tupG rfl ?_) | refine go_eq rfl rfl rfl ?_ | refine go_bl ?_))
    refine XE.kmX (X := fun _ e => X e) rfl (fun O σ m' H' e cls d x R q => hX O _ m' σ H' e cls d x R q) ?_
    (repeat' (first | refine XE.var rfl ?_ | refine XA.nil ?_ | refine XA.cons ?_ | refine go_ins rfl rfl ?_ | refine go_kc rfl rfl ?_))
    refine ⟨ns, q0.1, q0.2, rfl, A.sz q0 (List.mem_cons_self ..), mp, fun h => x13 ?_, fun h => q _ ?_⟩
    · exact if_neg (by decide) |>.trans (if_pos (.inr ⟨q0, List.mem_singleton.mpr rfl, h⟩))
    · exact if_neg (by decide) |>.trans (if_neg (by rintro (h' | ⟨y, hy, h'⟩); exact absurd h' (by show ¬ manyH ns < 1; omega); rw [List.mem_singleton.mp hy] at h'; exact absurd h' h))
  · (repeat' (first | (guard_target =~ XS _ _ _ _ _; first | refine XS.next ?_ | refine XS.seq ?_ | refine XS.ite ?_ | refine XS.asg ?_) | (guard_target =~ XE _ _ _ _ _; first | refine XE.var rfl ?_ | refine XE.int ?_ | refine XE.op dr_ixL ?_ | refine XE.op dr_eq ?_) | (guard_target =~ XT _ _ _ _ _; first | refine XT.test ?_) | refine go_eq rfl rfl rfl ?_ | refine go_bl ?_))
    refine go_ix (j := 0) (x := qD q0) atI_zero ?_
    (repeat' (first | (guard_target =~ XS _ _ _ _ _; first | refine XS.next ?_ | refine XS.seq ?_ | refine XS.ret ?_ | refine XS.ite ?_) | (guard_target =~ XE _ _ _ _ _; first | refine XE.var rfl ?_ | refine XE.int ?_ | refine XE.op dr_eq ?_) | (guard_target =~ XT _ _ _ _ _; first | refine XT.test ?_) | (guard_target =~ XGs _ _ _ _ _ _; first | refine XGs.cons ?_ | refine XGs.nil ?_) | (guard_target =~ XG _ _ _ _ _ _; first | refine XG.name rfl ?_ | refine XG.tupG rfl ?_) | refine go_eq rfl rfl rfl ?_ | refine go_bl ?_))
    refine XE.kmX (X := fun _ e => X e) rfl (fun O σ m' H' e cls d x R q => hX O _ m' σ H' e cls d x R q) ?_
    (repeat' (first | refine XE.var rfl ?_ | refine XA.nil ?_ | refine XA.cons ?_ | refine go_ins rfl rfl ?_ | refine go_kc rfl rfl ?_))
    refine ⟨ns, q0.1, 1, rfl, (by decide : (1 : Int).natAbs < 2 ^ 8000), mp, fun h => absurd h (by decide), fun h => q _ ?_⟩
    · exact if_neg (by decide) |>.trans (if_neg (by rintro (h' | ⟨y, hy, h'⟩); exact absurd h' (by show ¬ manyH ns < 1; omega); rw [List.mem_singleton.mp hy] at h'; exact absurd h' (show ¬ (1 : Int) = 0 by decide)))
abbrev s_Ldue : Stmt := top 87
abbrev N_Ldue : List Str := ["_law_way", "_law_steps", "_law_quota", "_law_spot_at", "_law_many_here", "_law_some", "_law_spot", "_law_k", "_law_hi", "_law_lo"]
abbrev P_Ldue : List Str := ["_law_way", "_law_steps", "_law_quota", "_law_spot_at"]
theorem sc_Ldue : FnScope N_Ldue ["_law_way", "_law_steps", "_law_quota", "_law_spot_at"] (defScope s_Ldue) := ⟨rfl, rfl, rfl, by decide +kernel, rfl, by decide +kernel, by decide +kernel⟩

theorem ok_Ldue (T : Txt K mg c) {f : Addr} {fd : FuncData} (F : L2.Fun K "_law_due" "_law_due" s_Ldue f fd) (h_Lmany : Cal P w K mg base 1 "_law_many" (spD W_Lmany) []) (h_Llow : Cal P w K mg base 2 "_law_low" (spD W_Llow) []) : FnOk P w K mg base CX0 3 f fd P_Ldue (spD W_Ldue) := by
  refine okD F sc_Ldue (fun ds C ⟨_, _, _, _, e, _⟩ => by rw [e]; rfl) fun cdv A outer s H E hr => ⟨_, (pss_cons (ps_set (i := 4) sc_Ldue.nd rfl (by first | exact Or.inl rfl | exact Or.inr rfl) (pe_c h_Lmany hr (by decide) rfl (pa_cons (pv 1) pa_nil)))
      (pss_cons (ps_if (pt_cmpR op_in_seq (pv 0) (pe_lst (pa_cons pe_int (pa_cons pe_int pa_nil))) (by rfl)) (pss_cons (ps_if (pt_not (pt_chain op_le op_lt pe_int (pv 3) (pe_callB call_len_seq (by rfl) T.z_len (by decide +kernel) (pa_cons (pv 1) pa_nil)))) (pss_one (ps_ret (pe_lst (pa_cons pe_int pa_nil)))) pss_nil)
      (pss_cons (ps_set (i := 6) sc_Ldue.nd rfl (by first | exact Or.inl rfl | exact Or.inr rfl) (pe_c h_Lmany hr (by decide) rfl (pa_cons (pe_slice sl_list (pv 1) po_none (po_some (pv 3))) pa_nil)))
      (pss_one (ps_ret (pe_lc (own := [("_law_k", 7)]) (g := gName 7) (by rfl) sc_Ldue.nd (pi_range1 rfl T.z_range (pa_cons (pv 4) pa_nil)) (blkOk_by (own := [("_law_k", 7)]) (N := N_Ldue) (sc := defScope s_Ldue) (by decide +kernel)) (fun _ _ _ _ _ => (pg_name (i := 7) sc_Ldue.nd rfl (by first | exact Or.inl rfl | exact Or.inr rfl))) (fun _ _ _ _ _ => pts_nil) (fun _ _ _ _ _ => (pe_tup (pa_cons (pe_callTy call_int1 (by rfl) T.z_int (by decide +kernel) (pa_cons (pe_cmpR op_eq (pv 7) (pv 6) (nomark _)) pa_nil)) (pa_cons pe_int pa_nil))))))))) pss_nil)
      (pss_cons (ps_set (i := 5) sc_Ldue.nd rfl (by first | exact Or.inl rfl | exact Or.inr rfl) (pe_ix ix_list (pe_lst (pa_cons (pv 2) (pa_cons (pe_slice sl_list (pv 2) po_none (po_some pe_int)) pa_nil))) (pe_callTy call_int1 (by rfl) T.z_int (by decide +kernel) (pa_cons (pe_cmpR op_gt (pv 0) pe_int (nomark _)) pa_nil)) (fun _ _ => rfl)))
      (pss_cons (ps_if (pt_cmpR op_eq (pv 0) pe_int (nomark _)) (pss_one (ps_set (i := 5) sc_Ldue.nd rfl (by first | exact Or.inl rfl | exact Or.inr rfl) (pe_lst (pa_cons (pe_tup (pa_cons (pe_ix ix_tup (pe_ix ix_list (pv 2) pe_int (fun _ _ => rfl)) pe_int (fun _ _ => rfl)) (pa_cons pe_int pa_nil))) pa_nil)))) pss_nil)
      (pss_cons (ps_if (PW.pt (pw_or (pt_cmpR op_gt (pe_callB call_len_seq (by rfl) T.z_len (by decide +kernel) (pa_cons (pv 5) pa_nil)) (pv 4) (nomark _)) (pw_or1 (pt_cmpR (op_neD hr.units) (pe_lc (own := [("_law_hi", 8), ("_law_lo", 9)]) (g := gTup K 2 (gCons (gName 8) (gCons (gName 9) gNil))) (by rfl) sc_Ldue.nd (pi_list (pv 5)) (blkOk_by (own := [("_law_hi", 8), ("_law_lo", 9)]) (N := N_Ldue) (sc := defScope s_Ldue) (by decide +kernel)) (fun _ _ _ _ _ => (pg_tup rfl (pgs_cons (pg_name (i := 8) sc_Ldue.nd rfl (by first | exact Or.inl rfl | exact Or.inr rfl)) (pgs_cons (pg_name (i := 9) sc_Ldue.nd rfl (by first | exact Or.inl rfl | exact Or.inr rfl)) pgs_nil)))) (fun _ _ _ _ _ => (pts_one (pt_cmpR op_eq (pv 9) pe_int (nomark _)))) (fun _ _ _ _ _ => pe_int)) (pe_lst pa_nil) (nomark _))))) (pss_one (ps_ret (pe_lst (pa_cons pe_int pa_nil)))) pss_nil)
      (pss_one (ps_ret (pe_op op_cat (pe_c h_Llow hr (by decide) rfl (pa_cons (pv 5) pa_nil)) (pe_op op_rep (pe_lst (pa_cons (pe_tup (pa_cons pe_int (pa_cons pe_int pa_nil))) pa_nil)) (pe_op op_sub (pv 4) (pe_callB call_len_seq (by rfl) T.z_len (by decide +kernel) (pa_cons (pv 5) pa_nil)))))))))))), fun z ds C ⟨way, ns, qs, j, e, hw, A, q⟩ => ?_⟩
  subst e
  have mp := manyH_pos A.g
  have ml := manyH_le ns
  have hs := rowsZ_hs A.g
  have hmm := manyH_R ns
  obtain ⟨q0, qr, rfl⟩ := List.exists_cons_of_ne_nil A.ne
  (repeat' (first | refine XS.seq ?_ | refine XS.set ?_ | refine XE.var rfl ?_ | refine XE.call ?_ | refine XA.nil ?_ | refine XA.cons ?_))
  refine ⟨rowsZ ns, rfl, hs.l, hs.d, by omega, ?_⟩
  rw [hmm]
  (repeat' (first | refine XS.seq ?_ | refine XS.ite ?_ | refine XT.test ?_))
  refine XE.op dr_in ?_
  (repeat' (first | refine XE.var rfl ?_ | refine XE.int ?_ | refine XE.ofN (XN.lst ?_) | refine XA.nil ?_ | refine XA.cons ?_ | refine go_len rfl ?_))
  refine ⟨way, [2, 3], rfl, rfl, ?_⟩
  (repeat' (first | refine go_bl ?_))
  by_cases hl : way = 2 ∨ way = 3
  · have ei : inV (.int (way : Int)) ([2, 3].map V.int) = true := by rcases hl with rfl | rfl <;> rfl
    rw [ei]
    refine iteT ?_
    have er : ¬(0 ≤ j ∧ j < ((rowsZ ns).length : Int)) → ansR way ns (q0 :: qr) j = .error 2 := fun h => (if_pos hl).trans (if_neg h)
    have eo : (0 ≤ j ∧ j < ((rowsZ ns).length : Int)) → ansR way ns (q0 :: qr) j = .ok (unitL (manyH ns) (spotH ns j.toNat)) := fun h => (if_pos hl).trans (if_pos h)
    (repeat' (first | refine XS.seq ?_ | refine XS.ite ?_ | refine XT.test ?_ | refine XT.not ?_))
    refine XE.chain dr_I0 dr_I0 ?_
    (repeat' (first | refine XE.var rfl ?_ | refine XE.int ?_ | refine go_I0 ?_ | refine go_bl ?_))
    refine ite2 (fun h0 => ?_) (fun h0 => ?_)
    · have h0 := of_decide_eq_true h0
      (repeat' (first | refine XE.var rfl ?_ | refine XE.len1 ?_ | refine go_len1 rfl ?_ | refine go_I0 ?_ | refine go_bl ?_))
      refine ite2 (fun h1 => ?_) (fun h1 => ?_)
      · have h1 : ¬ j < ((rowsZ ns).length : Int) := by
          rw [List.length_map] at h1
          simpa using h1
        rw [er fun h => h1 h.2] at q
        (repeat' (first | refine XS.ret ?_ | refine XE.int ?_ | refine XE.ofN (XN.lst ?_) | refine XA.nil ?_ | refine XA.cons ?_ | refine go_len rfl ?_))
        exact q
      · have h1 : j < ((rowsZ ns).length : Int) := by
          rw [List.length_map] at h1
          simpa using h1
        rw [eo ⟨h0, h1⟩] at q
        obtain ⟨k, rfl⟩ := Int.eq_ofNat_of_zero_le h0
        have hk : k < (rowsZ ns).length := by omega
        have ec : cutD ((rowsZ ns).map rwD) none (some (k : Int)) = ((rowsZ ns).take k).map rwD := by
          unfold cutD
          rw [HT.sIx_none, HT.sIx_nat, List.length_map, Nat.min_eq_left (by omega), List.drop_zero, Nat.sub_zero, List.map_take]
        have hm := spot_lt hs.d hk
        (repeat' (first | (guard_target =~ XS _ _ _ _ _; first | refine XS.next ?_ | refine XS.seq ?_ | refine XS.set ?_) | (guard_target =~ XE _ _ _ _ _; first | refine XE.var rfl ?_ | refine XE.ofN (XN.sl ?_) | refine XE.call ?_) | (guard_target =~ XA _ _ _ _ _; first | refine XA.nil ?_ | refine XA.cons ?_) | (guard_target =~ XO _ _ _ _ _; first | refine XO.no ?_ | refine XO.yes ?_) | refine go_int ?_ | refine go_lst ?_))
        rw [ec]
        refine ⟨(rowsZ ns).take k, rfl, by rw [List.length_take]; have := hs.l; omega, fun r hr => hs.d r (List.mem_of_mem_take hr), by omega, ?_⟩
        (repeat' (first | refine XS.ret ?_))
        refine XE.ofN (XN.to (XI.rng1 ?_))
        (repeat' (first | refine XE.var rfl ?_ | refine XA.nil ?_ | refine XA.cons ?_ | refine go_rg1 ?_ ?_))
        · omega
        rw [Int.toNat_natCast]
        refine ⟨(unitL (manyH ns) (spotH ns k)).map frD, by unfold rngD unitL; simp, by unfold rngD; simp; omega, fun i d o hi ho => ?_, ?_⟩
        · obtain ⟨il, rfl⟩ := rng_get hi
          have eo : o = frD (if i = spotH ns k then 1 else 0) := by
            unfold unitL at ho
            rw [List.map_map, List.getElem?_map, List.getElem?_range il] at ho
            exact (Option.some.inj ho).symm
          rw [show (0 : Int) + (i : Int) = (i : Int) by omega]
          (repeat' (first | refine XE.var rfl ?_ | refine XE.op dr_eq ?_ | refine XE.tup ?_ | refine XE.cb db_int1 ?_ | refine XA.nil ?_ | refine XA.cons ?_ | refine XG.name rfl ?_ | refine go_eq rfl rfl rfl ?_))
          refine .inr ⟨_, rfl, ?_⟩
          (repeat' (first | refine XE.int ?_ | refine XA.nil ?_ | refine XA.cons ?_ | refine go_len rfl ?_))
          refine ⟨rfl, ?_⟩
          rw [eo]
          by_cases en : i = spotH ns k
          · rw [if_pos en, show eqS (.int (i : Int)) (.int (manyR (rrOf ((rowsZ ns).take k)) : Nat)) = true from decide_eq_true (by rw [en]; rfl)]; rfl
          · rw [if_neg en, show eqS (.int (i : Int)) (.int (manyR (rrOf ((rowsZ ns).take k)) : Nat)) = false from decide_eq_false (fun h => en (Int.ofNat_inj.mp h))]; rfl
        · exact q
    · have h0 : ¬ 0 ≤ j := fun h => h0 (decide_eq_true h)
      rw [er fun h => h0 h.1] at q
      (repeat' (first | refine XS.ret ?_ | refine XE.int ?_ | refine XE.ofN (XN.lst ?_) | refine XA.nil ?_ | refine XA.cons ?_ | refine go_len rfl ?_ | refine go_bl ?_))
      exact q
  · have ei : inV (.int (way : Int)) ([2, 3].map V.int) = false := by
      have h8 : way = 0 ∨ way = 1 ∨ way = 4 ∨ way = 5 ∨ way = 6 ∨ way = 7 := by omega
      rcases h8 with rfl | rfl | rfl | rfl | rfl | rfl <;> rfl
    rw [ei]
    refine iteF ?_
    (repeat' (first | (guard_target =~ XS _ _ _ _ _; first | refine XS.next ?_ | refine XS.seq ?_ | refine XS.set ?_) | (guard_target =~ XE _ _ _ _ _; first | refine XE.var rfl ?_ | refine XE.int ?_ | refine XE.op dr_I0 ?_ | refine XE.op dr_ixL ?_ | refine XE.ofN (XN.lst ?_) | refine XE.ofN (XN.sl ?_) | refine XE.cb db_int1 ?_) | (guard_target =~ XA _ _ _ _ _; first | refine XA.nil ?_ | refine XA.cons ?_) | (guard_target =~ XO _ _ _ _ _; first | refine XO.no ?_ | refine XO.yes ?_) | refine go_I0 ?_ | refine go_len rfl ?_ | refine go_int ?_ | refine go_lst ?_))
    refine .inr ⟨_, rfl, ?_⟩
    by_cases h3 : way ≤ 3
    · have h1 : way ≤ 1 := by omega
      rw [decide_eq_false (show ¬ (3 : Int) < (way : Int) by omega)]
      refine go_ix (j := 0) (x := qsD (q0 :: qr)) rfl ?_
      (repeat' (first | refine XS.seq ?_ | refine XS.ite ?_ | refine XE.var rfl ?_ | refine XE.int ?_ | refine XE.op dr_eq ?_ | refine XT.test ?_ | refine go_eq rfl rfl rfl ?_ | refine go_bl ?_))
      rw [show eqS (.int (way : Int)) (.int 7) = false from decide_eq_false (by omega)]
      refine iteF ?_
      have lR : (q0 :: qr).length ≤ 900 := by have := A.l; simp at this ⊢; omega
      have sR : ∀ y ∈ (q0 :: qr), Sz 8000 y.2 := A.sz
      have eR : rowOf way (q0 :: qr) = (q0 :: qr) := if_pos h3
      have e13 : (manyH ns < (q0 :: qr).length ∨ ∃ y ∈ (q0 :: qr), y.2 = 0) → ansR way ns (q0 :: qr) j = .error 13 := fun h => by
        unfold ansR
        rw [if_neg hl, eR, if_pos h]
      have eok : ¬(manyH ns < (q0 :: qr).length ∨ ∃ y ∈ (q0 :: qr), y.2 = 0) → ansR way ns (q0 :: qr) j = .ok ((q0 :: qr).map qR ++ vz (manyH ns - (q0 :: qr).length)) := fun h => by
        unfold ansR
        rw [if_neg hl, eR, if_neg h]
      (repeat' (first | (guard_target =~ XS _ _ _ _ _; first | refine XS.next ?_ | refine XS.seq ?_ | refine XS.ite ?_) | (guard_target =~ XE _ _ _ _ _; first | refine XE.var rfl ?_ | refine XE.op dr_I0 ?_ | refine XE.len1 ?_) | (guard_target =~ XT _ _ _ _ _; first | refine XT.test ?_ | refine XT.or ?_) | refine go_len1 rfl ?_ | refine go_I0 ?_ | refine go_bl ?_))
      rw [show (List.map qD (q0 :: qr)).length = (q0 :: qr).length from List.length_map _]
      by_cases hlen : manyH ns < (q0 :: qr).length
      · rw [decide_eq_true (show (manyH ns : Int) < ((q0 :: qr).length : Int) by omega)]
        refine iteT ?_
        refine iteT ?_
        (repeat' (first | refine XS.ret ?_ | refine XE.int ?_ | refine XE.ofN (XN.lst ?_) | refine XA.nil ?_ | refine XA.cons ?_ | refine go_len rfl ?_))
        rw [e13 (.inl hlen)] at q
        exact q
      · rw [decide_eq_false (show ¬ (manyH ns : Int) < ((q0 :: qr).length : Int) by omega)]
        refine iteF ?_
        (repeat' (first | refine XE.op dr_neD ?_ | refine XT.test ?_))
        refine XE.ofN (XN.lc (XI.list ?_))
        (repeat' (first | refine XE.var rfl ?_ | refine go_lst ?_))
        refine ⟨fun i acc m => acc = (((q0 :: qr).take i).filter (fun y => decide (y.2 = 0))).map (fun _ => Dat.int 1) ∧ m = 0, ⟨rfl, rfl⟩, fun i d acc m2 hi ⟨e1, e2⟩ => ?_, fun acc m2 ⟨e1, e2⟩ => ?_⟩
        · subst e1 e2
          obtain ⟨y, hy, rfl⟩ := map_get hi
          have il := (List.getElem?_eq_some_iff.mp hy).1
          (repeat' (first | refine XE.var rfl ?_ | refine XE.int ?_ | refine XE.op dr_eq ?_ | refine XT.test ?_ | refine XGs.cons ?_ | refine XGs.nil ?_ | refine XG.name rfl ?_ | refine XG.tupG rfl ?_ | refine go_eq rfl rfl rfl ?_ | refine go_bl ?_))
          by_cases e0 : y.2 = 0
          · rw [show eqS (.int y.2) (.int 0) = true from decide_eq_true e0]
            refine iteT ?_
            (repeat' (first | refine XE.int ?_))
            refine ⟨?_, ?_, rfl⟩
            · rw [List.length_map]
              have h1 := List.length_filter_le (fun y : Int × Int => decide (y.2 = 0)) ((q0 :: qr).take i)
              have h2 := List.length_take_le i (q0 :: qr)
              omega
            · rw [take_more hy, List.filter_append, List.filter_cons_of_pos (by simpa using e0), List.filter_nil, List.map_append]; rfl
          · rw [show eqS (.int y.2) (.int 0) = false from decide_eq_false e0]
            refine iteF ?_
            refine ⟨?_, rfl⟩
            rw [take_more hy, List.filter_append, List.filter_cons_of_neg (by simpa using e0), List.filter_nil, List.append_nil]
        · subst e1 e2
          rw [List.length_map, List.take_length]
          have en : (((q0 :: qr).filter (fun y => decide (y.2 = 0))).map (fun _ => Dat.int 1)) = (((q0 :: qr).filter (fun y => decide (y.2 = 0))).map (fun _ => (1 : Int))).map Dat.int := by rw [List.map_map]; rfl
          rw [en]
          (repeat' (first | refine XE.ofN (XN.lst ?_) | refine XA.nil ?_ | refine go_len rfl ?_))
          refine go_neD (cmp_ns _) (cmp_ns []) ?_
          have eE : eqD (Dat.lst ((((q0 :: qr).filter (fun y => decide (y.2 = 0))).map (fun _ => (1 : Int))).map Dat.int)) (Dat.lst []) = decide ((((q0 :: qr).filter (fun y => decide (y.2 = 0))).map (fun _ => (1 : Int))) = []) := eqD_ns _ []
          rw [eE]
          (repeat' (first | refine go_bl ?_))
          by_cases hz : ∃ y ∈ (q0 :: qr), y.2 = 0
          · have hne : (((q0 :: qr).filter (fun y => decide (y.2 = 0))).map (fun _ => (1 : Int))) ≠ [] := fun h => by
              obtain ⟨y, hy, y0⟩ := hz
              have hm : y ∈ (q0 :: qr).filter (fun y => decide (y.2 = 0)) := List.mem_filter.mpr ⟨hy, decide_eq_true y0⟩
              rw [List.map_eq_nil_iff] at h
              rw [h] at hm
              cases hm
            rw [decide_eq_false hne]
            refine iteT ?_
            (repeat' (first | refine XS.ret ?_ | refine XE.int ?_ | refine XE.ofN (XN.lst ?_) | refine XA.nil ?_ | refine XA.cons ?_ | refine go_len rfl ?_))
            rw [e13 (.inr hz)] at q
            exact q
          · have hnil : (((q0 :: qr).filter (fun y => decide (y.2 = 0))).map (fun _ => (1 : Int))) = [] := by
              rw [List.map_eq_nil_iff, List.filter_eq_nil_iff]
              exact fun y hy h => hz ⟨y, hy, of_decide_eq_true h⟩
            rw [decide_eq_true hnil]
            refine iteF ?_
            (repeat' (first | refine XS.next ?_ | refine XS.ret ?_ | refine XE.var rfl ?_ | refine XE.ofN (XN.op dn_cat ?_) | refine XE.call ?_ | refine XA.nil ?_ | refine XA.cons ?_))
            refine ⟨(q0 :: qr), rfl, lR, fun y hy => ⟨fun h => hz ⟨y, hy, h⟩, sR y hy⟩, ?_⟩
            have lq : (List.map qD (q0 :: qr)).length = (q0 :: qr).length := List.length_map _
            have ek : ((manyH ns : Int) - ((q0 :: qr).length : Int)) = ((manyH ns - (q0 :: qr).length : Nat) : Int) := by omega
            (repeat' (first | (guard_target =~ XE _ _ _ _ _; first | refine XE.var rfl ?_ | refine XE.int ?_ | refine XE.op dr_I0 ?_ | refine XE.tup ?_ | refine XE.ofN (XN.lst ?_) | refine XE.ofN (XN.op dn_rep ?_) | refine XE.len1 ?_) | (guard_target =~ XA _ _ _ _ _; first | refine XA.nil ?_ | refine XA.cons ?_) | refine go_len1 rfl ?_ | refine go_I0 ?_ | refine go_len rfl ?_ | refine go_cat ?_ ?_ | refine go_rep ?_ ?_ ?_ ?_))
            · omega
            · omega
            · show 1 * _ ≤ 1000
              omega
            · rw [lq, ek, flat_fr, List.length_map, List.length_map, List.length_map, vz_len]
              omega
            · rw [lq, ek, flat_fr, ← List.map_append]
              rw [eok (fun h => h.elim hlen hz)] at q
              exact q
    · rw [decide_eq_true (show (3 : Int) < (way : Int) by omega)]
      have e1 : cutD ((q0 :: qr).map qD) none (some 1) = [q0].map qD := by
        unfold cutD
        rw [HT.sIx_none, show (1 : Int) = ((1 : Nat) : Int) from rfl, HT.sIx_nat, List.length_map, Nat.min_eq_left (by simp), List.drop_zero, Nat.sub_zero]
        rfl
      rw [e1]
      refine go_ix (j := 1) (x := qsD [q0]) rfl ?_
      (repeat' (first | refine XS.seq ?_ | refine XS.ite ?_ | refine XE.var rfl ?_ | refine XE.int ?_ | refine XE.op dr_eq ?_ | refine XT.test ?_ | refine go_eq rfl rfl rfl ?_ | refine go_bl ?_))
      by_cases h7 : way = 7
      · rw [show eqS (.int (way : Int)) (.int 7) = true from decide_eq_true (by omega)]
        refine iteT ?_
        (repeat' (first | refine XS.set ?_ | refine XE.var rfl ?_ | refine XE.int ?_ | refine XE.op dr_ixL ?_ | refine XE.op dr_ixT ?_ | refine XE.tup ?_ | refine XE.ofN (XN.lst ?_) | refine XA.cons ?_))
        refine go_ix (j := 0) (x := qD q0) atI_zero ?_
        (repeat' (first | refine XE.int ?_ | refine XA.nil ?_ | refine XA.cons ?_ | refine go_ixT rfl ?_ | refine go_len rfl ?_))
        show XS z _ ((argsG N_Ldue.length [Dat.int (way : Int), rwsD (rowsZ ns), qsD (q0 :: qr), Dat.int j]).set 4 (Sl.dt (Dat.int (manyH ns : Nat))) |>.set 5 (Sl.dt (qsD [q0])) |>.set 5 (Sl.dt (qsD [(q0.1, 1)]))) _ _
        generalize hR : [(q0.1, (1 : Int))] = R
        have lR : (R).length ≤ 900 := by rw [← hR]; exact (show 1 ≤ 900 by decide)
        have sR : ∀ y ∈ (R), Sz 8000 y.2 := fun y hy => by rw [← hR] at hy; rw [List.mem_singleton.mp hy]; exact (by decide : (1 : Int).natAbs < 2 ^ 8000)
        have eR : rowOf way (q0 :: qr) = (R) := by rw [← hR]; exact (if_neg h3).trans (if_pos h7)
        have e13 : (manyH ns < (R).length ∨ ∃ y ∈ (R), y.2 = 0) → ansR way ns (q0 :: qr) j = .error 13 := fun h => by
          unfold ansR
          rw [if_neg hl, eR, if_pos h]
        have eok : ¬(manyH ns < (R).length ∨ ∃ y ∈ (R), y.2 = 0) → ansR way ns (q0 :: qr) j = .ok ((R).map qR ++ vz (manyH ns - (R).length)) := fun h => by
          unfold ansR
          rw [if_neg hl, eR, if_neg h]
        (repeat' (first | refine XS.seq ?_ | refine XS.ite ?_ | refine XE.var rfl ?_ | refine XE.op dr_I0 ?_ | refine XE.len1 ?_ | refine XT.test ?_ | refine XT.or ?_ | refine go_len1 rfl ?_ | refine go_I0 ?_ | refine go_bl ?_))
        rw [show (List.map qD (R)).length = (R).length from List.length_map _]
        by_cases hlen : manyH ns < (R).length
        · rw [decide_eq_true (show (manyH ns : Int) < ((R).length : Int) by omega)]
          refine iteT ?_
          refine iteT ?_
          (repeat' (first | refine XS.ret ?_ | refine XE.int ?_ | refine XE.ofN (XN.lst ?_) | refine XA.nil ?_ | refine XA.cons ?_ | refine go_len rfl ?_))
          rw [e13 (.inl hlen)] at q
          exact q
        · rw [decide_eq_false (show ¬ (manyH ns : Int) < ((R).length : Int) by omega)]
          refine iteF ?_
          (repeat' (first | refine XE.op dr_neD ?_ | refine XT.test ?_))
          refine XE.ofN (XN.lc (XI.list ?_))
          (repeat' (first | refine XE.var rfl ?_ | refine go_lst ?_))
          refine ⟨fun i acc m => acc = (((R).take i).filter (fun y => decide (y.2 = 0))).map (fun _ => Dat.int 1) ∧ m = 0, ⟨rfl, rfl⟩, fun i d acc m2 hi ⟨e1, e2⟩ => ?_, fun acc m2 ⟨e1, e2⟩ => ?_⟩
          · subst e1 e2
            obtain ⟨y, hy, rfl⟩ := map_get hi
            have il := (List.getElem?_eq_some_iff.mp hy).1
            (repeat' (first | refine XE.var rfl ?_ | refine XE.int ?_ | refine XE.op dr_eq ?_ | refine XT.test ?_ | refine XGs.cons ?_ | refine XGs.nil ?_ | refine XG.name rfl ?_ | refine XG.tupG rfl ?_ | refine go_eq rfl rfl rfl ?_ | refine go_bl ?_))
            by_cases e0 : y.2 = 0
            · rw [show eqS (.int y.2) (.int 0) = true from decide_eq_true e0]
              refine iteT ?_
              (repeat' (first | refine XE.int ?_))
              refine ⟨?_, ?_, rfl⟩
              · rw [List.length_map]
                have h1 := List.length_filter_le (fun y : Int × Int => decide (y.2 = 0)) ((R).take i)
                have h2 := List.length_take_le i (R)
                omega
              · rw [take_more hy, List.filter_append, List.filter_cons_of_pos (by simpa using e0), List.filter_nil, List.map_append]; rfl
            · rw [show eqS (.int y.2) (.int 0) = false from decide_eq_false e0]
              refine iteF ?_
              refine ⟨?_, rfl⟩
              rw [take_more hy, List.filter_append, List.filter_cons_of_neg (by simpa using e0), List.filter_nil, List.append_nil]
          · subst e1 e2
            rw [List.length_map, List.take_length]
            have en : (((R).filter (fun y => decide (y.2 = 0))).map (fun _ => Dat.int 1)) = (((R).filter (fun y => decide (y.2 = 0))).map (fun _ => (1 : Int))).map Dat.int := by rw [List.map_map]; rfl
            rw [en]
            (repeat' (first | refine XE.ofN (XN.lst ?_) | refine XA.nil ?_ | refine go_len rfl ?_))
            refine go_neD (cmp_ns _) (cmp_ns []) ?_
            have eE : eqD (Dat.lst ((((R).filter (fun y => decide (y.2 = 0))).map (fun _ => (1 : Int))).map Dat.int)) (Dat.lst []) = decide ((((R).filter (fun y => decide (y.2 = 0))).map (fun _ => (1 : Int))) = []) := eqD_ns _ []
            rw [eE]
            (repeat' (first | refine go_bl ?_))
            by_cases hz : ∃ y ∈ (R), y.2 = 0
            · have hne : (((R).filter (fun y => decide (y.2 = 0))).map (fun _ => (1 : Int))) ≠ [] := fun h => by
                obtain ⟨y, hy, y0⟩ := hz
                have hm : y ∈ (R).filter (fun y => decide (y.2 = 0)) := List.mem_filter.mpr ⟨hy, decide_eq_true y0⟩
                rw [List.map_eq_nil_iff] at h
                rw [h] at hm
                cases hm
              rw [decide_eq_false hne]
              refine iteT ?_
              (repeat' (first | refine XS.ret ?_ | refine XE.int ?_ | refine XE.ofN (XN.lst ?_) | refine XA.nil ?_ | refine XA.cons ?_ | refine go_len rfl ?_))
              rw [e13 (.inr hz)] at q
              exact q
            · have hnil : (((R).filter (fun y => decide (y.2 = 0))).map (fun _ => (1 : Int))) = [] := by
                rw [List.map_eq_nil_iff, List.filter_eq_nil_iff]
                exact fun y hy h => hz ⟨y, hy, of_decide_eq_true h⟩
              rw [decide_eq_true hnil]
              refine iteF ?_
              (repeat' (first | refine XS.next ?_ | refine XS.ret ?_ | refine XE.var rfl ?_ | refine XE.ofN (XN.op dn_cat ?_) | refine XE.call ?_ | refine XA.nil ?_ | refine XA.cons ?_))
              refine ⟨(R), rfl, lR, fun y hy => ⟨fun h => hz ⟨y, hy, h⟩, sR y hy⟩, ?_⟩
              have lq : (List.map qD (R)).length = (R).length := List.length_map _
              have ek : ((manyH ns : Int) - ((R).length : Int)) = ((manyH ns - (R).length : Nat) : Int) := by omega
              (repeat' (first | (guard_target =~ XE _ _ _ _ _; first | refine XE.var rfl ?_ | refine XE.int ?_ | refine XE.op dr_I0 ?_ | refine XE.tup ?_ | refine XE.ofN (XN.lst ?_) | refine XE.ofN (XN.op dn_rep ?_) | refine XE.len1 ?_) | (guard_target =~ XA _ _ _ _ _; first | refine XA.nil ?_ | refine XA.cons ?_) | refine go_len1 rfl ?_ | refine go_I0 ?_ | refine go_len rfl ?_ | refine go_cat ?_ ?_ | refine go_rep ?_ ?_ ?_ ?_))
              · omega
              · omega
              · show 1 * _ ≤ 1000
                omega
              · rw [lq, ek, flat_fr, List.length_map, List.length_map, List.length_map, vz_len]
                omega
              · rw [lq, ek, flat_fr, ← List.map_append]
                rw [eok (fun h => h.elim hlen hz)] at q
                exact q
      · rw [show eqS (.int (way : Int)) (.int 7) = false from decide_eq_false (by omega)]
        refine iteF ?_
        have lR : ([q0]).length ≤ 900 := (show 1 ≤ 900 by decide)
        have sR : ∀ y ∈ ([q0]), Sz 8000 y.2 := fun y hy => by rw [List.mem_singleton.mp hy]; exact A.sz q0 (List.mem_cons_self ..)
        have eR : rowOf way (q0 :: qr) = ([q0]) := (if_neg h3).trans (if_neg h7)
        have e13 : (manyH ns < ([q0]).length ∨ ∃ y ∈ ([q0]), y.2 = 0) → ansR way ns (q0 :: qr) j = .error 13 := fun h => by
          unfold ansR
          rw [if_neg hl, eR, if_pos h]
        have eok : ¬(manyH ns < ([q0]).length ∨ ∃ y ∈ ([q0]), y.2 = 0) → ansR way ns (q0 :: qr) j = .ok (([q0]).map qR ++ vz (manyH ns - ([q0]).length)) := fun h => by
          unfold ansR
          rw [if_neg hl, eR, if_neg h]
        (repeat' (first | (guard_target =~ XS _ _ _ _ _; first | refine XS.next ?_ | refine XS.seq ?_ | refine XS.ite ?_) | (guard_target =~ XE _ _ _ _ _; first | refine XE.var rfl ?_ | refine XE.op dr_I0 ?_ | refine XE.len1 ?_) | (guard_target =~ XT _ _ _ _ _; first | refine XT.test ?_ | refine XT.or ?_) | refine go_len1 rfl ?_ | refine go_I0 ?_ | refine go_bl ?_))
        rw [show (List.map qD ([q0])).length = ([q0]).length from List.length_map _]
        by_cases hlen : manyH ns < ([q0]).length
        · rw [decide_eq_true (show (manyH ns : Int) < (([q0]).length : Int) by omega)]
          refine iteT ?_
          refine iteT ?_
          (repeat' (first | refine XS.ret ?_ | refine XE.int ?_ | refine XE.ofN (XN.lst ?_) | refine XA.nil ?_ | refine XA.cons ?_ | refine go_len rfl ?_))
          rw [e13 (.inl hlen)] at q
          exact q
        · rw [decide_eq_false (show ¬ (manyH ns : Int) < (([q0]).length : Int) by omega)]
          refine iteF ?_
          (repeat' (first | refine XE.op dr_neD ?_ | refine XT.test ?_))
          refine XE.ofN (XN.lc (XI.list ?_))
          (repeat' (first | refine XE.var rfl ?_ | refine go_lst ?_))
          refine ⟨fun i acc m => acc = ((([q0]).take i).filter (fun y => decide (y.2 = 0))).map (fun _ => Dat.int 1) ∧ m = 0, ⟨rfl, rfl⟩, fun i d acc m2 hi ⟨e1, e2⟩ => ?_, fun acc m2 ⟨e1, e2⟩ => ?_⟩
          · subst e1 e2
            obtain ⟨y, hy, rfl⟩ := map_get hi
            have il := (List.getElem?_eq_some_iff.mp hy).1
            (repeat' (first | refine XE.var rfl ?_ | refine XE.int ?_ | refine XE.op dr_eq ?_ | refine XT.test ?_ | refine XGs.cons ?_ | refine XGs.nil ?_ | refine XG.name rfl ?_ | refine XG.tupG rfl ?_ | refine go_eq rfl rfl rfl ?_ | refine go_bl ?_))
            by_cases e0 : y.2 = 0
            · rw [show eqS (.int y.2) (.int 0) = true from decide_eq_true e0]
              refine iteT ?_
              (repeat' (first | refine XE.int ?_))
              refine ⟨?_, ?_, rfl⟩
              · rw [List.length_map]
                have h1 := List.length_filter_le (fun y : Int × Int => decide (y.2 = 0)) (([q0]).take i)
                have h2 := List.length_take_le i ([q0])
                omega
              · rw [take_more hy, List.filter_append, List.filter_cons_of_pos (by simpa using e0), List.filter_nil, List.map_append]; rfl
            · rw [show eqS (.int y.2) (.int 0) = false from decide_eq_false e0]
              refine iteF ?_
              refine ⟨?_, rfl⟩
              rw [take_more hy, List.filter_append, List.filter_cons_of_neg (by simpa using e0), List.filter_nil, List.append_nil]
          · subst e1 e2
            rw [List.length_map, List.take_length]
            have en : ((([q0]).filter (fun y => decide (y.2 = 0))).map (fun _ => Dat.int 1)) = ((([q0]).filter (fun y => decide (y.2 = 0))).map (fun _ => (1 : Int))).map Dat.int := by rw [List.map_map]; rfl
            rw [en]
            (repeat' (first | refine XE.ofN (XN.lst ?_) | refine XA.nil ?_ | refine go_len rfl ?_))
            refine go_neD (cmp_ns _) (cmp_ns []) ?_
            have eE : eqD (Dat.lst (((([q0]).filter (fun y => decide (y.2 = 0))).map (fun _ => (1 : Int))).map Dat.int)) (Dat.lst []) = decide (((([q0]).filter (fun y => decide (y.2 = 0))).map (fun _ => (1 : Int))) = []) := eqD_ns _ []
            rw [eE]
            (repeat' (first | refine go_bl ?_))
            by_cases hz : ∃ y ∈ ([q0]), y.2 = 0
            · have hne : ((([q0]).filter (fun y => decide (y.2 = 0))).map (fun _ => (1 : Int))) ≠ [] := fun h => by
                obtain ⟨y, hy, y0⟩ := hz
                have hm : y ∈ ([q0]).filter (fun y => decide (y.2 = 0)) := List.mem_filter.mpr ⟨hy, decide_eq_true y0⟩
                rw [List.map_eq_nil_iff] at h
                rw [h] at hm
                cases hm
              rw [decide_eq_false hne]
              refine iteT ?_
              (repeat' (first | refine XS.ret ?_ | refine XE.int ?_ | refine XE.ofN (XN.lst ?_) | refine XA.nil ?_ | refine XA.cons ?_ | refine go_len rfl ?_))
              rw [e13 (.inr hz)] at q
              exact q
            · have hnil : ((([q0]).filter (fun y => decide (y.2 = 0))).map (fun _ => (1 : Int))) = [] := by
                rw [List.map_eq_nil_iff, List.filter_eq_nil_iff]
                exact fun y hy h => hz ⟨y, hy, of_decide_eq_true h⟩
              rw [decide_eq_true hnil]
              refine iteF ?_
              (repeat' (first | refine XS.next ?_ | refine XS.ret ?_ | refine XE.var rfl ?_ | refine XE.ofN (XN.op dn_cat ?_) | refine XE.call ?_ | refine XA.nil ?_ | refine XA.cons ?_))
              refine ⟨([q0]), rfl, lR, fun y hy => ⟨fun h => hz ⟨y, hy, h⟩, sR y hy⟩, ?_⟩
              have lq : (List.map qD ([q0])).length = ([q0]).length := List.length_map _
              have ek : ((manyH ns : Int) - (([q0]).length : Int)) = ((manyH ns - ([q0]).length : Nat) : Int) := by omega
              (repeat' (first | (guard_target =~ XE _ _ _ _ _; first | refine XE.var rfl ?_ | refine XE.int ?_ | refine XE.op dr_I0 ?_ | refine XE.tup ?_ | refine XE.ofN (XN.lst ?_) | refine XE.ofN (XN.op dn_rep ?_) | refine XE.len1 ?_) | (guard_target =~ XA _ _ _ _ _; first | refine XA.nil ?_ | refine XA.cons ?_) | refine go_len1 rfl ?_ | refine go_I0 ?_ | refine go_len rfl ?_ | refine go_cat ?_ ?_ | refine go_rep ?_ ?_ ?_ ?_))
              · omega
              · omega
              · show 1 * _ ≤ 1000
                omega
              · rw [lq, ek, flat_fr, List.length_map, List.length_map, List.length_map, vz_len]
                omega
              · rw [lq, ek, flat_fr, ← List.map_append]
                rw [eok (fun h => h.elim hlen hz)] at q
                exact q
end
end My

namespace My
open PySem PySem.Spec PyProof.Rows L2
open C8 (Cal pe_c pe_gc InsC call_isC)
section
variable {c : Cs} {CH CN : Addr} {P : Program} {w : World} {K : PySem.W.Frag} {mg : Str → Option Value} {base : Heap}
abbrev s_Lanswer : Stmt := top 86
abbrev N_Lanswer : List Str := ["_law_way", "_law_house", "_law_quota", "_law_spot_at", "_law_found", "_law_caught", "_law_e", "_law_turn", "_law_row"]
abbrev P_Lanswer : List Str := ["_law_way", "_law_house", "_law_quota", "_law_spot_at"]
theorem sc_Lanswer : FnScope N_Lanswer ["_law_way", "_law_house", "_law_quota", "_law_spot_at"] (defScope s_Lanswer) := ⟨rfl, rfl, rfl, by decide +kernel, rfl, by decide +kernel, by decide +kernel⟩

theorem ok_Lanswer (T : Txt K mg c) {f : Addr} {fd : FuncData} (F : L2.Fun K "_law_answer" "_law_answer" s_Lanswer f fd) (h_Lasked : CalX P w K mg base 6 "_law_asked" (spX (W_Lasked c CH CN))) (h_Lclass : Cal P w K mg base 1 "_law_class" (spD (W_Lclass K c)) []) (h_Lshares_good : Cal P w K mg base 2 "_law_shares_good" (spD W_Lshares_good) []) (e_House : SpE P w K mg base 1 CH (spD (W_Heq CH)))
    (m_Number_house_1 : KMet CX0 P w K mg base 1 CN "house" (spD (W_house CH CN)) 1 [] [.p 0]) (m_Number_shares_1 : KMet CX0 P w K mg base 1 CN "shares" (spN (W_shares CH CN)) 1 [] [.p 0]) : FnOk P w K mg base CX0 7 f fd P_Lanswer (spD (W_Lanswer CH)) := by
  refine okD F sc_Lanswer (fun ds C ⟨_, _, _, _, e, _⟩ => by rw [e]; rfl) fun cdv A outer s H E hr => ⟨_, (pss_cons (ps_set (i := 4) sc_Lanswer.nd rfl (by first | exact Or.inl rfl | exact Or.inr rfl) pe_non)
      (pss_cons (ps_set (i := 5) sc_Lanswer.nd rfl (by first | exact Or.inl rfl | exact Or.inr rfl) pe_non)
      (pss_cons (ps_try_keep (i := 6) rfl rfl rfl sc_Lanswer.nd rfl rfl takes0 (fun W pn xe tk po => (pss_one (ps_set (i := 4) sc_Lanswer.nd rfl (by first | exact Or.inl rfl | exact Or.inr rfl) (pe_cS h_Lasked hr (by decide) rfl (fun σ => passAt tk σ) (pa_cons (pv 0) (pa_cons (pv 1) (pa_cons (pv 2) (pa_cons (pv 3) pa_nil)))))))) (.cons ⟨rfl, by decide, .inl T.g_RootError⟩ (fun a oe cls d pn => (pss_one (ps_set (i := 5) sc_Lanswer.nd rfl (by first | exact Or.inl rfl | exact Or.inr rfl) (pv 6)))) (.cons ⟨rfl, by decide, .inl T.g_NoNumber⟩ (fun a oe cls d pn => (pss_one (ps_set (i := 5) sc_Lanswer.nd rfl (by first | exact Or.inl rfl | exact Or.inr rfl) (pv 6)))) (.cons ⟨rfl, by decide, .inl T.g_NoOver⟩ (fun a oe cls d pn => (pss_one (ps_set (i := 5) sc_Lanswer.nd rfl (by first | exact Or.inl rfl | exact Or.inr rfl) (pv 6)))) .nil))))
      (pss_cons (ps_if (pt_cmpR op_notN (pv 5) pe_non (nomark _)) (pss_one (ps_ret (pe_c h_Lclass hr (by decide) rfl (pa_cons (pv 5) pa_nil)))) pss_nil)
      (pss_cons (ps_if (pt_cmpR (op_neS e_House hr (by decide)) (pe_km0 (pv 4) m_Number_house_1 hr (by decide) (E := fun _ => E0) (fun _ => by first | exact psAt0 | exact psAtL) pk_nil) (pv 1) (nomark _)) (pss_one (ps_ret pe_str)) pss_nil)
      (pss_cons (ps_for PassesOwn.never rfl (pi_range1 rfl T.z_range (pa_cons pe_int pa_nil)) (pg_name (i := 7) sc_Lanswer.nd rfl (by first | exact Or.inl rfl | exact Or.inr rfl)) (pss_cons (ps_set (i := 8) sc_Lanswer.nd rfl (by first | exact Or.inl rfl | exact Or.inr rfl) (pe_km0 (pv 4) m_Number_shares_1 hr (by decide) (E := fun _ => E0) (fun _ => by first | exact psAt0 | exact psAtL) pk_nil))
      (pss_cons (ps_if (pt_not (pt_val (pe_c h_Lshares_good hr (by decide) rfl (pa_cons (pv 8) (pa_cons (pe_km0 (pv 4) m_Number_shares_1 hr (by decide) (E := fun _ => E0) (fun _ => by first | exact psAt0 | exact psAtL) pk_nil) pa_nil))))) (pss_one (ps_ret pe_str)) pss_nil)
      (pss_one (ps_expr (pe_bm PySem.F.plainAttrs_list PySem.F.slot_list_append PySem.F.type_list_append mt_append (pv 8) (pa_cons (pv 7) pa_nil)))))))
      (pss_one (ps_ret (pe_km0 (pv 4) m_Number_shares_1 hr (by decide) (E := fun _ => E0) (fun _ => by first | exact psAt0 | exact psAtL) pk_nil))))))))), fun z ds C ⟨way, ns, qs, j, e, hw, A, q⟩ => ?_⟩
  subst e
  have ml := manyH_le ns
  (repeat' (first | refine XS.seq ?_ | refine XS.set ?_ | refine XE.non ?_))
  refine XS.trySet (i := 6) (j := 5) (q := 4) (cs := [.ref c.RootError, .ref c.NoNumber, .ref c.NoOver]) (Wp := W_Lasked c CH CN) (Xe := fun _ e => (e = ⟨c.NoLetter, []⟩ ∧ ansR way ns qs j = .error 2) ∨ (e = ⟨c.NoNumber, []⟩ ∧ ansR way ns qs j = .error 13)) ?_ ?_ (by decide) (show 6 < 9 by decide)
  · (repeat' (first | refine XE.var rfl ?_ | refine XA.nil ?_ | refine XA.cons ?_))
    refine ⟨way, ns, qs, j, rfl, hw, A, fun xs hxs => ?_, fun h => .inl ⟨rfl, h⟩, fun h => .inr ⟨rfl, h⟩⟩
    rw [hxs] at q
    have lx := ans_len hxs
    (repeat' (first | (guard_target =~ XS _ _ _ _ _; first | refine XS.next ?_ | refine XS.seq ?_ | refine XS.ite ?_) | (guard_target =~ XE _ _ _ _ _; first | refine XE.var rfl ?_ | refine XE.non ?_ | refine XE.op dr_notN ?_ | refine XE.op dr_neO ?_ | refine XE.km rfl ?_) | (guard_target =~ XA _ _ _ _ _; first | refine XA.nil ?_) | (guard_target =~ XT _ _ _ _ _; first | refine XT.test ?_) | refine go_ins rfl rfl ?_ | refine go_kc rfl rfl ?_ | refine go_non ?_ | refine go_bl ?_))
    refine ⟨ns, xs, rfl, ?_⟩
    (repeat' (first | refine XE.var rfl ?_))
    refine ⟨_, _, rfl, rfl, ns, ns, rfl, _, rfl, ?_⟩
    (repeat' (first | refine go_bl ?_))
    rw [decide_eq_true (show ns = ns from rfl)]
    refine iteF ?_
    (repeat' (first | refine XS.next ?_ | refine XS.seq ?_))
    refine XS.for (XI.rng1 ?_)
    (repeat' (first | refine XE.int ?_ | refine XA.nil ?_ | refine XA.cons ?_ | refine go_rg1 ?_ ?_))
    · decide
    refine ⟨fun i g m => (∃ s7 s8, g = [.dt (.int (way : Int)), .dt (houseD CH ns), .dt (qsD qs), .dt (.int j), .dt (numD CN CH ns xs), .dt .non, .un, s7, s8]) ∧ m = 0, ⟨⟨_, _, rfl⟩, rfl⟩, fun i d g2 m2 hi ⟨⟨s7, s8, e1⟩, e2⟩ => ?_, fun g2 m2 ⟨⟨s7, s8, e1⟩, e2⟩ => ?_⟩
    · subst e1 e2
      (repeat' (first | refine XS.seq ?_ | refine XS.setO (i := 8) ?_ | refine XG.name rfl ?_))
      refine XN.km rfl ?_
      (repeat' (first | refine XE.var rfl ?_ | refine XA.nil ?_ | refine go_ins rfl rfl ?_ | refine go_kc rfl rfl ?_))
      refine ⟨ns, xs, rfl, ?_⟩
      (repeat' (first | refine XS.seq ?_ | refine XS.ite ?_ | refine XT.test ?_ | refine XT.not ?_))
      refine XE.callO (i := 8) rfl ?_
      (repeat' (first | refine XA.cons ?_))
      refine XE.ofN (XN.km rfl ?_)
      (repeat' (first | refine XE.var rfl ?_ | refine XA.nil ?_ | refine go_ins rfl rfl ?_ | refine go_kc rfl rfl ?_))
      refine ⟨ns, xs, rfl, ?_⟩
      (repeat' (first | refine XA.nil ?_))
      refine ⟨xs, rfl, true, rfl, ?_⟩
      (repeat' (first | refine XS.next ?_ | refine XS.app rfl (i := 8) rfl ?_ | refine XE.var rfl ?_ | refine XA.nil ?_ | refine XA.cons ?_ | refine go_bl ?_ | refine go_app ?_ ?_))
      · rw [List.length_map]; omega
      exact ⟨⟨_, _, rfl⟩, rfl⟩
    · subst e1 e2
      refine XS.ret (XE.ofN (XN.km rfl ?_))
      (repeat' (first | refine XE.var rfl ?_ | refine XA.nil ?_ | refine go_ins rfl rfl ?_ | refine go_kc rfl rfl ?_))
      exact ⟨ns, xs, rfl, q⟩
  · rintro m' e (⟨rfl, h⟩ | ⟨rfl, h⟩)
    · refine ⟨.inl T.exm_NoLetter_RootError, ?_⟩
      rw [h] at q
      (repeat' (first | (guard_target =~ XS _ _ _ _ _; first | refine XS.seq ?_ | refine XS.ret ?_ | refine XS.ite ?_) | (guard_target =~ XE _ _ _ _ _; first | refine XE.var rfl ?_ | refine XE.non ?_ | refine XE.op dr_notN ?_ | refine XE.call ?_) | (guard_target =~ XA _ _ _ _ _; first | refine XA.nil ?_ | refine XA.cons ?_) | (guard_target =~ XT _ _ _ _ _; first | refine XT.test ?_) | refine go_non ?_ | refine go_bl ?_))
      exact ⟨.exc c.NoLetter [], some 2, rfl, .inr ⟨_, _, 2, rfl, rfl, by decide, T.row_NoLetter, T.exc_NoLetter⟩, q⟩
    · refine ⟨.inr ⟨T.exm_NoNumber_RootError, .inl T.exm_NoNumber_NoNumber⟩, ?_⟩
      rw [h] at q
      (repeat' (first | (guard_target =~ XS _ _ _ _ _; first | refine XS.seq ?_ | refine XS.ret ?_ | refine XS.ite ?_) | (guard_target =~ XE _ _ _ _ _; first | refine XE.var rfl ?_ | refine XE.non ?_ | refine XE.op dr_notN ?_ | refine XE.call ?_) | (guard_target =~ XA _ _ _ _ _; first | refine XA.nil ?_ | refine XA.cons ?_) | (guard_target =~ XT _ _ _ _ _; first | refine XT.test ?_) | refine go_non ?_ | refine go_bl ?_))
      exact ⟨.exc c.NoNumber [], some 13, rfl, .inr ⟨_, _, 13, rfl, rfl, by decide, T.row_NoNumber, T.exc_NoNumber⟩, q⟩
end
end My

namespace My
open PySem PySem.Spec PyProof.Rows L2
theorem v0 {vs : List V} {us : List Value} (h : vs.length = 0) (r : Vals vs us) : vs = [] ∧ us = [] := by
  cases r with
  | nil => exact ⟨rfl, rfl⟩
  | cons _ _ => simp at h
theorem vS {vs : List V} {us : List Value} {n : Nat} (h : vs.length = n + 1) (r : Vals vs us) : ∃ x u vs' us', vs = x :: vs' ∧ us = u :: us' ∧ RelV x u ∧ vs'.length = n ∧ Vals vs' us' := by
  cases r with
  | nil => simp at h
  | cons a r => exact ⟨_, _, _, _, rfl, rfl, a, by simpa using h, r⟩
theorem rel30 {vs : List V} {us : List Value} {zs : List V} {ws : List Value} (h1 : vs.length = 3) (h2 : zs.length = 0) (r1 : Vals vs us) (r2 : Vals zs ws) : Vals (pickV [.p 0, .p 1, .p 2] vs zs) (us ++ ws) := by
  obtain ⟨x, u, vs1, us1, rfl, rfl, a, h1, r1⟩ := vS h1 r1
  obtain ⟨y, v, vs2, us2, rfl, rfl, b, h1, r1⟩ := vS h1 r1
  obtain ⟨w, t, vs3, us3, rfl, rfl, c, h1, r1⟩ := vS h1 r1
  obtain ⟨rfl, rfl⟩ := v0 h1 r1
  obtain ⟨rfl, rfl⟩ := v0 h2 r2
  exact .cons a (.cons b (.cons c .nil))
theorem rel21 {vs : List V} {us : List Value} {zs : List V} {ws : List Value} (h1 : vs.length = 2) (h2 : zs.length = 1) (r1 : Vals vs us) (r2 : Vals zs ws) : Vals (pickV [.p 0, .p 1, .k 0] vs zs) (us ++ ws) := by
  obtain ⟨x, u, vs1, us1, rfl, rfl, a, h1, r1⟩ := vS h1 r1
  obtain ⟨y, v, vs2, us2, rfl, rfl, b, h1, r1⟩ := vS h1 r1
  obtain ⟨rfl, rfl⟩ := v0 h1 r1
  obtain ⟨w, t, vs3, us3, rfl, rfl, c, h2, r2⟩ := vS h2 r2
  obtain ⟨rfl, rfl⟩ := v0 h2 r2
  exact .cons a (.cons b (.cons c .nil))
theorem rel12r {vs : List V} {us : List Value} {zs : List V} {ws : List Value} (h1 : vs.length = 1) (h2 : zs.length = 2) (r1 : Vals vs us) (r2 : Vals zs ws) : Vals (pickV [.p 0, .k 1, .k 0] vs zs) (us ++ ws.reverse) := by
  obtain ⟨x, u, vs1, us1, rfl, rfl, a, h1, r1⟩ := vS h1 r1
  obtain ⟨rfl, rfl⟩ := v0 h1 r1
  obtain ⟨y, v, vs2, us2, rfl, rfl, b, h2, r2⟩ := vS h2 r2
  obtain ⟨w, t, vs3, us3, rfl, rfl, c, h2, r2⟩ := vS h2 r2
  obtain ⟨rfl, rfl⟩ := v0 h2 r2
  exact .cons a (.cons c (.cons b .nil))
end My

namespace My
open PySem PySem.Spec PyProof.Rows L2
open C8 (Cal pe_c pe_gc InsC call_isC)
theorem map_plain {α : Type} {f : α → Dat} {l : List α} (h : ∀ x ∈ l, plain (f x) = true) : plains (l.map f) = true := by
  induction l with
  | nil => rfl
  | cons x l ih =>
    show (plain (f x) && plains (l.map f)) = true
    rw [h x (List.mem_cons_self ..), ih fun y hy => h y (List.mem_cons_of_mem _ hy)]; rfl
theorem map_dep {α : Type} {f : α → Dat} {n : Nat} {l : List α} (h : ∀ x ∈ l, dep (f x) ≤ n) : deps (l.map f) ≤ n := by
  induction l with
  | nil => exact Nat.zero_le _
  | cons x l ih =>
    have h1 := h x (List.mem_cons_self ..)
    have h2 := ih fun y hy => h y (List.mem_cons_of_mem _ hy)
    show max (dep (f x)) (deps (l.map f)) ≤ n
    omega
theorem cmp_qs (qs : List (Int × Int)) : Cmp (qsD qs) := Cmp.of (map_plain (f := qD) fun _ _ => rfl) (by
  have := map_dep (f := qD) (n := 1) (l := qs) fun _ _ => Nat.le_refl _
  show deps (qs.map qD) + 1 ≤ 60
  omega)
theorem cmp_ans (r : Except Nat (List Rat)) : Cmp (ansD r) := by
  cases r with
  | ok xs => exact cmp_rs xs
  | error n => exact cmp_ns _
theorem cut_upto {α : Type} {f : α → Dat} {x : List α} {k : Nat} (h : k ≤ x.length) : cutD (x.map f) none (some (k : Int)) = (x.take k).map f := by
  unfold cutD
  rw [HT.sIx_none, HT.sIx_nat, List.length_map, Nat.min_eq_left h, List.drop_zero, Nat.sub_zero, List.map_take]
theorem cut_from {α : Type} {f : α → Dat} {x : List α} {k : Nat} (h : k ≤ x.length) : cutD (x.map f) (some (k : Int)) none = (x.drop k).map f := by
  unfold cutD
  rw [HT.sIx_none, HT.sIx_nat, List.length_map, Nat.min_eq_left h, List.take_of_length_le (by rw [List.length_drop, List.length_map]; omega), List.map_drop]
theorem sz30 {z : Int} (h : z.natAbs ≤ 30) : Sz 8000 z := Sz.mono (n := 5) (Nat.lt_of_le_of_lt h (by decide)) (by decide)
theorem flat_q {p : Int × Int} (n : Nat) : (List.replicate n [qD p]).flatten = (List.replicate n p).map qD := by
  rw [List.map_replicate]
  induction n with
  | zero => rfl
  | succ n ih => rw [List.replicate_succ, List.flatten_cons, ih, List.replicate_succ]; rfl
section
variable {c : Cs} {CH CN : Addr} {P : Program} {w : World} {K : PySem.W.Frag} {mg : Str → Option Value} {base : Heap}
abbrev s_law : Stmt := top 88
abbrev N_law : List Str := ["_law_script", "_law_cell", "_law_purse_here", "_law_house", "_law_rows", "_law_at_here", "_law_places", "_law_handed", "_law_figure", "_law_poly_here", "_law_steps", "_law_many_here", "_law_k", "_law_quota", "_law_kept", "_law_way", "_law_one"]
abbrev P_law : List Str := ["_law_script"]
theorem sc_law : FnScope N_law ["_law_script"] (defScope s_law) := ⟨rfl, rfl, rfl, by decide +kernel, rfl, by decide +kernel, by decide +kernel⟩

theorem ok_law (T : Txt K mg c) {f : Addr} {fd : FuncData} (F : L2.Fun K "law" "law" s_law f fd) (h_Lpurse : Cal P w K mg base 2 "_law_purse" (sp_Lpurse K) []) (h_Ldrawn : Cal P w K mg base 7 "_law_drawn" (spP (W_Ldrawn CH)) []) (h_house_of : CalX P w K mg base 6 "house_of" (spX (W_house_of c CH))) (h_Llow : Cal P w K mg base 2 "_law_low" (spD W_Llow) []) (h_Lshares : Cal P w K mg base 5 "_law_shares" (spP W_Lshares) [])
    (h_Ldraw : Cal P w K mg base 2 "_law_draw" (spP W_Ldraw) []) (h_Lanswer : Cal P w K mg base 7 "_law_answer" (spD (W_Lanswer CH)) []) (h_Ldue : Cal P w K mg base 3 "_law_due" (spD W_Ldue) []) (m_House_number_2 : KMet (L2.CX P w) P w K mg base 4 CH "number" (spL (W_number c CH CN)) 2 [] [.p 0, .p 1]) (e_Number : SpE P w K mg base 2 CN (spD (W_Neq CH CN)))
    (m_House_whole_2 : KMet (L2.CX P w) P w K mg base 5 CH "whole" (spX (W_whole c CH CN)) 2 [] [.p 0, .p 1, .c (.int 1)]) (m_Number_shares_1 : KMet CX0 P w K mg base 1 CN "shares" (spN (W_shares CH CN)) 1 [] [.p 0]) : FnOk P w K mg base CX0 8 f fd ["_law_script"] (spLaw K) := by
  refine F.ok sc_law (fun vs H Q E h => ?_) (fun cdv A outer s H vs Q E hr h => ?_)
  · obtain ⟨a, ns, rfl, _⟩ := h
    rfl
  · obtain ⟨a, ns, rfl, hS, _, k⟩ := h
    refine ⟨_, (pss_cons (ps_for PassesOwn.never rfl (pi_range1 rfl T.z_range (pa_cons pe_int pa_nil)) (pg_name (i := 1) sc_law.nd rfl (by first | exact Or.inl rfl | exact Or.inr rfl)) (pss_cons (ps_set (i := 2) sc_law.nd rfl (by first | exact Or.inl rfl | exact Or.inr rfl) (pe_c h_Lpurse hr (by decide) rfl (pa_cons (pv 0) (pa_cons (pv 1) pa_nil))))
      (pss_cons (ps_asg (pe_c h_Ldrawn hr (by decide) rfl (pa_cons (pv 2) pa_nil)) (pg_unl rfl (pgs_cons (pg_name (i := 9) sc_law.nd rfl (by first | exact Or.inl rfl | exact Or.inr rfl)) (pgs_cons (pg_name (i := 10) sc_law.nd rfl (by first | exact Or.inl rfl | exact Or.inr rfl)) (pgs_cons (pg_name (i := 11) sc_law.nd rfl (by first | exact Or.inl rfl | exact Or.inr rfl)) pgs_nil)))))
      (pss_cons (ps_set (i := 3) sc_law.nd rfl (by first | exact Or.inl rfl | exact Or.inr rfl) (pe_cX h_house_of hr (by decide) rfl (pa_cons (pv 9) pa_nil)))
      (pss_cons (ps_setLc (i := 4) (own := [("_law_one", 16)]) (g := gName 16) (by rfl) sc_law.nd rfl rfl (sw_true rfl rfl rfl (by decide +kernel)) (pi_list (pe_lst (pa_cons (pv 11) (pa_cons (pe_op op_add pe_int (pe_c h_Ldraw hr (by decide) rfl (pa_cons (pv 2) (pa_cons (pv 11) pa_nil)))) (pa_cons (pe_op op_add (pv 11) pe_int) (pa_cons pe_int pa_nil)))))) (blkOk_by (own := [("_law_one", 16)]) (N := N_law) (sc := defScope s_law) (by decide +kernel)) (fun _ _ _ _ _ => (pg_name (i := 16) sc_law.nd rfl (by first | exact Or.inl rfl | exact Or.inr rfl))) (fun _ _ _ _ _ => pts_nil) (fun _ _ _ _ _ => (pe_c h_Lshares hr (by decide) rfl (pa_cons (pv 2) (pa_cons (pv 16) (pa_cons (pe_op op_powW pe_int pe_int) pa_nil))))))
      (pss_cons (ps_set (i := 5) sc_law.nd rfl (by first | exact Or.inl rfl | exact Or.inr rfl) (pe_c h_Ldraw hr (by decide) rfl (pa_cons (pv 2) (pa_cons (pv 11) pa_nil))))
      (pss_cons (ps_expr (pe_bm PySem.F.plainAttrs_list PySem.F.slot_list_append PySem.F.type_list_append mt_append (pv 4) (pa_cons (pe_op op_cat (pe_op op_cat (pe_slice sl_list (pe_ix ix_list (pv 4) pe_int (fun _ _ => rfl)) po_none (po_some (pv 5))) (pe_lst (pa_cons (pe_tup (pa_cons (pe_c h_Ldraw hr (by decide) rfl (pa_cons (pv 2) (pa_cons pe_int pa_nil))) (pa_cons pe_int pa_nil))) pa_nil))) (pe_slice sl_list (pe_ix ix_list (pv 4) pe_int (fun _ _ => rfl)) (po_some (pe_op op_add (pv 5) pe_int)) po_none)) pa_nil)))
      (pss_cons (ps_expr (pe_bm PySem.F.plainAttrs_list PySem.F.slot_list_append PySem.F.type_list_append mt_append (pv 4) (pa_cons (pe_op op_rep (pe_lst (pa_cons (pe_tup (pa_cons pe_int (pa_cons pe_int pa_nil))) pa_nil)) (pe_op op_add (pe_op op_add (pv 11) pe_int) (pe_c h_Ldraw hr (by decide) rfl (pa_cons (pv 2) (pa_cons (pe_op op_sub pe_int (pv 11)) pa_nil))))) pa_nil)))
      (pss_cons (ps_set (i := 4) sc_law.nd rfl (by first | exact Or.inl rfl | exact Or.inr rfl) (pe_op op_cat (pv 4) (pe_lst (pa_cons (pe_op op_cat (pe_lst (pa_cons (pe_tup (pa_cons (pe_c h_Ldraw hr (by decide) rfl (pa_cons (pv 2) (pa_cons pe_int pa_nil))) (pa_cons pe_int pa_nil))) pa_nil)) (pe_ix ix_list (pv 4) pe_int (fun _ _ => rfl))) (pa_cons (pe_op op_cat (pe_ix ix_list (pv 4) pe_int (fun _ _ => rfl)) (pe_lst (pa_cons (pe_tup (pa_cons pe_int (pa_cons pe_int pa_nil))) pa_nil))) pa_nil)))))
      (pss_cons (ps_set (i := 6) sc_law.nd rfl (by first | exact Or.inl rfl | exact Or.inr rfl) (pe_lst (pa_cons (pe_un un_neg pe_int) (pa_cons pe_int (pa_cons pe_int (pa_cons pe_int (pa_cons pe_int (pa_cons (pe_op op_sub pe_int (pe_callB call_len_seq (by rfl) T.z_len (by decide +kernel) (pa_cons (pv 10) pa_nil))) (pa_cons (pe_c h_Ldraw hr (by decide) rfl (pa_cons (pv 2) (pa_cons (pe_op op_powW pe_int pe_int) pa_nil))) (pa_cons (pe_op op_sub (pe_op op_sub pe_int pe_int) (pe_c h_Ldraw hr (by decide) rfl (pa_cons (pv 2) (pa_cons (pe_op op_powW pe_int pe_int) pa_nil)))) pa_nil))))))))))
      (pss_cons (ps_for PassesOwn.never rfl (pi_enum (by rfl) T.z_enumerate (pa_cons (pv 4) pa_nil)) (pg_tup rfl (pgs_cons (pg_name (i := 12) sc_law.nd rfl (by first | exact Or.inl rfl | exact Or.inr rfl)) (pgs_cons (pg_name (i := 13) sc_law.nd rfl (by first | exact Or.inl rfl | exact Or.inr rfl)) pgs_nil))) (pss_cons (ps_set (i := 14) sc_law.nd rfl (by first | exact Or.inl rfl | exact Or.inr rfl) (pe_callTy call_list_of (by rfl) T.z_list (by decide +kernel) (pa_cons (pv 13) pa_nil)))
      (pss_cons (ps_for PassesOwn.never rfl (pi_range1 rfl T.z_range (pa_cons pe_int pa_nil)) (pg_name (i := 15) sc_law.nd rfl (by first | exact Or.inl rfl | exact Or.inr rfl)) (pss_one (ps_if (pt_cmpR (op_neD hr.units) (pe_c h_Lanswer hr (by decide) rfl (pa_cons (pv 15) (pa_cons (pv 3) (pa_cons (pv 13) (pa_cons (pe_ix ix_list (pv 6) (pv 12) (fun _ _ => rfl)) pa_nil))))) (pe_c h_Ldue hr (by decide) rfl (pa_cons (pv 15) (pa_cons (pv 10) (pa_cons (pv 13) (pa_cons (pe_ix ix_list (pv 6) (pv 12) (fun _ _ => rfl)) pa_nil))))) (nomark _)) (pss_one (ps_ret pe_bl)) pss_nil)))
      (pss_one (ps_if (pt_cmpR (op_neD hr.units) (pv 13) (pv 14) (nomark _)) (pss_one (ps_ret pe_bl)) pss_nil)))))
      (pss_cons (ps_set (i := 7) sc_law.nd rfl (by first | exact Or.inl rfl | exact Or.inr rfl) (pe_callTy call_list_of (by rfl) T.z_list (by decide +kernel) (pa_cons (pe_ix ix_list (pv 4) pe_int (fun _ _ => rfl)) pa_nil)))
      (pss_cons (ps_set (i := 8) sc_law.nd rfl (by first | exact Or.inl rfl | exact Or.inr rfl) (pe_km (pv 3) m_House_number_2 hr (by decide) (E := fun _ => E0) (fun _ => by first | exact psAt0 | exact psAtL) (pa_cons (pv 7) pa_nil) pk_nil))
      (pss_cons (ps_asg (pe_tup (pa_cons pe_int (pa_cons pe_int pa_nil))) (pg_sub (pv 7) pe_int set_list))
      (pss_cons (ps_expr (pe_bm PySem.F.plainAttrs_list PySem.F.slot_list_append PySem.F.type_list_append mt_append (pv 7) (pa_cons (pe_tup (pa_cons pe_int (pa_cons pe_int pa_nil))) pa_nil)))
      (pss_cons (ps_if (PW.pt (pw_or (pt_cmpR (op_neD hr.units) (pe_km0 (pv 8) m_Number_shares_1 hr (by decide) (E := fun _ => E0) (fun _ => by first | exact psAt0 | exact psAtL) pk_nil) (pe_c h_Llow hr (by decide) rfl (pa_cons (pe_ix ix_list (pv 4) pe_int (fun _ _ => rfl)) pa_nil)) (nomark _)) (pw_or1 (pt_cmpR (op_neS e_Number hr (by decide)) (pv 8) (pe_km (pv 3) m_House_number_2 hr (by decide) (E := fun _ => E0) (fun _ => by first | exact psAt0 | exact psAtL) (pa_cons (pe_ix ix_list (pv 4) pe_int (fun _ _ => rfl)) pa_nil) pk_nil) (nomark _))))) (pss_one (ps_ret pe_bl)) pss_nil)
      (pss_one (ps_if (PW.pt (pw_or (pt_cmpR (op_neD hr.units) (pe_km0 (pe_km (pv 3) m_House_number_2 hr (by decide) (E := fun _ => E0) (fun _ => by first | exact psAt0 | exact psAtL) (pa_cons (pe_lst pa_nil) pa_nil) pk_nil) m_Number_shares_1 hr (by decide) (E := fun _ => E0) (fun _ => by first | exact psAt0 | exact psAtL) pk_nil) (pe_op op_rep (pe_lst (pa_cons (pe_tup (pa_cons pe_int (pa_cons pe_int pa_nil))) pa_nil)) (pv 11)) (nomark _)) (pw_or1 (pt_cmpR (op_neD hr.units) (pe_km0 (pe_km (pv 3) m_House_whole_2 hr (by decide) (E := fun _ => E0) (fun _ => by first | exact psAt0 | exact psAtL) (pa_cons pe_int pa_nil) pk_nil) m_Number_shares_1 hr (by decide) (E := fun _ => E0) (fun _ => by first | exact psAt0 | exact psAtL) pk_nil) (pe_op op_rep (pe_lst (pa_cons (pe_tup (pa_cons pe_int (pa_cons pe_int pa_nil))) pa_nil)) (pv 11)) (nomark _))))) (pss_one (ps_ret pe_bl)) pss_nil))))))))))))))))))
      (pss_one (ps_ret pe_bl))), ?_⟩
    refine law_body (n := 4) (N := 14) (by decide) hS rfl rfl (fun i z hi => ?_) k
    show XS z _ [.raw (.ref a), .dt (.int (i : Int)), .pu, .un, .un, .un, .un, .un, .un, .un, .un, .un, .un, .un, .un, .un, .un] _ _
    (repeat' (first | refine XS.seq ?_ | refine XS.asg ?_ | refine XE.callP rfl ?_ | refine XA.nil ?_))
    refine ⟨rfl, by omega, fun ps G => ?_⟩
    have ml := manyH_le ps
    have mp := manyH_pos G
    (repeat' (first | refine XS.seq ?_ | refine XS.set ?_ | refine XE.var rfl ?_ | refine XE.callX0 ?_ | refine XA.nil ?_ | refine XA.cons ?_ | refine XGs.cons ?_ | refine XGs.nil ?_ | refine XG.name rfl ?_ | refine XG.unlG rfl ?_))
    refine ⟨ps, rfl, fun _ => ?_, fun h => by rw [fault_of_good G] at h; cases h⟩
    obtain ⟨M, eM, lM⟩ : ∃ M, M = 1000 * i + 300 ∧ M ≤ 10000 := ⟨_, rfl, by omega⟩
    rw [← eM]
    (repeat' (first | refine XS.seq ?_ | refine XS.setO (i := 4) ?_))
    refine XN.lc (XI.list ?_)
    (repeat' (first | refine XE.var rfl ?_ | refine XE.int ?_ | refine XE.op dr_I0 ?_ | refine XE.ofN (XN.lst ?_) | refine XE.callP rfl ?_ | refine XA.nil ?_ | refine XA.cons ?_))
    refine ⟨(manyH ps : Int), rfl, by omega, Int.lt_of_le_of_lt (show _ ≤ (27 : Int) by omega) (by decide), by omega, fun y y0 y1 => ?_⟩
    obtain ⟨y', rfl⟩ := Int.eq_ofNat_of_zero_le y0
    have ly : y' < manyH ps := by omega
    obtain ⟨ks, eks⟩ : ∃ ks, ks = [manyH ps, 1 + y', manyH ps + 1, 1] := ⟨_, rfl⟩
    have eds : [Dat.int (manyH ps : Int), vd (V.int (1 + (y' : Int))), vd (V.int ((manyH ps : Int) + 1)), Dat.int 1] = ks.map (fun k : Nat => Dat.int (k : Int)) := by rw [eks]; rfl
    have k28 : ∀ kk ∈ ks, kk ≤ 28 := fun kk hk => by
      rw [eks] at hk
      simp at hk
      omega
    (repeat' (first | refine XE.var rfl ?_ | refine XE.int ?_ | refine XE.op dr_I0 ?_ | refine XA.nil ?_ | refine XA.cons ?_ | refine go_I0 ?_ | refine go_len rfl ?_ | refine go_lst ?_))
    rw [eds]
    refine ⟨fun idx acc m => ∃ qss : List (List (Int × Int)), acc = qss.map qsD ∧ qss.length = idx ∧ (∀ (t : Nat) (qs : List (Int × Int)), qss[t]? = some qs → ks[t]? = some qs.length ∧ FQ (10 ^ 9) qs) ∧ m ≤ M + 20 + 3920 * idx, ⟨[], rfl, rfl, fun _ _ h => by simp at h, by omega⟩, fun t d acc m2 ht ⟨qss, e1, e2, e3, e4⟩ => ?_, fun acc m2 ⟨qss, e1, e2, e3, e4⟩ => ?_⟩
    · obtain ⟨kk, hk, rfl⟩ := map_get ht
      have k1 := k28 kk (List.mem_of_getElem? hk)
      have tl : t < 4 := by have := (List.getElem?_eq_some_iff.mp hk).1; rw [eks] at this; exact this
      (repeat' (first | refine XE.var rfl ?_ | refine XE.int ?_ | refine XE.op dr_I ?_ | refine XE.callP rfl ?_ | refine XA.nil ?_ | refine XA.cons ?_ | refine XT.yes ?_ | refine XG.name rfl ?_ | refine go_I ?_ ?_))
      · exact ⟨by decide, by decide⟩
      refine ⟨kk, 10 ^ 9, rfl, by omega, by decide, by decide, by omega, fun qs lq fq => ⟨?_, qss ++ [qs], ?_, ?_, fun s rs hs => ?_, ?_⟩⟩
      · rw [e1, List.length_map]; omega
      · rw [e1, List.map_append]; rfl
      · rw [List.length_append, e2]; rfl
      · by_cases hst : s < qss.length
        · rw [List.getElem?_append_left hst] at hs
          exact e3 s rs hs
        · rw [List.getElem?_append_right (by omega)] at hs
          have h0 := (List.getElem?_eq_some_iff.mp hs).1
          have h1 : s = t := by simp at h0; omega
          subst h1
          rw [e2, Nat.sub_self] at hs
          cases hs
          rw [hk, lq]
          exact ⟨rfl, fq⟩
      · have : 140 * kk ≤ 140 * 28 := Nat.mul_le_mul_left _ k1
        omega
    · subst e1
      rw [List.length_map] at e2 e4
      have l4 : ks.length = 4 := by rw [eks]; rfl
      rw [l4] at e2 e4
      obtain ⟨a0, a1, a2, a3, rfl⟩ : ∃ a0 a1 a2 a3, qss = [a0, a1, a2, a3] := by
        rcases qss with _ | ⟨a0, _ | ⟨a1, _ | ⟨a2, _ | ⟨a3, _ | ⟨a4, r⟩⟩⟩⟩⟩ <;> simp at e2
        exact ⟨a0, a1, a2, a3, rfl⟩
      obtain ⟨l0, f0⟩ := e3 0 a0 rfl
      obtain ⟨l1, f1⟩ := e3 1 a1 rfl
      obtain ⟨l2, f2⟩ := e3 2 a2 rfl
      obtain ⟨l3, f3⟩ := e3 3 a3 rfl
      rw [eks] at l0 l1 l2 l3
      have l0 : manyH ps = a0.length := Option.some.inj l0
      have l1 : 1 + y' = a1.length := Option.some.inj l1
      have l2 : manyH ps + 1 = a2.length := Option.some.inj l2
      have l3 : 1 = a3.length := Option.some.inj l3
      have small : ∀ n : Int, n ≤ 100 → n < 2 ^ 200 := fun n h => Int.lt_of_le_of_lt h (by decide)
      (repeat' (first | refine XS.seq ?_ | refine XS.set ?_ | refine XE.var rfl ?_ | refine XE.callP rfl ?_ | refine XA.nil ?_ | refine XA.cons ?_))
      refine ⟨(manyH ps : Int), rfl, by omega, small _ (by omega), by omega, fun u u0 u1 => ?_⟩
      obtain ⟨u, rfl⟩ := Int.eq_ofNat_of_zero_le u0
      have lu : u < manyH ps := by omega
      (repeat' (first | (guard_target =~ XS _ _ _ _ _; first | refine XS.seq ?_ | refine XS.app rfl (i := 4) rfl ?_) | (guard_target =~ XE _ _ _ _ _; first | refine XE.var rfl ?_ | refine XE.int ?_ | refine XE.ixO rfl ?_ | refine XE.tup ?_ | refine XE.ofN (XN.lst ?_) | refine XE.ofN (XN.op dn_cat ?_) | refine XE.ofN (XN.sl ?_) | refine XE.callP rfl ?_) | (guard_target =~ XA _ _ _ _ _; first | refine XA.nil ?_ | refine XA.cons ?_) | (guard_target =~ XO _ _ _ _ _; first | refine XO.no ?_ | refine XO.yes ?_) | refine go_int ?_ | refine go_lst ?_ | refine go_ixO rfl ?_))
      refine ⟨5, rfl, by decide, by decide, by omega, fun v v0 v1 => ?_⟩
      have c1 : cutD (a0.map qD) none (some (u : Int)) = (a0.take u).map qD := cut_upto (by omega)
      have c2 : cutD (a0.map qD) (some ((u : Int) + 1)) none = (a0.drop (u + 1)).map qD := cut_from (k := u + 1) (by omega)
      obtain ⟨a4, ea4⟩ : ∃ a4, a4 = a0.take u ++ [(v, 0)] ++ a0.drop (u + 1) := ⟨_, rfl⟩
      have l4 : a4.length = manyH ps := by
        rw [ea4]
        simp only [List.length_append, List.length_take, List.length_drop, List.length_cons, List.length_nil]
        omega
      have d4 : Dat.lst (cutD (a0.map qD) none (some (u : Int)) ++ [Dat.tup [Dat.int v, Dat.int 0]] ++ cutD (a0.map qD) (some ((u : Int) + 1)) none) = qsD a4 := by
        rw [c1, c2, ea4, qsD, List.map_append, List.map_append]; rfl
      (repeat' (first | (guard_target =~ XS _ _ _ _ _; first | refine XS.seq ?_ | refine XS.app rfl (i := 4) rfl ?_) | (guard_target =~ XE _ _ _ _ _; first | refine XE.var rfl ?_ | refine XE.int ?_ | refine XE.ixO rfl ?_ | refine XE.op dr_I0 ?_ | refine XE.tup ?_ | refine XE.ofN (XN.lst ?_) | refine XE.ofN (XN.op dn_rep ?_) | refine XE.ofN (XN.sl ?_) | refine XE.callP rfl ?_) | (guard_target =~ XA _ _ _ _ _; first | refine XA.nil ?_ | refine XA.cons ?_) | (guard_target =~ XO _ _ _ _ _; first | refine XO.no ?_ | refine XO.yes ?_) | refine go_I0 ?_ | refine go_len rfl ?_ | refine go_cat ?_ ?_ | refine go_int ?_ | refine go_lst ?_ | refine go_ixO rfl ?_ | refine go_app ?_ ?_))
      · simp only [c1, c2, List.length_append, List.length_map, List.length_take, List.length_drop, List.length_cons, List.length_nil]; omega
      · simp only [c1, c2, List.length_append, List.length_map, List.length_take, List.length_drop, List.length_cons, List.length_nil]; omega
      · show 4 ≤ 1000
        decide
      rw [d4]
      refine ⟨40 - (manyH ps : Int), rfl, by omega, small _ (by omega), by omega, fun p p0 p1 => ?_⟩
      obtain ⟨p, rfl⟩ := Int.eq_ofNat_of_zero_le p0
      obtain ⟨n5, en5⟩ : ∃ n5 : Nat, n5 = manyH ps + 1 + p := ⟨_, rfl⟩
      have e5 : ((manyH ps : Int) + 1 + (p : Int)).toNat = n5 := by omega
      obtain ⟨a5, ea5⟩ : ∃ a5, a5 = List.replicate n5 ((2 : Int), (3 : Int)) := ⟨_, rfl⟩
      have d5 : Dat.lst (List.replicate ((manyH ps : Int) + 1 + (p : Int)).toNat [Dat.tup [Dat.int 2, Dat.int 3]]).flatten = qsD a5 := by
        rw [e5, ea5]
        exact congrArg Dat.lst (flat_q (p := (2, 3)) n5)
      (repeat' (first | refine XA.nil ?_ | refine go_I0 ?_ | refine go_rep ?_ ?_ ?_ ?_ | refine go_app ?_ ?_))
      · omega
      · omega
      · show 1 * _ ≤ 1000
        omega
      · show 5 ≤ 1000
        decide
      rw [d5]
      refine XS.frz (i := 4) rfl ?_
      obtain ⟨M2, eM2, lM2⟩ : ∃ M2, M2 = m2 + 20 + 20 + 20 ∧ M2 ≤ 30000 := ⟨_, rfl, by omega⟩
      rw [← eM2]
      show XS z _ [.raw (.ref a), .dt (.int (i : Int)), .pu, .dt (houseD CH ps), .dt (.lst ([a0, a1, a2, a3, a4, a5].map qsD)), .dt (.int (u : Int)), .un, .un, .un, .dt (nsD ps), .dt (rwsD (rowsZ ps)), .dt (.int (manyH ps)), .un, .un, .un, .un, .un] M2 _
      (repeat' (first | refine XS.seq ?_ | refine XS.set ?_ | refine XE.var rfl ?_ | refine XE.int ?_ | refine XE.tup ?_ | refine XE.ofN (XN.lst ?_) | refine XE.ofN (XN.op dn_cat ?_) | refine XE.callP rfl ?_ | refine XA.nil ?_ | refine XA.cons ?_))
      refine ⟨3, rfl, by decide, by decide, by omega, fun q q0 q1 => ?_⟩
      obtain ⟨QS, eQS⟩ : ∃ QS, QS = [a0, a1, a2, a3, a4, a5, (q, 0) :: a2, a2 ++ [(1, 0)]] := ⟨_, rfl⟩
      have dQ : Dat.lst ([a0, a1, a2, a3, a4, a5].map qsD ++ [Dat.lst ([Dat.tup [Dat.int q, Dat.int 0]] ++ a2.map qD), Dat.lst (a2.map qD ++ [Dat.tup [Dat.int 1, Dat.int 0]])]) = .lst (QS.map qsD) := by
        rw [eQS]
        show Dat.lst [qsD a0, qsD a1, qsD a2, qsD a3, qsD a4, qsD a5, _, _] = Dat.lst [qsD a0, qsD a1, qsD a2, qsD a3, qsD a4, qsD a5, _, _]
        rw [show qsD (a2 ++ [(1, 0)]) = Dat.lst (a2.map qD ++ [Dat.tup [Dat.int 1, Dat.int 0]]) by rw [qsD, List.map_append]; rfl]
        rfl
      (repeat' (first | (guard_target =~ XE _ _ _ _ _; first | refine XE.var rfl ?_ | refine XE.int ?_ | refine XE.op dr_ixL ?_ | refine XE.tup ?_ | refine XE.ofN (XN.lst ?_) | refine XE.ofN (XN.op dn_cat ?_)) | (guard_target =~ XA _ _ _ _ _; first | refine XA.nil ?_ | refine XA.cons ?_) | refine go_ix rfl ?_ | refine go_len rfl ?_ | refine go_cat ?_ ?_))
      · rw [List.length_map]
        show 1 + _ ≤ 1000
        omega
      · rw [List.length_map]
        show _ + 1 ≤ 1000
        omega
      · show 6 + 2 ≤ 1000
        decide
      rw [dQ]
      show XS z _ [.raw (.ref a), .dt (.int (i : Int)), .pu, .dt (houseD CH ps), .dt (.lst (QS.map qsD)), .dt (.int (u : Int)), .un, .un, .un, .dt (nsD ps), .dt (rwsD (rowsZ ps)), .dt (.int (manyH ps)), .un, .un, .un, .un, .un] (M2 + 20) _
      (repeat' (first | (guard_target =~ XS _ _ _ _ _; first | refine XS.seq ?_ | refine XS.set ?_) | (guard_target =~ XE _ _ _ _ _; first | refine XE.var rfl ?_ | refine XE.int ?_ | refine XE.op dr_I0 ?_ | refine XE.op dr_I ?_ | refine XE.unI ?_ | refine XE.ofN (XN.lst ?_) | refine XE.len1 ?_ | refine XE.callP rfl ?_) | (guard_target =~ XA _ _ _ _ _; first | refine XA.nil ?_ | refine XA.cons ?_) | refine go_len1 rfl ?_ | refine go_I0 ?_ | refine go_I ?_ ?_ | refine go_un ?_))
      · exact ⟨by decide, by decide⟩
      refine ⟨10 ^ 30, rfl, by decide, by decide, by omega, fun r r0 r1 => ?_⟩
      (repeat' (first | refine XE.int ?_ | refine XE.op dr_I0 ?_ | refine XE.op dr_I ?_ | refine XE.callP rfl ?_ | refine XA.nil ?_ | refine XA.cons ?_ | refine go_I0 ?_ | refine go_I ?_ ?_))
      · exact ⟨by decide, by decide⟩
      refine ⟨10 ^ 29, rfl, by decide, by decide, by omega, fun s s0 s1 => ?_⟩
      obtain ⟨PL, ePL⟩ : ∃ PL : List Int, PL = [-1, 0, 1, 2, 3, 0 - ((rowsZ ps).length : Int), r, 0 - 1 - s] := ⟨_, rfl⟩
      have dP : Dat.lst [vd (V.int (-1)), .int 0, .int 1, .int 2, .int 3, vd (V.int (0 - (((rowsZ ps).map rwD).length : Int))), .int r, vd (V.int (0 - 1 - s))] = nsD PL := by rw [ePL, List.length_map]; rfl
      (repeat' (first | refine XA.nil ?_ | refine go_I0 ?_ | refine go_len rfl ?_))
      rw [dP]
      obtain ⟨M3, eM3⟩ : ∃ M3, M3 = M2 + 20 + 20 + 20 := ⟨_, rfl⟩
      rw [← eM3]
      have fz : ∀ qs, FQ (10 ^ 9) qs → ∀ q ∈ qs, Sz 8000 q.2 := fun qs f q hq => sz30 (f q hq).2.2
      have hQ : ∀ qs ∈ QS, AskOk ps qs := fun qs hq => by
        have ne : ∀ l : List (Int × Int), 1 ≤ l.length → l ≠ [] := fun l h e => by rw [e] at h; simp at h
        have z0 : Sz 8000 0 := sz30 (by decide)
        rw [eQS] at hq
        simp only [List.mem_cons, List.not_mem_nil, or_false] at hq
        rcases hq with hq | hq | hq | hq | hq | hq | hq | hq <;> rw [hq]
        · exact ⟨G, ne _ (by omega), by omega, fz _ f0⟩
        · exact ⟨G, ne _ (by omega), by omega, fz _ f1⟩
        · exact ⟨G, ne _ (by omega), by omega, fz _ f2⟩
        · exact ⟨G, ne _ (by omega), by omega, fz _ f3⟩
        · refine ⟨G, ne _ (by omega), by omega, fun y hy => ?_⟩
          rw [ea4] at hy
          rcases List.mem_append.mp hy with hy | hy
          · rcases List.mem_append.mp hy with hy | hy
            · exact fz _ f0 y (List.mem_of_mem_take hy)
            · rw [List.mem_singleton.mp hy]; exact z0
          · exact fz _ f0 y (List.mem_of_mem_drop hy)
        · have l5 : a5.length = n5 := by rw [ea5, List.length_replicate]
          refine ⟨G, ne _ (by omega), by omega, fun y hy => ?_⟩
          rw [ea5] at hy
          rw [(List.mem_replicate.mp hy).2]
          exact sz30 (by decide)
        · refine ⟨G, by simp, by rw [List.length_cons]; omega, fun y hy => ?_⟩
          rcases List.mem_cons.mp hy with rfl | hy
          · exact z0
          · exact fz _ f2 y hy
        · refine ⟨G, by simp, by rw [List.length_append]; show _ + 1 ≤ 900; omega, fun y hy => ?_⟩
          rcases List.mem_append.mp hy with hy | hy
          · exact fz _ f2 y hy
          · rw [List.mem_singleton.mp hy]; exact z0
      have lQ : QS.length = 8 := by rw [eQS]; rfl
      have lP : PL.length = 8 := by rw [ePL]; rfl
      show XS z _ [.raw (.ref a), .dt (.int (i : Int)), .pu, .dt (houseD CH ps), .dt (.lst (QS.map qsD)), .dt (.int (u : Int)), .dt (nsD PL), .un, .un, .dt (nsD ps), .dt (rwsD (rowsZ ps)), .dt (.int (manyH ps)), .un, .un, .un, .un, .un] M3 _
      refine XS.seq (XS.for (XI.enum ?_))
      (repeat' (first | refine XE.var rfl ?_ | refine XA.nil ?_ | refine XA.cons ?_ | refine go_enum ?_))
      refine ⟨fun t g m => (∃ s12 s13 s14 s15, g = [.raw (.ref a), .dt (.int (i : Int)), .pu, .dt (houseD CH ps), .dt (.lst (QS.map qsD)), .dt (.int (u : Int)), .dt (nsD PL), .un, .un, .dt (nsD ps), .dt (rwsD (rowsZ ps)), .dt (.int (manyH ps)), s12, s13, s14, s15, .un]) ∧ m = M3, ⟨⟨_, _, _, _, rfl⟩, rfl⟩, fun t d g2 m3 ht ⟨⟨s12, s13, s14, s15, e5⟩, e6⟩ => ?_, fun g2 m3 ⟨⟨s12, s13, s14, s15, e5⟩, e6⟩ => ?_⟩
      · subst e5 e6
        rw [enumD_at] at ht
        obtain ⟨d', hd', rfl⟩ := Option.map_eq_some_iff.mp ht
        obtain ⟨qs, hqs, rfl⟩ := map_get hd'
        have lt : t < 8 := by rw [← lQ]; exact (List.getElem?_eq_some_iff.mp hqs).1
        have A := hQ qs (List.mem_of_getElem? hqs)
        obtain ⟨pl, hpl⟩ : ∃ pl, PL[t]? = some pl := ⟨_, List.getElem?_eq_getElem (by omega)⟩
        have hpa : atI (PL.map Dat.int) (t : Int) = some (.int pl) := atI_nat (by rw [List.getElem?_map, hpl]; rfl)
        (repeat' (first | refine XS.seq ?_ | refine XS.set ?_ | refine XE.var rfl ?_ | refine XE.ofN (XN.cb dn_listOf ?_) | refine XA.nil ?_ | refine XA.cons ?_ | refine XGs.cons ?_ | refine XGs.nil ?_ | refine XG.name rfl ?_ | refine XG.tupG rfl ?_))
        refine ⟨_, _, rfl, rfl, ?_⟩
        (repeat' (first | refine XS.seq ?_))
        refine XS.for (XI.rng1 ?_)
        (repeat' (first | refine XE.int ?_ | refine XA.nil ?_ | refine XA.cons ?_ | refine go_rg1 ?_ ?_))
        · decide
        refine ⟨fun way g m => (∃ s15, g = [.raw (.ref a), .dt (.int (i : Int)), .pu, .dt (houseD CH ps), .dt (.lst (QS.map qsD)), .dt (.int (u : Int)), .dt (nsD PL), .un, .un, .dt (nsD ps), .dt (rwsD (rowsZ ps)), .dt (.int (manyH ps)), .dt (.int (t : Nat)), .dt (qsD qs), .dt (qsD qs), s15, .un]) ∧ m = m3, ⟨⟨_, rfl⟩, rfl⟩, fun way d g2 m4 hw ⟨⟨s15, e7⟩, e8⟩ => ?_, fun g2 m4 ⟨⟨s15, e7⟩, e8⟩ => ?_⟩
        · subst e7 e8
          obtain ⟨wl, rfl⟩ := rng_get hw
          rw [show (0 : Int) + (way : Int) = (way : Int) by omega]
          (repeat' (first | refine XS.ite ?_ | refine XE.var rfl ?_ | refine XE.op dr_ixL ?_ | refine XE.op dr_neD ?_ | refine XE.call ?_ | refine XA.cons ?_ | refine XT.test ?_ | refine XG.name rfl ?_))
          refine go_ix hpa ?_
          (repeat' (first | refine XA.nil ?_))
          refine ⟨way, ps, qs, pl, rfl, wl, A, ?_⟩
          (repeat' (first | refine XE.var rfl ?_ | refine XE.op dr_ixL ?_ | refine XE.call ?_ | refine XA.cons ?_))
          refine go_ix hpa ?_
          (repeat' (first | refine XA.nil ?_))
          refine ⟨way, ps, qs, pl, rfl, wl, A, ?_⟩
          skip
          refine go_neD (cmp_ans _) (cmp_ans _) ?_
          rw [eqD_refl (cmp_ans _)]
          (repeat' (first | refine XS.next ?_ | refine go_bl ?_))
          exact ⟨⟨_, rfl⟩, rfl⟩
        · subst e7 e8
          (repeat' (first | refine XS.ite ?_ | refine XE.var rfl ?_ | refine XE.op dr_neD ?_ | refine XT.test ?_))
          refine go_neD (cmp_qs _) (cmp_qs _) ?_
          rw [eqD_refl (cmp_qs _)]
          (repeat' (first | refine XS.next ?_ | refine go_bl ?_))
          exact ⟨⟨_, _, _, _, rfl⟩, rfl⟩
      · subst e5 e6
        have nz0 : ∀ q ∈ a0, q.2 ≠ 0 := fun q hq => (f0 q hq).1
        have hat : atI (QS.map qsD) 0 = some (qsD a0) := by rw [eQS]; exact atI_zero
        (repeat' (first | refine XS.seq ?_ | refine XS.setO (i := 7) ?_ | refine XE.var rfl ?_ | refine XE.int ?_ | refine XE.op dr_ixL ?_ | refine XN.cb dn_listOf ?_ | refine XA.cons ?_))
        refine go_ix hat ?_
        (repeat' (first | refine XA.nil ?_))
        refine ⟨_, _, rfl, rfl, ?_⟩
        have lx0 : (a0.map qR ++ vz (manyH ps - a0.length)) = a0.map qR := by rw [show manyH ps - a0.length = 0 by omega]; exact List.append_nil _
        have mkN : ∀ {C' : Dat → Prop} {X' : Err → Prop}, C' (numD CN CH ps (a0.map qR)) → W_number c CH CN [houseD CH ps, .lst (a0.map qD)] C' X' := fun {C' X'} k => by
          refine ⟨ps, a0, rfl, by omega, fz _ f0, fun h => ?_, fun _ _ => by rw [lx0]; exact k⟩
          rcases h with h | ⟨q, hq, h⟩
          · omega
          · exact absurd h (nz0 q hq)
        (repeat' (first | refine XS.seq ?_ | refine XS.set ?_))
        refine XE.kmLo (X := fun _ _ => False) (fun O σ m' H' e cls d x R q => x.elim) rfl ?_
        (repeat' (first | refine XE.var rfl ?_ | refine go_ins rfl rfl ?_))
        refine mkN ?_
        (repeat' (first | refine XS.seq ?_ | refine XS.setI (i := 7) rfl ?_ | refine XE.int ?_ | refine XE.tup ?_ | refine XA.nil ?_ | refine XA.cons ?_ | refine go_len rfl ?_))
        refine go_put (j := 0) (by unfold ixN; rw [List.length_map, if_pos (by omega), if_pos (by omega)]; rfl) ?_
        (repeat' (first | (guard_target =~ XS _ _ _ _ _; first | refine XS.seq ?_ | refine XS.app rfl (i := 7) rfl ?_ | refine XS.ite ?_) | (guard_target =~ XE _ _ _ _ _; first | refine XE.int ?_ | refine XE.op dr_neD ?_ | refine XE.tup ?_) | (guard_target =~ XA _ _ _ _ _; first | refine XA.nil ?_ | refine XA.cons ?_) | (guard_target =~ XT _ _ _ _ _; first | refine XT.test ?_ | refine XT.or ?_) | refine go_len rfl ?_ | refine go_app ?_ ?_))
        · rw [List.length_set, List.length_map]; omega
        refine XE.ofN (XN.km rfl ?_)
        (repeat' (first | refine XE.var rfl ?_ | refine XA.nil ?_ | refine go_ins rfl rfl ?_ | refine go_kc rfl rfl ?_))
        refine ⟨ps, a0.map qR, rfl, ?_⟩
        (repeat' (first | refine XE.var rfl ?_ | refine XE.int ?_ | refine XE.op dr_ixL ?_ | refine XE.call ?_ | refine XA.cons ?_))
        refine go_ix hat ?_
        (repeat' (first | refine XA.nil ?_))
        refine ⟨a0, rfl, by omega, fun q hq => ⟨nz0 q hq, fz _ f0 q hq⟩, ?_⟩
        refine go_neD (cmp_rs _) (cmp_rs _) ?_
        rw [show eqD (Dat.lst ((a0.map qR).map frD)) (rsD (a0.map qR)) = true from eqD_refl (cmp_rs _)]
        (repeat' (first | refine XE.var rfl ?_ | refine XE.op dr_neO ?_ | refine XT.test ?_ | refine go_bl ?_))
        refine XE.kmLd num_arg rfl (X := fun _ _ => False) (fun O σ m' H' e cls d x R q => x.elim) ?_
        (repeat' (first | refine XE.var rfl ?_ | refine XE.int ?_ | refine XE.op dr_ixL ?_ | refine XA.cons ?_ | refine go_ins rfl rfl ?_))
        refine go_ix hat ?_
        (repeat' (first | refine XA.nil ?_ | refine go_kc rfl rfl ?_))
        refine mkN ?_
        skip
        refine ⟨_, _, rfl, rfl, ps, a0.map qR, rfl, true, rfl, ?_⟩
        (repeat' (first | refine XS.next ?_ | refine XS.ite ?_ | refine XE.op dr_neD ?_ | refine XT.test ?_ | refine XT.or ?_ | refine go_bl ?_))
        refine XE.ofN (XN.km rfl ?_)
        skip
        refine XE.kmLd num_arg rfl (X := fun _ _ => False) (fun O σ m' H' e cls d x R q => x.elim) ?_
        (repeat' (first | refine XE.var rfl ?_ | refine XE.ofN (XN.lst ?_) | refine XA.nil ?_ | refine XA.cons ?_ | refine go_ins rfl rfl ?_ | refine go_kc rfl rfl ?_ | refine go_len rfl ?_))
        have mk0 : ∀ {C' : Dat → Prop} {X' : Err → Prop}, C' (numD CN CH ps (vz (manyH ps))) → W_number c CH CN [houseD CH ps, .lst []] C' X' := fun {C' X'} k => by
          refine ⟨ps, [], rfl, (show 0 ≤ 900 by decide), (by simp), fun h => ?_, fun _ _ => k⟩
          rcases h with h | ⟨q, hq, h⟩
          · exact absurd h (Nat.not_lt_zero _)
          · cases hq
        refine mk0 ?_
        (repeat' (first | refine XA.nil ?_ | refine go_ins rfl rfl ?_ | refine go_kc rfl rfl ?_))
        refine ⟨ps, vz (manyH ps), rfl, ?_⟩
        (repeat' (first | refine XE.var rfl ?_ | refine XE.int ?_ | refine XE.tup ?_ | refine XE.ofN (XN.lst ?_) | refine XE.ofN (XN.op dn_rep ?_) | refine XA.nil ?_ | refine XA.cons ?_ | refine go_len rfl ?_ | refine go_rep ?_ ?_ ?_ ?_))
        · omega
        · omega
        · show 1 * _ ≤ 1000
          omega
        rw [flat_fr]
        refine go_neD (cmp_rs _) (cmp_rs _) ?_
        rw [show eqD (Dat.lst ((vz (manyH ps)).map frD)) (Dat.lst ((vz (manyH ps)).map frD)) = true from eqD_refl (cmp_rs _)]
        (repeat' (first | refine XE.op dr_neD ?_ | refine XT.test ?_ | refine go_bl ?_))
        refine XE.ofN (XN.km rfl ?_)
        (repeat' (first | refine XE.var rfl ?_ | refine XE.int ?_ | refine XE.kmX0 rfl ?_ | refine XA.nil ?_ | refine XA.cons ?_ | refine go_ins rfl rfl ?_ | refine go_kc rfl rfl ?_))
        refine ⟨ps, 0, 1, rfl, sz30 (by decide), mp, fun h => absurd h (by decide), fun _ => ?_⟩
        have ev : qR (0, 1) :: vz (manyH ps - 1) = vz (manyH ps) := by
          rw [show qR (0, 1) = 0 from by decide +kernel]
          show List.replicate ((manyH ps - 1) + 1) (0 : Rat) = _
          rw [Nat.sub_add_cancel mp]; rfl
        rw [ev]
        (repeat' (first | refine XA.nil ?_ | refine go_ins rfl rfl ?_ | refine go_kc rfl rfl ?_))
        refine ⟨ps, vz (manyH ps), rfl, ?_⟩
        (repeat' (first | refine XE.var rfl ?_ | refine XE.int ?_ | refine XE.tup ?_ | refine XE.ofN (XN.lst ?_) | refine XE.ofN (XN.op dn_rep ?_) | refine XA.nil ?_ | refine XA.cons ?_ | refine go_len rfl ?_ | refine go_rep ?_ ?_ ?_ ?_))
        · omega
        · omega
        · show 1 * _ ≤ 1000
          omega
        rw [flat_fr]
        refine go_neD (cmp_rs _) (cmp_rs _) ?_
        rw [show eqD (Dat.lst ((vz (manyH ps)).map frD)) (Dat.lst ((vz (manyH ps)).map frD)) = true from eqD_refl (cmp_rs _)]
        (repeat' (first | refine XS.next ?_ | refine go_bl ?_))
        exact ⟨rfl, rfl⟩
end
end My

namespace My
open PySem PySem.Spec PyProof.Rows L2
open C8 (Cal pe_c pe_gc)
theorem all_mk {l : PySem.W.OpenLaw} {w : World} {K : PySem.W.Frag} {h : Heap} {mg : Str → Option Value} {fa : Addr} (X : K.In h) (G : h.Ns mainGlobals mg) (hfa : mg "law" = some (.ref fa))
    {C_RootError C_NoPoly C_NoHouse C_NoLetter C_NoCount C_NoMove C_NoWord C_Full C_NoDeed C_NoText C_NoLine C_NoOver C_NoName C_Twice C_NoNumber : Addr}
    {C_House : Addr} (a_House : PySem.W.nsIn K mainGlobals "House" = some (some (.ref C_House))) (pg_House : PySem.W.plainGet K C_House Str.empty = true) (hd_House : PySem.W.hasDictIn K C_House = true) (po_House : PySem.W.plainOver K C_House = true) (sa_House : PySem.W.findIn K (.ref C_House) "__setattr__" = some (some (.builtin "object.__setattr__"))) (mk_House : PySem.W.makesIn K C_House = true) (kc_House : PySem.W.keepIn K (.ref C_House) = true)
    (ic_House : PySem.W.findIn K (.ref C_House) "__class__" = some (some (.builtin "object.__class__"))) (im_House : PySem.W.mroIn K C_House (.type "object") = some true)
    {wn_House wq_House : Str} {wN_House : Addr} {wb_House wu_House : List Value} {ws_House : List Str} {wa_House : Bool} {wc_House : Option Bool} {wd_House : Option Addr} {w0_House w1_House w2_House w3_House w5_House : Option Value}
    (ow_House : K.lookup C_House = some (excClassObj wn_House wq_House C_House wN_House wb_House [.type "object"] true ws_House wu_House wa_House wc_House wd_House w0_House w1_House w2_House w3_House w5_House "object.__new__")) {we_House : Array DictEntry} {wz_House : Nat} {wx_House : Value} {wy_House : Option Addr} {wl_House : Array (Option Value)} (lk_House : K.lookup wN_House = some ⟨wx_House, wy_House, .dict we_House wz_House, wl_House⟩) (wk_House : (we_House.all fun e => match e.key with | .str _ _ => true | _ => false) = true) (nn_House : PySem.W.nsIn K wN_House "__ne__" = some none)
    (no_House_poly : PySem.W.findIn K (.ref C_House) "poly" = some none)
    (no_House_rows : PySem.W.findIn K (.ref C_House) "rows" = some none)
    (no_House_ways : PySem.W.findIn K (.ref C_House) "ways" = some none)
    (no_House_known : PySem.W.findIn K (.ref C_House) "known" = some none)
    (no_House_moved : PySem.W.findIn K (.ref C_House) "moved" = some none)
    {C_Number : Addr} (a_Number : PySem.W.nsIn K mainGlobals "Number" = some (some (.ref C_Number))) (pg_Number : PySem.W.plainGet K C_Number Str.empty = true) (hd_Number : PySem.W.hasDictIn K C_Number = true) (po_Number : PySem.W.plainOver K C_Number = true) (sa_Number : PySem.W.findIn K (.ref C_Number) "__setattr__" = some (some (.builtin "object.__setattr__"))) (mk_Number : PySem.W.makesIn K C_Number = true) (kc_Number : PySem.W.keepIn K (.ref C_Number) = true)
    (ic_Number : PySem.W.findIn K (.ref C_Number) "__class__" = some (some (.builtin "object.__class__"))) (im_Number : PySem.W.mroIn K C_Number (.type "object") = some true)
    {wn_Number wq_Number : Str} {wN_Number : Addr} {wb_Number wu_Number : List Value} {ws_Number : List Str} {wa_Number : Bool} {wc_Number : Option Bool} {wd_Number : Option Addr} {w0_Number w1_Number w2_Number w3_Number w5_Number : Option Value}
    (ow_Number : K.lookup C_Number = some (excClassObj wn_Number wq_Number C_Number wN_Number wb_Number [.type "object"] true ws_Number wu_Number wa_Number wc_Number wd_Number w0_Number w1_Number w2_Number w3_Number w5_Number "object.__new__")) {we_Number : Array DictEntry} {wz_Number : Nat} {wx_Number : Value} {wy_Number : Option Addr} {wl_Number : Array (Option Value)} (lk_Number : K.lookup wN_Number = some ⟨wx_Number, wy_Number, .dict we_Number wz_Number, wl_Number⟩) (wk_Number : (we_Number.all fun e => match e.key with | .str _ _ => true | _ => false) = true) (nn_Number : PySem.W.nsIn K wN_Number "__ne__" = some none)
    (no_Number_home : PySem.W.findIn K (.ref C_Number) "home" = some none)
    (no_Number_parts : PySem.W.findIn K (.ref C_Number) "parts" = some none)
    {f0 : Addr} {od0 an0 : Option Addr} {sl0 : Array (Option Value)} {oc0 kV0 dc0 pm0 cd0 ct0 : Value}
    (a0 : PySem.W.nsIn K mainGlobals "divisor" = some (some (.ref f0))) (l0 : K.lookup f0 = some ⟨oc0, od0, .func (PySem.W.fnOf "divisor" "divisor" (defArgs s_divisor) (defBody s_divisor) (defScope s_divisor) .none kV0 dc0 pm0 an0 cd0 ct0), sl0⟩) (c0 : PySem.W.codeIn K cd0 "divisor" = true) (k0 : PySem.W.keepIn K (.ref f0) = true)
    {f1 : Addr} {od1 an1 : Option Addr} {sl1 : Array (Option Value)} {oc1 kV1 dc1 pm1 cd1 ct1 : Value}
    (a1 : PySem.W.nsIn K mainGlobals "lowest" = some (some (.ref f1))) (l1 : K.lookup f1 = some ⟨oc1, od1, .func (PySem.W.fnOf "lowest" "lowest" (defArgs s_lowest) (defBody s_lowest) (defScope s_lowest) .none kV1 dc1 pm1 an1 cd1 ct1), sl1⟩) (c1 : PySem.W.codeIn K cd1 "lowest" = true) (k1 : PySem.W.keepIn K (.ref f1) = true)
    {f2 : Addr} {od2 an2 : Option Addr} {sl2 : Array (Option Value)} {oc2 kV2 dc2 pm2 cd2 ct2 : Value}
    (a2 : PySem.W.nsIn K mainGlobals "told_by" = some (some (.ref f2))) (l2 : K.lookup f2 = some ⟨oc2, od2, .func (PySem.W.fnOf "told_by" "told_by" (defArgs s_told_by) (defBody s_told_by) (defScope s_told_by) .none kV2 dc2 pm2 an2 cd2 ct2), sl2⟩) (c2 : PySem.W.codeIn K cd2 "told_by" = true) (k2 : PySem.W.keepIn K (.ref f2) = true)
    {f3 : Addr} {od3 an3 : Option Addr} {sl3 : Array (Option Value)} {oc3 kV3 dc3 pm3 cd3 ct3 : Value}
    (a3 : PySem.W.findIn K (.ref C_NoPoly) "__init__" = some (some (.ref f3))) (i3 : PySem.W.isFn K (.ref f3) = true) (y3 : PySem.W.typeIn K (.ref f3) = some (.type "function"))
    {dV3 : Value} {dT3 : Addr} {dn3 : Nat} {do3 : Obj}
    (l3 : K.lookup f3 = some ⟨oc3, od3, .func (PySem.W.fnOf "__init__" "NoPoly.__init__" (defArgs s_NoPoly_init) (defBody s_NoPoly_init) (defScope s_NoPoly_init) dV3 kV3 dc3 pm3 an3 cd3 ct3), sl3⟩) (c3 : PySem.W.codeIn K cd3 "NoPoly.__init__" = true) (k3 : PySem.W.keepIn K (.ref f3) = true)
    (e3 : dV3 = .ref dT3) (t3 : K.lookup dT3 = some do3) (u3 : do3.data = .seq #[.none] dn3)
    {f4 : Addr} {od4 an4 : Option Addr} {sl4 : Array (Option Value)} {oc4 kV4 dc4 pm4 cd4 ct4 : Value}
    (a4 : PySem.W.nsIn K mainGlobals "must_poly" = some (some (.ref f4))) (l4 : K.lookup f4 = some ⟨oc4, od4, .func (PySem.W.fnOf "must_poly" "must_poly" (defArgs s_must_poly) (defBody s_must_poly) (defScope s_must_poly) .none kV4 dc4 pm4 an4 cd4 ct4), sl4⟩) (c4 : PySem.W.codeIn K cd4 "must_poly" = true) (k4 : PySem.W.keepIn K (.ref f4) = true)
    {f5 : Addr} {od5 an5 : Option Addr} {sl5 : Array (Option Value)} {oc5 kV5 dc5 pm5 cd5 ct5 : Value}
    (a5 : PySem.W.nsIn K mainGlobals "must_fraction" = some (some (.ref f5))) (l5 : K.lookup f5 = some ⟨oc5, od5, .func (PySem.W.fnOf "must_fraction" "must_fraction" (defArgs s_must_fraction) (defBody s_must_fraction) (defScope s_must_fraction) .none kV5 dc5 pm5 an5 cd5 ct5), sl5⟩) (c5 : PySem.W.codeIn K cd5 "must_fraction" = true) (k5 : PySem.W.keepIn K (.ref f5) = true)
    {f6 : Addr} {od6 an6 : Option Addr} {sl6 : Array (Option Value)} {oc6 kV6 dc6 pm6 cd6 ct6 : Value}
    (a6 : PySem.W.nsIn K mainGlobals "root_whole" = some (some (.ref f6))) (l6 : K.lookup f6 = some ⟨oc6, od6, .func (PySem.W.fnOf "root_whole" "root_whole" (defArgs s_root_whole) (defBody s_root_whole) (defScope s_root_whole) .none kV6 dc6 pm6 an6 cd6 ct6), sl6⟩) (c6 : PySem.W.codeIn K cd6 "root_whole" = true) (k6 : PySem.W.keepIn K (.ref f6) = true)
    {f7 : Addr} {od7 an7 : Option Addr} {sl7 : Array (Option Value)} {oc7 kV7 dc7 pm7 cd7 ct7 : Value}
    (a7 : PySem.W.nsIn K mainGlobals "bare_of" = some (some (.ref f7))) (l7 : K.lookup f7 = some ⟨oc7, od7, .func (PySem.W.fnOf "bare_of" "bare_of" (defArgs s_bare_of) (defBody s_bare_of) (defScope s_bare_of) .none kV7 dc7 pm7 an7 cd7 ct7), sl7⟩) (c7 : PySem.W.codeIn K cd7 "bare_of" = true) (k7 : PySem.W.keepIn K (.ref f7) = true)
    {f8 : Addr} {od8 an8 : Option Addr} {sl8 : Array (Option Value)} {oc8 kV8 dc8 pm8 cd8 ct8 : Value}
    (a8 : PySem.W.nsIn K mainGlobals "nought" = some (some (.ref f8))) (l8 : K.lookup f8 = some ⟨oc8, od8, .func (PySem.W.fnOf "nought" "nought" (defArgs s_nought) (defBody s_nought) (defScope s_nought) .none kV8 dc8 pm8 an8 cd8 ct8), sl8⟩) (c8 : PySem.W.codeIn K cd8 "nought" = true) (k8 : PySem.W.keepIn K (.ref f8) = true)
    {f9 : Addr} {od9 an9 : Option Addr} {sl9 : Array (Option Value)} {oc9 kV9 dc9 pm9 cd9 ct9 : Value}
    (a9 : PySem.W.nsIn K mainGlobals "ways_of" = some (some (.ref f9))) (l9 : K.lookup f9 = some ⟨oc9, od9, .func (PySem.W.fnOf "ways_of" "ways_of" (defArgs s_ways_of) (defBody s_ways_of) (defScope s_ways_of) .none kV9 dc9 pm9 an9 cd9 ct9), sl9⟩) (c9 : PySem.W.codeIn K cd9 "ways_of" = true) (k9 : PySem.W.keepIn K (.ref f9) = true)
    {f10 : Addr} {od10 an10 : Option Addr} {sl10 : Array (Option Value)} {oc10 kV10 dc10 pm10 cd10 ct10 : Value}
    (a10 : PySem.W.nsIn K mainGlobals "whole_root" = some (some (.ref f10))) (l10 : K.lookup f10 = some ⟨oc10, od10, .func (PySem.W.fnOf "whole_root" "whole_root" (defArgs s_whole_root) (defBody s_whole_root) (defScope s_whole_root) .none kV10 dc10 pm10 an10 cd10 ct10), sl10⟩) (c10 : PySem.W.codeIn K cd10 "whole_root" = true) (k10 : PySem.W.keepIn K (.ref f10) = true)
    {f11 : Addr} {od11 an11 : Option Addr} {sl11 : Array (Option Value)} {oc11 kV11 dc11 pm11 cd11 ct11 : Value}
    (a11 : PySem.W.nsIn K mainGlobals "left_by" = some (some (.ref f11))) (l11 : K.lookup f11 = some ⟨oc11, od11, .func (PySem.W.fnOf "left_by" "left_by" (defArgs s_left_by) (defBody s_left_by) (defScope s_left_by) .none kV11 dc11 pm11 an11 cd11 ct11), sl11⟩) (c11 : PySem.W.codeIn K cd11 "left_by" = true) (k11 : PySem.W.keepIn K (.ref f11) = true)
    {f12 : Addr} {od12 an12 : Option Addr} {sl12 : Array (Option Value)} {oc12 kV12 dc12 pm12 cd12 ct12 : Value}
    (a12 : PySem.W.nsIn K mainGlobals "rows_by_two" = some (some (.ref f12))) (l12 : K.lookup f12 = some ⟨oc12, od12, .func (PySem.W.fnOf "rows_by_two" "rows_by_two" (defArgs s_rows_by_two) (defBody s_rows_by_two) (defScope s_rows_by_two) .none kV12 dc12 pm12 an12 cd12 ct12), sl12⟩) (c12 : PySem.W.codeIn K cd12 "rows_by_two" = true) (k12 : PySem.W.keepIn K (.ref f12) = true)
    {f13 : Addr} {od13 an13 : Option Addr} {sl13 : Array (Option Value)} {oc13 kV13 dc13 pm13 cd13 ct13 : Value}
    (a13 : PySem.W.nsIn K mainGlobals "halves" = some (some (.ref f13))) (l13 : K.lookup f13 = some ⟨oc13, od13, .func (PySem.W.fnOf "halves" "halves" (defArgs s_halves) (defBody s_halves) (defScope s_halves) .none kV13 dc13 pm13 an13 cd13 ct13), sl13⟩) (c13 : PySem.W.codeIn K cd13 "halves" = true) (k13 : PySem.W.keepIn K (.ref f13) = true)
    {f14 : Addr} {od14 an14 : Option Addr} {sl14 : Array (Option Value)} {oc14 kV14 dc14 pm14 cd14 ct14 : Value}
    (a14 : PySem.W.nsIn K mainGlobals "by_squares" = some (some (.ref f14))) (l14 : K.lookup f14 = some ⟨oc14, od14, .func (PySem.W.fnOf "by_squares" "by_squares" (defArgs s_by_squares) (defBody s_by_squares) (defScope s_by_squares) .none kV14 dc14 pm14 an14 cd14 ct14), sl14⟩) (c14 : PySem.W.codeIn K cd14 "by_squares" = true) (k14 : PySem.W.keepIn K (.ref f14) = true)
    {f15 : Addr} {od15 an15 : Option Addr} {sl15 : Array (Option Value)} {oc15 kV15 dc15 pm15 cd15 ct15 : Value}
    (a15 : PySem.W.nsIn K mainGlobals "root_within" = some (some (.ref f15))) (l15 : K.lookup f15 = some ⟨oc15, od15, .func (PySem.W.fnOf "root_within" "root_within" (defArgs s_root_within) (defBody s_root_within) (defScope s_root_within) .none kV15 dc15 pm15 an15 cd15 ct15), sl15⟩) (c15 : PySem.W.codeIn K cd15 "root_within" = true) (k15 : PySem.W.keepIn K (.ref f15) = true)
    {f16 : Addr} {od16 an16 : Option Addr} {sl16 : Array (Option Value)} {oc16 kV16 dc16 pm16 cd16 ct16 : Value}
    (a16 : PySem.W.nsIn K mainGlobals "rows_by_three" = some (some (.ref f16))) (l16 : K.lookup f16 = some ⟨oc16, od16, .func (PySem.W.fnOf "rows_by_three" "rows_by_three" (defArgs s_rows_by_three) (defBody s_rows_by_three) (defScope s_rows_by_three) .none kV16 dc16 pm16 an16 cd16 ct16), sl16⟩) (c16 : PySem.W.codeIn K cd16 "rows_by_three" = true) (k16 : PySem.W.keepIn K (.ref f16) = true)
    {f17 : Addr} {od17 an17 : Option Addr} {sl17 : Array (Option Value)} {oc17 kV17 dc17 pm17 cd17 ct17 : Value}
    (a17 : PySem.W.nsIn K mainGlobals "rows_by_four" = some (some (.ref f17))) (l17 : K.lookup f17 = some ⟨oc17, od17, .func (PySem.W.fnOf "rows_by_four" "rows_by_four" (defArgs s_rows_by_four) (defBody s_rows_by_four) (defScope s_rows_by_four) .none kV17 dc17 pm17 an17 cd17 ct17), sl17⟩) (c17 : PySem.W.codeIn K cd17 "rows_by_four" = true) (k17 : PySem.W.keepIn K (.ref f17) = true)
    {f18 : Addr} {od18 an18 : Option Addr} {sl18 : Array (Option Value)} {oc18 kV18 dc18 pm18 cd18 ct18 : Value}
    (a18 : PySem.W.nsIn K mainGlobals "rows_of" = some (some (.ref f18))) (l18 : K.lookup f18 = some ⟨oc18, od18, .func (PySem.W.fnOf "rows_of" "rows_of" (defArgs s_rows_of) (defBody s_rows_of) (defScope s_rows_of) .none kV18 dc18 pm18 an18 cd18 ct18), sl18⟩) (c18 : PySem.W.codeIn K cd18 "rows_of" = true) (k18 : PySem.W.keepIn K (.ref f18) = true)
    {f19 : Addr} {od19 an19 : Option Addr} {sl19 : Array (Option Value)} {oc19 kV19 dc19 pm19 cd19 ct19 : Value}
    (a19 : PySem.W.findIn K (.ref C_House) "__init__" = some (some (.ref f19))) (i19 : PySem.W.isFn K (.ref f19) = true) (y19 : PySem.W.typeIn K (.ref f19) = some (.type "function"))
    (l19 : K.lookup f19 = some ⟨oc19, od19, .func (PySem.W.fnOf "__init__" "House.__init__" (defArgs s_House_init) (defBody s_House_init) (defScope s_House_init) .none kV19 dc19 pm19 an19 cd19 ct19), sl19⟩) (c19 : PySem.W.codeIn K cd19 "House.__init__" = true) (k19 : PySem.W.keepIn K (.ref f19) = true)
    {f20 : Addr} {od20 an20 : Option Addr} {sl20 : Array (Option Value)} {oc20 kV20 dc20 pm20 cd20 ct20 : Value}
    (a20 : PySem.W.findIn K (.ref C_Number) "__init__" = some (some (.ref f20))) (i20 : PySem.W.isFn K (.ref f20) = true) (y20 : PySem.W.typeIn K (.ref f20) = some (.type "function"))
    (l20 : K.lookup f20 = some ⟨oc20, od20, .func (PySem.W.fnOf "__init__" "Number.__init__" (defArgs s_Number_init) (defBody s_Number_init) (defScope s_Number_init) .none kV20 dc20 pm20 an20 cd20 ct20), sl20⟩) (c20 : PySem.W.codeIn K cd20 "Number.__init__" = true) (k20 : PySem.W.keepIn K (.ref f20) = true)
    {f21 : Addr} {od21 an21 : Option Addr} {sl21 : Array (Option Value)} {oc21 kV21 dc21 pm21 cd21 ct21 : Value}
    (a21 : PySem.W.nsIn K mainGlobals "house_of" = some (some (.ref f21))) (l21 : K.lookup f21 = some ⟨oc21, od21, .func (PySem.W.fnOf "house_of" "house_of" (defArgs s_house_of) (defBody s_house_of) (defScope s_house_of) .none kV21 dc21 pm21 an21 cd21 ct21), sl21⟩) (c21 : PySem.W.codeIn K cd21 "house_of" = true) (k21 : PySem.W.keepIn K (.ref f21) = true)
    {f22 : Addr} {od22 an22 : Option Addr} {sl22 : Array (Option Value)} {oc22 kV22 dc22 pm22 cd22 ct22 : Value}
    (a22 : PySem.W.findIn K (.ref C_House) "__len__" = some (some (.ref f22))) (i22 : PySem.W.isFn K (.ref f22) = true) (y22 : PySem.W.typeIn K (.ref f22) = some (.type "function"))
    (l22 : K.lookup f22 = some ⟨oc22, od22, .func (PySem.W.fnOf "__len__" "House.__len__" (defArgs s_House_len) (defBody s_House_len) (defScope s_House_len) .none kV22 dc22 pm22 an22 cd22 ct22), sl22⟩) (c22 : PySem.W.codeIn K cd22 "House.__len__" = true) (k22 : PySem.W.keepIn K (.ref f22) = true)
    {f23 : Addr} {od23 an23 : Option Addr} {sl23 : Array (Option Value)} {oc23 kV23 dc23 pm23 cd23 ct23 : Value}
    (a23 : PySem.W.findIn K (.ref C_House) "__eq__" = some (some (.ref f23))) (i23 : PySem.W.isFn K (.ref f23) = true) (y23 : PySem.W.typeIn K (.ref f23) = some (.type "function"))
    (l23 : K.lookup f23 = some ⟨oc23, od23, .func (PySem.W.fnOf "__eq__" "House.__eq__" (defArgs s_House_eq) (defBody s_House_eq) (defScope s_House_eq) .none kV23 dc23 pm23 an23 cd23 ct23), sl23⟩) (c23 : PySem.W.codeIn K cd23 "House.__eq__" = true) (k23 : PySem.W.keepIn K (.ref f23) = true)
    (nq23 : PySem.W.nsIn K wN_House "__eq__" = some (some (.ref f23))) (yc23 : oc23 = .type "function")
    {f24 : Addr} {od24 an24 : Option Addr} {sl24 : Array (Option Value)} {oc24 kV24 dc24 pm24 cd24 ct24 : Value}
    (a24 : PySem.W.findIn K (.ref C_House) "steps" = some (some (.ref f24))) (i24 : PySem.W.isFn K (.ref f24) = true) (y24 : PySem.W.typeIn K (.ref f24) = some (.type "function"))
    (l24 : K.lookup f24 = some ⟨oc24, od24, .func (PySem.W.fnOf "steps" "House.steps" (defArgs s_House_steps) (defBody s_House_steps) (defScope s_House_steps) .none kV24 dc24 pm24 an24 cd24 ct24), sl24⟩) (c24 : PySem.W.codeIn K cd24 "House.steps" = true) (k24 : PySem.W.keepIn K (.ref f24) = true)
    {f25 : Addr} {od25 an25 : Option Addr} {sl25 : Array (Option Value)} {oc25 kV25 dc25 pm25 cd25 ct25 : Value}
    (a25 : PySem.W.nsIn K mainGlobals "made" = some (some (.ref f25))) (l25 : K.lookup f25 = some ⟨oc25, od25, .func (PySem.W.fnOf "made" "made" (defArgs s_made) (defBody s_made) (defScope s_made) .none kV25 dc25 pm25 an25 cd25 ct25), sl25⟩) (c25 : PySem.W.codeIn K cd25 "made" = true) (k25 : PySem.W.keepIn K (.ref f25) = true)
    {f26 : Addr} {od26 an26 : Option Addr} {sl26 : Array (Option Value)} {oc26 kV26 dc26 pm26 cd26 ct26 : Value}
    (a26 : PySem.W.findIn K (.ref C_Number) "house" = some (some (.ref f26))) (i26 : PySem.W.isFn K (.ref f26) = true) (y26 : PySem.W.typeIn K (.ref f26) = some (.type "function"))
    (l26 : K.lookup f26 = some ⟨oc26, od26, .func (PySem.W.fnOf "house" "Number.house" (defArgs s_Number_house) (defBody s_Number_house) (defScope s_Number_house) .none kV26 dc26 pm26 an26 cd26 ct26), sl26⟩) (c26 : PySem.W.codeIn K cd26 "Number.house" = true) (k26 : PySem.W.keepIn K (.ref f26) = true)
    {f27 : Addr} {od27 an27 : Option Addr} {sl27 : Array (Option Value)} {oc27 kV27 dc27 pm27 cd27 ct27 : Value}
    (a27 : PySem.W.findIn K (.ref C_House) "number" = some (some (.ref f27))) (i27 : PySem.W.isFn K (.ref f27) = true) (y27 : PySem.W.typeIn K (.ref f27) = some (.type "function"))
    (l27 : K.lookup f27 = some ⟨oc27, od27, .func (PySem.W.fnOf "number" "House.number" (defArgs s_House_number) (defBody s_House_number) (defScope s_House_number) .none kV27 dc27 pm27 an27 cd27 ct27), sl27⟩) (c27 : PySem.W.codeIn K cd27 "House.number" = true) (k27 : PySem.W.keepIn K (.ref f27) = true)
    {f28 : Addr} {od28 an28 : Option Addr} {sl28 : Array (Option Value)} {oc28 kV28 dc28 pm28 cd28 ct28 : Value}
    (a28 : PySem.W.findIn K (.ref C_House) "whole" = some (some (.ref f28))) (i28 : PySem.W.isFn K (.ref f28) = true) (y28 : PySem.W.typeIn K (.ref f28) = some (.type "function"))
    {dV28 : Value} {dT28 : Addr} {dn28 : Nat} {do28 : Obj} {tk28 : Tok}
    (l28 : K.lookup f28 = some ⟨oc28, od28, .func (PySem.W.fnOf "whole" "House.whole" (defArgs s_House_whole) (defBody s_House_whole) (defScope s_House_whole) dV28 kV28 dc28 pm28 an28 cd28 ct28), sl28⟩) (c28 : PySem.W.codeIn K cd28 "House.whole" = true) (k28 : PySem.W.keepIn K (.ref f28) = true)
    (e28 : dV28 = .ref dT28) (t28 : K.lookup dT28 = some do28) (u28 : do28.data = .seq #[.int 1 tk28] dn28)
    {f29 : Addr} {od29 an29 : Option Addr} {sl29 : Array (Option Value)} {oc29 kV29 dc29 pm29 cd29 ct29 : Value}
    (a29 : PySem.W.findIn K (.ref C_House) "letter" = some (some (.ref f29))) (i29 : PySem.W.isFn K (.ref f29) = true) (y29 : PySem.W.typeIn K (.ref f29) = some (.type "function"))
    (l29 : K.lookup f29 = some ⟨oc29, od29, .func (PySem.W.fnOf "letter" "House.letter" (defArgs s_House_letter) (defBody s_House_letter) (defScope s_House_letter) .none kV29 dc29 pm29 an29 cd29 ct29), sl29⟩) (c29 : PySem.W.codeIn K cd29 "House.letter" = true) (k29 : PySem.W.keepIn K (.ref f29) = true)
    {f30 : Addr} {od30 an30 : Option Addr} {sl30 : Array (Option Value)} {oc30 kV30 dc30 pm30 cd30 ct30 : Value}
    (a30 : PySem.W.findIn K (.ref C_Number) "shares" = some (some (.ref f30))) (i30 : PySem.W.isFn K (.ref f30) = true) (y30 : PySem.W.typeIn K (.ref f30) = some (.type "function"))
    (l30 : K.lookup f30 = some ⟨oc30, od30, .func (PySem.W.fnOf "shares" "Number.shares" (defArgs s_Number_shares) (defBody s_Number_shares) (defScope s_Number_shares) .none kV30 dc30 pm30 an30 cd30 ct30), sl30⟩) (c30 : PySem.W.codeIn K cd30 "Number.shares" = true) (k30 : PySem.W.keepIn K (.ref f30) = true)
    {f31 : Addr} {od31 an31 : Option Addr} {sl31 : Array (Option Value)} {oc31 kV31 dc31 pm31 cd31 ct31 : Value}
    (a31 : PySem.W.findIn K (.ref C_Number) "__eq__" = some (some (.ref f31))) (i31 : PySem.W.isFn K (.ref f31) = true) (y31 : PySem.W.typeIn K (.ref f31) = some (.type "function"))
    (l31 : K.lookup f31 = some ⟨oc31, od31, .func (PySem.W.fnOf "__eq__" "Number.__eq__" (defArgs s_Number_eq) (defBody s_Number_eq) (defScope s_Number_eq) .none kV31 dc31 pm31 an31 cd31 ct31), sl31⟩) (c31 : PySem.W.codeIn K cd31 "Number.__eq__" = true) (k31 : PySem.W.keepIn K (.ref f31) = true)
    (nq31 : PySem.W.nsIn K wN_Number "__eq__" = some (some (.ref f31))) (yc31 : oc31 = .type "function")
    {f32 : Addr} {od32 an32 : Option Addr} {sl32 : Array (Option Value)} {oc32 kV32 dc32 pm32 cd32 ct32 : Value}
    (a32 : PySem.W.nsIn K mainGlobals "_law_at" = some (some (.ref f32))) (l32 : K.lookup f32 = some ⟨oc32, od32, .func (PySem.W.fnOf "_law_at" "_law_at" (defArgs s_Lat) (defBody s_Lat) (defScope s_Lat) .none kV32 dc32 pm32 an32 cd32 ct32), sl32⟩) (c32 : PySem.W.codeIn K cd32 "_law_at" = true) (k32 : PySem.W.keepIn K (.ref f32) = true)
    {f33 : Addr} {od33 an33 : Option Addr} {sl33 : Array (Option Value)} {oc33 kV33 dc33 pm33 cd33 ct33 : Value}
    (a33 : PySem.W.nsIn K mainGlobals "_law_mixed" = some (some (.ref f33))) (l33 : K.lookup f33 = some ⟨oc33, od33, .func (PySem.W.fnOf "_law_mixed" "_law_mixed" (defArgs s_Lmixed) (defBody s_Lmixed) (defScope s_Lmixed) .none kV33 dc33 pm33 an33 cd33 ct33), sl33⟩) (c33 : PySem.W.codeIn K cd33 "_law_mixed" = true) (k33 : PySem.W.keepIn K (.ref f33) = true)
    {f34 : Addr} {od34 an34 : Option Addr} {sl34 : Array (Option Value)} {oc34 kV34 dc34 pm34 cd34 ct34 : Value}
    (a34 : PySem.W.nsIn K mainGlobals "_law_purse" = some (some (.ref f34))) (l34 : K.lookup f34 = some ⟨oc34, od34, .func (PySem.W.fnOf "_law_purse" "_law_purse" (defArgs s_Lpurse) (defBody s_Lpurse) (defScope s_Lpurse) .none kV34 dc34 pm34 an34 cd34 ct34), sl34⟩) (c34 : PySem.W.codeIn K cd34 "_law_purse" = true) (k34 : PySem.W.keepIn K (.ref f34) = true)
    {f35 : Addr} {od35 an35 : Option Addr} {sl35 : Array (Option Value)} {oc35 kV35 dc35 pm35 cd35 ct35 : Value}
    (a35 : PySem.W.nsIn K mainGlobals "_law_draw" = some (some (.ref f35))) (l35 : K.lookup f35 = some ⟨oc35, od35, .func (PySem.W.fnOf "_law_draw" "_law_draw" (defArgs s_Ldraw) (defBody s_Ldraw) (defScope s_Ldraw) .none kV35 dc35 pm35 an35 cd35 ct35), sl35⟩) (c35 : PySem.W.codeIn K cd35 "_law_draw" = true) (k35 : PySem.W.keepIn K (.ref f35) = true)
    {f36 : Addr} {od36 an36 : Option Addr} {sl36 : Array (Option Value)} {oc36 kV36 dc36 pm36 cd36 ct36 : Value}
    (a36 : PySem.W.nsIn K mainGlobals "_law_alike_roots" = some (some (.ref f36))) (l36 : K.lookup f36 = some ⟨oc36, od36, .func (PySem.W.fnOf "_law_alike_roots" "_law_alike_roots" (defArgs s_Lalike_roots) (defBody s_Lalike_roots) (defScope s_Lalike_roots) .none kV36 dc36 pm36 an36 cd36 ct36), sl36⟩) (c36 : PySem.W.codeIn K cd36 "_law_alike_roots" = true) (k36 : PySem.W.keepIn K (.ref f36) = true)
    {f37 : Addr} {od37 an37 : Option Addr} {sl37 : Array (Option Value)} {oc37 kV37 dc37 pm37 cd37 ct37 : Value}
    (a37 : PySem.W.nsIn K mainGlobals "_law_three" = some (some (.ref f37))) (l37 : K.lookup f37 = some ⟨oc37, od37, .func (PySem.W.fnOf "_law_three" "_law_three" (defArgs s_Lthree) (defBody s_Lthree) (defScope s_Lthree) .none kV37 dc37 pm37 an37 cd37 ct37), sl37⟩) (c37 : PySem.W.codeIn K cd37 "_law_three" = true) (k37 : PySem.W.keepIn K (.ref f37) = true)
    {f38 : Addr} {od38 an38 : Option Addr} {sl38 : Array (Option Value)} {oc38 kV38 dc38 pm38 cd38 ct38 : Value}
    (a38 : PySem.W.nsIn K mainGlobals "_law_four" = some (some (.ref f38))) (l38 : K.lookup f38 = some ⟨oc38, od38, .func (PySem.W.fnOf "_law_four" "_law_four" (defArgs s_Lfour) (defBody s_Lfour) (defScope s_Lfour) .none kV38 dc38 pm38 an38 cd38 ct38), sl38⟩) (c38 : PySem.W.codeIn K cd38 "_law_four" = true) (k38 : PySem.W.keepIn K (.ref f38) = true)
    {f39 : Addr} {od39 an39 : Option Addr} {sl39 : Array (Option Value)} {oc39 kV39 dc39 pm39 cd39 ct39 : Value}
    (a39 : PySem.W.nsIn K mainGlobals "_law_poly" = some (some (.ref f39))) (l39 : K.lookup f39 = some ⟨oc39, od39, .func (PySem.W.fnOf "_law_poly" "_law_poly" (defArgs s_Lpoly) (defBody s_Lpoly) (defScope s_Lpoly) .none kV39 dc39 pm39 an39 cd39 ct39), sl39⟩) (c39 : PySem.W.codeIn K cd39 "_law_poly" = true) (k39 : PySem.W.keepIn K (.ref f39) = true)
    {f40 : Addr} {od40 an40 : Option Addr} {sl40 : Array (Option Value)} {oc40 kV40 dc40 pm40 cd40 ct40 : Value}
    (a40 : PySem.W.nsIn K mainGlobals "_law_number" = some (some (.ref f40))) (l40 : K.lookup f40 = some ⟨oc40, od40, .func (PySem.W.fnOf "_law_number" "_law_number" (defArgs s_Lnumber) (defBody s_Lnumber) (defScope s_Lnumber) .none kV40 dc40 pm40 an40 cd40 ct40), sl40⟩) (c40 : PySem.W.codeIn K cd40 "_law_number" = true) (k40 : PySem.W.keepIn K (.ref f40) = true)
    {f41 : Addr} {od41 an41 : Option Addr} {sl41 : Array (Option Value)} {oc41 kV41 dc41 pm41 cd41 ct41 : Value}
    (a41 : PySem.W.nsIn K mainGlobals "_law_fraction" = some (some (.ref f41))) (l41 : K.lookup f41 = some ⟨oc41, od41, .func (PySem.W.fnOf "_law_fraction" "_law_fraction" (defArgs s_Lfraction) (defBody s_Lfraction) (defScope s_Lfraction) .none kV41 dc41 pm41 an41 cd41 ct41), sl41⟩) (c41 : PySem.W.codeIn K cd41 "_law_fraction" = true) (k41 : PySem.W.keepIn K (.ref f41) = true)
    {f42 : Addr} {od42 an42 : Option Addr} {sl42 : Array (Option Value)} {oc42 kV42 dc42 pm42 cd42 ct42 : Value}
    (a42 : PySem.W.nsIn K mainGlobals "_law_shares" = some (some (.ref f42))) (l42 : K.lookup f42 = some ⟨oc42, od42, .func (PySem.W.fnOf "_law_shares" "_law_shares" (defArgs s_Lshares) (defBody s_Lshares) (defScope s_Lshares) .none kV42 dc42 pm42 an42 cd42 ct42), sl42⟩) (c42 : PySem.W.codeIn K cd42 "_law_shares" = true) (k42 : PySem.W.keepIn K (.ref f42) = true)
    {f43 : Addr} {od43 an43 : Option Addr} {sl43 : Array (Option Value)} {oc43 kV43 dc43 pm43 cd43 ct43 : Value}
    (a43 : PySem.W.nsIn K mainGlobals "_law_made" = some (some (.ref f43))) (l43 : K.lookup f43 = some ⟨oc43, od43, .func (PySem.W.fnOf "_law_made" "_law_made" (defArgs s_Lmade) (defBody s_Lmade) (defScope s_Lmade) .none kV43 dc43 pm43 an43 cd43 ct43), sl43⟩) (c43 : PySem.W.codeIn K cd43 "_law_made" = true) (k43 : PySem.W.keepIn K (.ref f43) = true)
    {f44 : Addr} {od44 an44 : Option Addr} {sl44 : Array (Option Value)} {oc44 kV44 dc44 pm44 cd44 ct44 : Value}
    (a44 : PySem.W.nsIn K mainGlobals "_law_low" = some (some (.ref f44))) (l44 : K.lookup f44 = some ⟨oc44, od44, .func (PySem.W.fnOf "_law_low" "_law_low" (defArgs s_Llow) (defBody s_Llow) (defScope s_Llow) .none kV44 dc44 pm44 an44 cd44 ct44), sl44⟩) (c44 : PySem.W.codeIn K cd44 "_law_low" = true) (k44 : PySem.W.keepIn K (.ref f44) = true)
    {f45 : Addr} {od45 an45 : Option Addr} {sl45 : Array (Option Value)} {oc45 kV45 dc45 pm45 cd45 ct45 : Value}
    (a45 : PySem.W.nsIn K mainGlobals "_law_whole" = some (some (.ref f45))) (l45 : K.lookup f45 = some ⟨oc45, od45, .func (PySem.W.fnOf "_law_whole" "_law_whole" (defArgs s_Lwhole) (defBody s_Lwhole) (defScope s_Lwhole) .none kV45 dc45 pm45 an45 cd45 ct45), sl45⟩) (c45 : PySem.W.codeIn K cd45 "_law_whole" = true) (k45 : PySem.W.keepIn K (.ref f45) = true)
    {f46 : Addr} {od46 an46 : Option Addr} {sl46 : Array (Option Value)} {oc46 kV46 dc46 pm46 cd46 ct46 : Value}
    (a46 : PySem.W.nsIn K mainGlobals "_law_class" = some (some (.ref f46))) (l46 : K.lookup f46 = some ⟨oc46, od46, .func (PySem.W.fnOf "_law_class" "_law_class" (defArgs s_Lclass) (defBody s_Lclass) (defScope s_Lclass) .none kV46 dc46 pm46 an46 cd46 ct46), sl46⟩) (c46 : PySem.W.codeIn K cd46 "_law_class" = true) (k46 : PySem.W.keepIn K (.ref f46) = true)
    {f47 : Addr} {od47 an47 : Option Addr} {sl47 : Array (Option Value)} {oc47 kV47 dc47 pm47 cd47 ct47 : Value}
    (a47 : PySem.W.nsIn K mainGlobals "_law_many" = some (some (.ref f47))) (l47 : K.lookup f47 = some ⟨oc47, od47, .func (PySem.W.fnOf "_law_many" "_law_many" (defArgs s_Lmany) (defBody s_Lmany) (defScope s_Lmany) .none kV47 dc47 pm47 an47 cd47 ct47), sl47⟩) (c47 : PySem.W.codeIn K cd47 "_law_many" = true) (k47 : PySem.W.keepIn K (.ref f47) = true)
    {f48 : Addr} {od48 an48 : Option Addr} {sl48 : Array (Option Value)} {oc48 kV48 dc48 pm48 cd48 ct48 : Value}
    (a48 : PySem.W.nsIn K mainGlobals "_law_shares_good" = some (some (.ref f48))) (l48 : K.lookup f48 = some ⟨oc48, od48, .func (PySem.W.fnOf "_law_shares_good" "_law_shares_good" (defArgs s_Lshares_good) (defBody s_Lshares_good) (defScope s_Lshares_good) .none kV48 dc48 pm48 an48 cd48 ct48), sl48⟩) (c48 : PySem.W.codeIn K cd48 "_law_shares_good" = true) (k48 : PySem.W.keepIn K (.ref f48) = true)
    {f49 : Addr} {od49 an49 : Option Addr} {sl49 : Array (Option Value)} {oc49 kV49 dc49 pm49 cd49 ct49 : Value}
    (a49 : PySem.W.nsIn K mainGlobals "_law_drawn" = some (some (.ref f49))) (l49 : K.lookup f49 = some ⟨oc49, od49, .func (PySem.W.fnOf "_law_drawn" "_law_drawn" (defArgs s_Ldrawn) (defBody s_Ldrawn) (defScope s_Ldrawn) .none kV49 dc49 pm49 an49 cd49 ct49), sl49⟩) (c49 : PySem.W.codeIn K cd49 "_law_drawn" = true) (k49 : PySem.W.keepIn K (.ref f49) = true)
    {f50 : Addr} {od50 an50 : Option Addr} {sl50 : Array (Option Value)} {oc50 kV50 dc50 pm50 cd50 ct50 : Value}
    (a50 : PySem.W.nsIn K mainGlobals "_law_asked" = some (some (.ref f50))) (l50 : K.lookup f50 = some ⟨oc50, od50, .func (PySem.W.fnOf "_law_asked" "_law_asked" (defArgs s_Lasked) (defBody s_Lasked) (defScope s_Lasked) .none kV50 dc50 pm50 an50 cd50 ct50), sl50⟩) (c50 : PySem.W.codeIn K cd50 "_law_asked" = true) (k50 : PySem.W.keepIn K (.ref f50) = true)
    {f51 : Addr} {od51 an51 : Option Addr} {sl51 : Array (Option Value)} {oc51 kV51 dc51 pm51 cd51 ct51 : Value}
    (a51 : PySem.W.nsIn K mainGlobals "_law_answer" = some (some (.ref f51))) (l51 : K.lookup f51 = some ⟨oc51, od51, .func (PySem.W.fnOf "_law_answer" "_law_answer" (defArgs s_Lanswer) (defBody s_Lanswer) (defScope s_Lanswer) .none kV51 dc51 pm51 an51 cd51 ct51), sl51⟩) (c51 : PySem.W.codeIn K cd51 "_law_answer" = true) (k51 : PySem.W.keepIn K (.ref f51) = true)
    {f52 : Addr} {od52 an52 : Option Addr} {sl52 : Array (Option Value)} {oc52 kV52 dc52 pm52 cd52 ct52 : Value}
    (a52 : PySem.W.nsIn K mainGlobals "_law_due" = some (some (.ref f52))) (l52 : K.lookup f52 = some ⟨oc52, od52, .func (PySem.W.fnOf "_law_due" "_law_due" (defArgs s_Ldue) (defBody s_Ldue) (defScope s_Ldue) .none kV52 dc52 pm52 an52 cd52 ct52), sl52⟩) (c52 : PySem.W.codeIn K cd52 "_law_due" = true) (k52 : PySem.W.keepIn K (.ref f52) = true)
    {f53 : Addr} {od53 an53 : Option Addr} {sl53 : Array (Option Value)} {oc53 kV53 dc53 pm53 cd53 ct53 : Value}
    (a53 : PySem.W.nsIn K mainGlobals "law" = some (some (.ref f53))) (l53 : K.lookup f53 = some ⟨oc53, od53, .func (PySem.W.fnOf "law" "law" (defArgs s_law) (defBody s_law) (defScope s_law) .none kV53 dc53 pm53 an53 cd53 ct53), sl53⟩) (c53 : PySem.W.codeIn K cd53 "law" = true) (k53 : PySem.W.keepIn K (.ref f53) = true)
    (z_set : PySem.W.nsIn K mainGlobals "set" = some none)
    (z_abs : PySem.W.nsIn K mainGlobals "abs" = some none)
    (z_len : PySem.W.nsIn K mainGlobals "len" = some none)
    (z_range : PySem.W.nsIn K mainGlobals "range" = some none)
    (z_max : PySem.W.nsIn K mainGlobals "max" = some none)
    (z_enumerate : PySem.W.nsIn K mainGlobals "enumerate" = some none)
    (z_isinstance : PySem.W.nsIn K mainGlobals "isinstance" = some none)
    (z_int : PySem.W.nsIn K mainGlobals "int" = some none)
    (z_bool : PySem.W.nsIn K mainGlobals "bool" = some none)
    (z_tuple : PySem.W.nsIn K mainGlobals "tuple" = some none)
    (z_list : PySem.W.nsIn K mainGlobals "list" = some none)
    (z_zip : PySem.W.nsIn K mainGlobals "zip" = some none)
    {t_MOST : Tok} (m_MOST : PySem.W.nsIn K mainGlobals "MOST" = some (some (.int 100 t_MOST)))
    {nm_NoPoly q_NoPoly : Str} {N_NoPoly : Addr} {bs_NoPoly bm_NoPoly sub_NoPoly : List Value} {sn_NoPoly : List Str} {ab_NoPoly : Bool} {col_NoPoly : Option Bool} {dd_NoPoly : Option Addr} {k0_NoPoly k1_NoPoly k2_NoPoly k3_NoPoly k5_NoPoly : Option Value}
    (a_RootError : PySem.W.nsIn K mainGlobals "RootError" = some (some (.ref C_RootError)))
    (i_RootError : PySem.W.isClsIn K C_RootError = true)
    (y_RootError : PySem.W.typeIn K (.ref C_RootError) = some (.type "type"))
    (n_RootError : PySem.W.subIn K (.type "NoneType") (.ref C_RootError) = some false)
    (a_NoPoly : PySem.W.nsIn K mainGlobals "NoPoly" = some (some (.ref C_NoPoly)))
    (i_NoPoly : PySem.W.isClsIn K C_NoPoly = true)
    (y_NoPoly : PySem.W.typeIn K (.ref C_NoPoly) = some (.type "type"))
    (n_NoPoly : PySem.W.subIn K (.type "NoneType") (.ref C_NoPoly) = some false)
    (a_NoHouse : PySem.W.nsIn K mainGlobals "NoHouse" = some (some (.ref C_NoHouse)))
    (i_NoHouse : PySem.W.isClsIn K C_NoHouse = true)
    (y_NoHouse : PySem.W.typeIn K (.ref C_NoHouse) = some (.type "type"))
    (n_NoHouse : PySem.W.subIn K (.type "NoneType") (.ref C_NoHouse) = some false)
    (a_NoLetter : PySem.W.nsIn K mainGlobals "NoLetter" = some (some (.ref C_NoLetter)))
    (i_NoLetter : PySem.W.isClsIn K C_NoLetter = true)
    (y_NoLetter : PySem.W.typeIn K (.ref C_NoLetter) = some (.type "type"))
    (n_NoLetter : PySem.W.subIn K (.type "NoneType") (.ref C_NoLetter) = some false)
    (a_NoCount : PySem.W.nsIn K mainGlobals "NoCount" = some (some (.ref C_NoCount)))
    (i_NoCount : PySem.W.isClsIn K C_NoCount = true)
    (y_NoCount : PySem.W.typeIn K (.ref C_NoCount) = some (.type "type"))
    (n_NoCount : PySem.W.subIn K (.type "NoneType") (.ref C_NoCount) = some false)
    (a_NoMove : PySem.W.nsIn K mainGlobals "NoMove" = some (some (.ref C_NoMove)))
    (i_NoMove : PySem.W.isClsIn K C_NoMove = true)
    (y_NoMove : PySem.W.typeIn K (.ref C_NoMove) = some (.type "type"))
    (n_NoMove : PySem.W.subIn K (.type "NoneType") (.ref C_NoMove) = some false)
    (a_NoWord : PySem.W.nsIn K mainGlobals "NoWord" = some (some (.ref C_NoWord)))
    (i_NoWord : PySem.W.isClsIn K C_NoWord = true)
    (y_NoWord : PySem.W.typeIn K (.ref C_NoWord) = some (.type "type"))
    (n_NoWord : PySem.W.subIn K (.type "NoneType") (.ref C_NoWord) = some false)
    (a_Full : PySem.W.nsIn K mainGlobals "Full" = some (some (.ref C_Full)))
    (i_Full : PySem.W.isClsIn K C_Full = true)
    (y_Full : PySem.W.typeIn K (.ref C_Full) = some (.type "type"))
    (n_Full : PySem.W.subIn K (.type "NoneType") (.ref C_Full) = some false)
    (a_NoDeed : PySem.W.nsIn K mainGlobals "NoDeed" = some (some (.ref C_NoDeed)))
    (i_NoDeed : PySem.W.isClsIn K C_NoDeed = true)
    (y_NoDeed : PySem.W.typeIn K (.ref C_NoDeed) = some (.type "type"))
    (n_NoDeed : PySem.W.subIn K (.type "NoneType") (.ref C_NoDeed) = some false)
    (a_NoText : PySem.W.nsIn K mainGlobals "NoText" = some (some (.ref C_NoText)))
    (i_NoText : PySem.W.isClsIn K C_NoText = true)
    (y_NoText : PySem.W.typeIn K (.ref C_NoText) = some (.type "type"))
    (n_NoText : PySem.W.subIn K (.type "NoneType") (.ref C_NoText) = some false)
    (a_NoLine : PySem.W.nsIn K mainGlobals "NoLine" = some (some (.ref C_NoLine)))
    (i_NoLine : PySem.W.isClsIn K C_NoLine = true)
    (y_NoLine : PySem.W.typeIn K (.ref C_NoLine) = some (.type "type"))
    (n_NoLine : PySem.W.subIn K (.type "NoneType") (.ref C_NoLine) = some false)
    (a_NoOver : PySem.W.nsIn K mainGlobals "NoOver" = some (some (.ref C_NoOver)))
    (i_NoOver : PySem.W.isClsIn K C_NoOver = true)
    (y_NoOver : PySem.W.typeIn K (.ref C_NoOver) = some (.type "type"))
    (n_NoOver : PySem.W.subIn K (.type "NoneType") (.ref C_NoOver) = some false)
    (a_NoName : PySem.W.nsIn K mainGlobals "NoName" = some (some (.ref C_NoName)))
    (i_NoName : PySem.W.isClsIn K C_NoName = true)
    (y_NoName : PySem.W.typeIn K (.ref C_NoName) = some (.type "type"))
    (n_NoName : PySem.W.subIn K (.type "NoneType") (.ref C_NoName) = some false)
    (a_Twice : PySem.W.nsIn K mainGlobals "Twice" = some (some (.ref C_Twice)))
    (i_Twice : PySem.W.isClsIn K C_Twice = true)
    (y_Twice : PySem.W.typeIn K (.ref C_Twice) = some (.type "type"))
    (n_Twice : PySem.W.subIn K (.type "NoneType") (.ref C_Twice) = some false)
    (a_NoNumber : PySem.W.nsIn K mainGlobals "NoNumber" = some (some (.ref C_NoNumber)))
    (i_NoNumber : PySem.W.isClsIn K C_NoNumber = true)
    (y_NoNumber : PySem.W.typeIn K (.ref C_NoNumber) = some (.type "type"))
    (n_NoNumber : PySem.W.subIn K (.type "NoneType") (.ref C_NoNumber) = some false)
    (e_RootError : PySem.W.subIn K (.ref C_RootError) (.type "BaseException") = some true)
    (e_NoPoly : PySem.W.subIn K (.ref C_NoPoly) (.type "BaseException") = some true)
    (e_NoLetter : PySem.W.subIn K (.ref C_NoLetter) (.type "BaseException") = some true)
    (e_NoOver : PySem.W.subIn K (.ref C_NoOver) (.type "BaseException") = some true)
    (e_NoNumber : PySem.W.subIn K (.ref C_NoNumber) (.type "BaseException") = some true)
    (s_NoPoly_RootError : PySem.W.subIn K (.ref C_NoPoly) (.ref C_RootError) = some true)
    (d_NoPoly_RootError : (Value.ref C_NoPoly == Value.ref C_RootError) = false)
    (s_NoPoly_NoHouse : PySem.W.subIn K (.ref C_NoPoly) (.ref C_NoHouse) = some false)
    (d_NoPoly_NoHouse : (Value.ref C_NoPoly == Value.ref C_NoHouse) = false)
    (s_NoPoly_NoLetter : PySem.W.subIn K (.ref C_NoPoly) (.ref C_NoLetter) = some false)
    (d_NoPoly_NoLetter : (Value.ref C_NoPoly == Value.ref C_NoLetter) = false)
    (s_NoPoly_NoCount : PySem.W.subIn K (.ref C_NoPoly) (.ref C_NoCount) = some false)
    (d_NoPoly_NoCount : (Value.ref C_NoPoly == Value.ref C_NoCount) = false)
    (s_NoPoly_NoMove : PySem.W.subIn K (.ref C_NoPoly) (.ref C_NoMove) = some false)
    (d_NoPoly_NoMove : (Value.ref C_NoPoly == Value.ref C_NoMove) = false)
    (s_NoPoly_NoWord : PySem.W.subIn K (.ref C_NoPoly) (.ref C_NoWord) = some false)
    (d_NoPoly_NoWord : (Value.ref C_NoPoly == Value.ref C_NoWord) = false)
    (s_NoPoly_Full : PySem.W.subIn K (.ref C_NoPoly) (.ref C_Full) = some false)
    (d_NoPoly_Full : (Value.ref C_NoPoly == Value.ref C_Full) = false)
    (s_NoPoly_NoDeed : PySem.W.subIn K (.ref C_NoPoly) (.ref C_NoDeed) = some false)
    (d_NoPoly_NoDeed : (Value.ref C_NoPoly == Value.ref C_NoDeed) = false)
    (s_NoPoly_NoText : PySem.W.subIn K (.ref C_NoPoly) (.ref C_NoText) = some false)
    (d_NoPoly_NoText : (Value.ref C_NoPoly == Value.ref C_NoText) = false)
    (s_NoPoly_NoLine : PySem.W.subIn K (.ref C_NoPoly) (.ref C_NoLine) = some false)
    (d_NoPoly_NoLine : (Value.ref C_NoPoly == Value.ref C_NoLine) = false)
    (s_NoPoly_NoOver : PySem.W.subIn K (.ref C_NoPoly) (.ref C_NoOver) = some false)
    (d_NoPoly_NoOver : (Value.ref C_NoPoly == Value.ref C_NoOver) = false)
    (s_NoPoly_NoName : PySem.W.subIn K (.ref C_NoPoly) (.ref C_NoName) = some false)
    (d_NoPoly_NoName : (Value.ref C_NoPoly == Value.ref C_NoName) = false)
    (s_NoPoly_Twice : PySem.W.subIn K (.ref C_NoPoly) (.ref C_Twice) = some false)
    (d_NoPoly_Twice : (Value.ref C_NoPoly == Value.ref C_Twice) = false)
    (s_NoPoly_NoNumber : PySem.W.subIn K (.ref C_NoPoly) (.ref C_NoNumber) = some false)
    (d_NoPoly_NoNumber : (Value.ref C_NoPoly == Value.ref C_NoNumber) = false)
    (k_NoPoly : PySem.W.keepIn K (.ref C_NoPoly) = true)
    (hg_NoPoly : PySem.W.findIn K (.ref C_NoPoly) "__getattribute__" = some (some (.builtin "BaseException.__getattribute__")))
    (hk_NoPoly : PySem.W.findIn K (.ref C_NoPoly) "__getattr__" = some none)
    (hd_NoPoly : PySem.W.hasDictIn K C_NoPoly = true)
    (ha_NoPoly : PySem.W.findIn K (.ref C_NoPoly) "__class__" = some (some (.builtin "object.__class__")))
    (hm_NoPoly : PySem.W.mroIn K C_NoPoly (.type "object") = some true)
    (s_NoNumber_NoNumber : PySem.W.subIn K (.ref C_NoNumber) (.ref C_NoNumber) = some true)
    (s_NoNumber_RootError : PySem.W.subIn K (.ref C_NoNumber) (.ref C_RootError) = some false)
    (d_NoNumber_RootError : (Value.ref C_NoNumber == Value.ref C_RootError) = false)
    (s_NoNumber_NoPoly : PySem.W.subIn K (.ref C_NoNumber) (.ref C_NoPoly) = some false)
    (d_NoNumber_NoPoly : (Value.ref C_NoNumber == Value.ref C_NoPoly) = false)
    (s_NoNumber_NoHouse : PySem.W.subIn K (.ref C_NoNumber) (.ref C_NoHouse) = some false)
    (d_NoNumber_NoHouse : (Value.ref C_NoNumber == Value.ref C_NoHouse) = false)
    (s_NoNumber_NoLetter : PySem.W.subIn K (.ref C_NoNumber) (.ref C_NoLetter) = some false)
    (d_NoNumber_NoLetter : (Value.ref C_NoNumber == Value.ref C_NoLetter) = false)
    (s_NoNumber_NoCount : PySem.W.subIn K (.ref C_NoNumber) (.ref C_NoCount) = some false)
    (d_NoNumber_NoCount : (Value.ref C_NoNumber == Value.ref C_NoCount) = false)
    (s_NoNumber_NoMove : PySem.W.subIn K (.ref C_NoNumber) (.ref C_NoMove) = some false)
    (d_NoNumber_NoMove : (Value.ref C_NoNumber == Value.ref C_NoMove) = false)
    (s_NoNumber_NoWord : PySem.W.subIn K (.ref C_NoNumber) (.ref C_NoWord) = some false)
    (d_NoNumber_NoWord : (Value.ref C_NoNumber == Value.ref C_NoWord) = false)
    (s_NoNumber_Full : PySem.W.subIn K (.ref C_NoNumber) (.ref C_Full) = some false)
    (d_NoNumber_Full : (Value.ref C_NoNumber == Value.ref C_Full) = false)
    (s_NoNumber_NoDeed : PySem.W.subIn K (.ref C_NoNumber) (.ref C_NoDeed) = some false)
    (d_NoNumber_NoDeed : (Value.ref C_NoNumber == Value.ref C_NoDeed) = false)
    (s_NoNumber_NoText : PySem.W.subIn K (.ref C_NoNumber) (.ref C_NoText) = some false)
    (d_NoNumber_NoText : (Value.ref C_NoNumber == Value.ref C_NoText) = false)
    (s_NoNumber_NoLine : PySem.W.subIn K (.ref C_NoNumber) (.ref C_NoLine) = some false)
    (d_NoNumber_NoLine : (Value.ref C_NoNumber == Value.ref C_NoLine) = false)
    (s_NoNumber_NoOver : PySem.W.subIn K (.ref C_NoNumber) (.ref C_NoOver) = some false)
    (d_NoNumber_NoOver : (Value.ref C_NoNumber == Value.ref C_NoOver) = false)
    (s_NoNumber_NoName : PySem.W.subIn K (.ref C_NoNumber) (.ref C_NoName) = some false)
    (d_NoNumber_NoName : (Value.ref C_NoNumber == Value.ref C_NoName) = false)
    (s_NoNumber_Twice : PySem.W.subIn K (.ref C_NoNumber) (.ref C_Twice) = some false)
    (d_NoNumber_Twice : (Value.ref C_NoNumber == Value.ref C_Twice) = false)
    (x_NoNumber : PySem.W.excIn K C_NoNumber [.type "ValueError", .type "Exception", .type "BaseException", .type "object"] "ValueError.__new__" = true)
    (k_NoNumber : PySem.W.keepIn K (.ref C_NoNumber) = true)
    (hg_NoNumber : PySem.W.findIn K (.ref C_NoNumber) "__getattribute__" = some (some (.builtin "BaseException.__getattribute__")))
    (hk_NoNumber : PySem.W.findIn K (.ref C_NoNumber) "__getattr__" = some none)
    (hd_NoNumber : PySem.W.hasDictIn K C_NoNumber = true)
    (ha_NoNumber : PySem.W.findIn K (.ref C_NoNumber) "__class__" = some (some (.builtin "object.__class__")))
    (hm_NoNumber : PySem.W.mroIn K C_NoNumber (.type "object") = some true)
    (s_NoLetter_RootError : PySem.W.subIn K (.ref C_NoLetter) (.ref C_RootError) = some true)
    (d_NoLetter_RootError : (Value.ref C_NoLetter == Value.ref C_RootError) = false)
    (s_NoLetter_NoPoly : PySem.W.subIn K (.ref C_NoLetter) (.ref C_NoPoly) = some false)
    (d_NoLetter_NoPoly : (Value.ref C_NoLetter == Value.ref C_NoPoly) = false)
    (s_NoLetter_NoHouse : PySem.W.subIn K (.ref C_NoLetter) (.ref C_NoHouse) = some false)
    (d_NoLetter_NoHouse : (Value.ref C_NoLetter == Value.ref C_NoHouse) = false)
    (s_NoLetter_NoCount : PySem.W.subIn K (.ref C_NoLetter) (.ref C_NoCount) = some false)
    (d_NoLetter_NoCount : (Value.ref C_NoLetter == Value.ref C_NoCount) = false)
    (s_NoLetter_NoMove : PySem.W.subIn K (.ref C_NoLetter) (.ref C_NoMove) = some false)
    (d_NoLetter_NoMove : (Value.ref C_NoLetter == Value.ref C_NoMove) = false)
    (s_NoLetter_NoWord : PySem.W.subIn K (.ref C_NoLetter) (.ref C_NoWord) = some false)
    (d_NoLetter_NoWord : (Value.ref C_NoLetter == Value.ref C_NoWord) = false)
    (s_NoLetter_Full : PySem.W.subIn K (.ref C_NoLetter) (.ref C_Full) = some false)
    (d_NoLetter_Full : (Value.ref C_NoLetter == Value.ref C_Full) = false)
    (s_NoLetter_NoDeed : PySem.W.subIn K (.ref C_NoLetter) (.ref C_NoDeed) = some false)
    (d_NoLetter_NoDeed : (Value.ref C_NoLetter == Value.ref C_NoDeed) = false)
    (s_NoLetter_NoText : PySem.W.subIn K (.ref C_NoLetter) (.ref C_NoText) = some false)
    (d_NoLetter_NoText : (Value.ref C_NoLetter == Value.ref C_NoText) = false)
    (s_NoLetter_NoLine : PySem.W.subIn K (.ref C_NoLetter) (.ref C_NoLine) = some false)
    (d_NoLetter_NoLine : (Value.ref C_NoLetter == Value.ref C_NoLine) = false)
    (s_NoLetter_NoOver : PySem.W.subIn K (.ref C_NoLetter) (.ref C_NoOver) = some false)
    (d_NoLetter_NoOver : (Value.ref C_NoLetter == Value.ref C_NoOver) = false)
    (s_NoLetter_NoName : PySem.W.subIn K (.ref C_NoLetter) (.ref C_NoName) = some false)
    (d_NoLetter_NoName : (Value.ref C_NoLetter == Value.ref C_NoName) = false)
    (s_NoLetter_Twice : PySem.W.subIn K (.ref C_NoLetter) (.ref C_Twice) = some false)
    (d_NoLetter_Twice : (Value.ref C_NoLetter == Value.ref C_Twice) = false)
    (s_NoLetter_NoNumber : PySem.W.subIn K (.ref C_NoLetter) (.ref C_NoNumber) = some false)
    (d_NoLetter_NoNumber : (Value.ref C_NoLetter == Value.ref C_NoNumber) = false)
    (x_NoLetter : PySem.W.excIn K C_NoLetter [.type "ValueError", .type "Exception", .type "BaseException", .type "object"] "ValueError.__new__" = true)
    (k_NoLetter : PySem.W.keepIn K (.ref C_NoLetter) = true)
    (hg_NoLetter : PySem.W.findIn K (.ref C_NoLetter) "__getattribute__" = some (some (.builtin "BaseException.__getattribute__")))
    (hk_NoLetter : PySem.W.findIn K (.ref C_NoLetter) "__getattr__" = some none)
    (hd_NoLetter : PySem.W.hasDictIn K C_NoLetter = true)
    (ha_NoLetter : PySem.W.findIn K (.ref C_NoLetter) "__class__" = some (some (.builtin "object.__class__")))
    (hm_NoLetter : PySem.W.mroIn K C_NoLetter (.type "object") = some true)
    (oc_NoPoly : K.lookup C_NoPoly = some (excClassObj nm_NoPoly q_NoPoly C_NoPoly N_NoPoly bs_NoPoly bm_NoPoly true sn_NoPoly sub_NoPoly ab_NoPoly col_NoPoly dd_NoPoly k0_NoPoly k1_NoPoly k2_NoPoly k3_NoPoly k5_NoPoly "ValueError.__new__"))
    (ov_NoPoly : PySem.HandSPX.refsVE bm_NoPoly = true)
    (os_NoPoly : PySem.W.findIn K (.ref C_NoPoly) "__setattr__" = some (some (.builtin "object.__setattr__")))
    (of_NoPoly : PySem.W.findIn K (.ref C_NoPoly) "at" = some none)
    (ir : PySem.W.readsIn (mc := .type "type") K C_RootError = true)
    (if_ : PySem.W.findCls K (.ref C_RootError) (.type "type") "__init__" = some (.val (.builtin "ValueError.__init__")))
    (ig : PySem.W.specialIn K (.ref C_RootError) "__getattribute__" = some (some (.builtin "type.__getattribute__")))
    (hn : PySem.W.specialIn K (.builtin "object.__class__") "__get__" = some (some (.builtin "getset_descriptor.__get__")))
    (ht : PySem.W.takesIn K (.builtin "object.__class__") = some true) :
    ∃ fd : FuncData, (∀ (s : Shared) (v : Value), BindsTo s fd ⟨[v], []⟩ [("_law_script", v)]) ∧ ∀ base : Heap, K.In base → base.Ns mainGlobals mg → FnOk l.prog w K mg base CX0 8 fa fd ["_law_script"] (spLaw K) := by
  have T : Txt K mg ⟨C_RootError, C_NoPoly, C_NoHouse, C_NoLetter, C_NoCount, C_NoMove, C_NoWord, C_Full, C_NoDeed, C_NoText, C_NoLine, C_NoOver, C_NoName, C_Twice, C_NoNumber⟩ := { g_RootError := PySem.W.mg_of X G a_RootError, g_NoPoly := PySem.W.mg_of X G a_NoPoly, g_NoHouse := PySem.W.mg_of X G a_NoHouse, g_NoLetter := PySem.W.mg_of X G a_NoLetter, g_NoCount := PySem.W.mg_of X G a_NoCount, g_NoMove := PySem.W.mg_of X G a_NoMove, g_NoWord := PySem.W.mg_of X G a_NoWord, g_Full := PySem.W.mg_of X G a_Full, g_NoDeed := PySem.W.mg_of X G a_NoDeed, g_NoText := PySem.W.mg_of X G a_NoText, g_NoLine := PySem.W.mg_of X G a_NoLine, g_NoOver := PySem.W.mg_of X G a_NoOver, g_NoName := PySem.W.mg_of X G a_NoName, g_Twice := PySem.W.mg_of X G a_Twice, g_NoNumber := PySem.W.mg_of X G a_NoNumber, row_none := { k_RootError := kit_none ⟨i_RootError, y_RootError⟩ n_RootError, k_NoPoly := kit_none ⟨i_NoPoly, y_NoPoly⟩ n_NoPoly, k_NoHouse := kit_none ⟨i_NoHouse, y_NoHouse⟩ n_NoHouse, k_NoLetter := kit_none ⟨i_NoLetter, y_NoLetter⟩ n_NoLetter, k_NoCount := kit_none ⟨i_NoCount, y_NoCount⟩ n_NoCount, k_NoMove := kit_none ⟨i_NoMove, y_NoMove⟩ n_NoMove, k_NoWord := kit_none ⟨i_NoWord, y_NoWord⟩ n_NoWord, k_Full := kit_none ⟨i_Full, y_Full⟩ n_Full, k_NoDeed := kit_none ⟨i_NoDeed, y_NoDeed⟩ n_NoDeed, k_NoText := kit_none ⟨i_NoText, y_NoText⟩ n_NoText, k_NoLine := kit_none ⟨i_NoLine, y_NoLine⟩ n_NoLine, k_NoOver := kit_none ⟨i_NoOver, y_NoOver⟩ n_NoOver, k_NoName := kit_none ⟨i_NoName, y_NoName⟩ n_NoName, k_Twice := kit_none ⟨i_Twice, y_Twice⟩ n_Twice, k_NoNumber := kit_none ⟨i_NoNumber, y_NoNumber⟩ n_NoNumber }, row_NoPoly := { k_RootError := kit_of_sub ⟨i_RootError, y_RootError⟩ s_NoPoly_RootError d_NoPoly_RootError, k_NoPoly := kit_self, k_NoHouse := kit_of_sub ⟨i_NoHouse, y_NoHouse⟩ s_NoPoly_NoHouse d_NoPoly_NoHouse, k_NoLetter := kit_of_sub ⟨i_NoLetter, y_NoLetter⟩ s_NoPoly_NoLetter d_NoPoly_NoLetter, k_NoCount := kit_of_sub ⟨i_NoCount, y_NoCount⟩ s_NoPoly_NoCount d_NoPoly_NoCount, k_NoMove := kit_of_sub ⟨i_NoMove, y_NoMove⟩ s_NoPoly_NoMove d_NoPoly_NoMove, k_NoWord := kit_of_sub ⟨i_NoWord, y_NoWord⟩ s_NoPoly_NoWord d_NoPoly_NoWord, k_Full := kit_of_sub ⟨i_Full, y_Full⟩ s_NoPoly_Full d_NoPoly_Full, k_NoDeed := kit_of_sub ⟨i_NoDeed, y_NoDeed⟩ s_NoPoly_NoDeed d_NoPoly_NoDeed, k_NoText := kit_of_sub ⟨i_NoText, y_NoText⟩ s_NoPoly_NoText d_NoPoly_NoText, k_NoLine := kit_of_sub ⟨i_NoLine, y_NoLine⟩ s_NoPoly_NoLine d_NoPoly_NoLine, k_NoOver := kit_of_sub ⟨i_NoOver, y_NoOver⟩ s_NoPoly_NoOver d_NoPoly_NoOver, k_NoName := kit_of_sub ⟨i_NoName, y_NoName⟩ s_NoPoly_NoName d_NoPoly_NoName, k_Twice := kit_of_sub ⟨i_Twice, y_Twice⟩ s_NoPoly_Twice d_NoPoly_Twice, k_NoNumber := kit_of_sub ⟨i_NoNumber, y_NoNumber⟩ s_NoPoly_NoNumber d_NoPoly_NoNumber }, exc_NoPoly := ⟨hg_NoPoly, hk_NoPoly, e_NoPoly, hd_NoPoly, ha_NoPoly, hn, ht, hm_NoPoly⟩, exm_NoPoly_RootError := exm_of_sub ⟨i_RootError, y_RootError⟩ e_RootError s_NoPoly_RootError, exm_NoPoly_NoNumber := exm_of_sub ⟨i_NoNumber, y_NoNumber⟩ e_NoNumber s_NoPoly_NoNumber, exm_NoPoly_NoOver := exm_of_sub ⟨i_NoOver, y_NoOver⟩ e_NoOver s_NoPoly_NoOver, oex_NoPoly := ⟨⟨_, _, _, _, _, _, _, _, _, _, _, _, _, _, _, oc_NoPoly, ov_NoPoly⟩, os_NoPoly, e_NoPoly, y_NoPoly, k_NoPoly⟩, no_NoPoly := of_NoPoly, ini_RootError := ⟨ir, if_, ig⟩, row_NoNumber := { k_RootError := kit_of_sub ⟨i_RootError, y_RootError⟩ s_NoNumber_RootError d_NoNumber_RootError, k_NoPoly := kit_of_sub ⟨i_NoPoly, y_NoPoly⟩ s_NoNumber_NoPoly d_NoNumber_NoPoly, k_NoHouse := kit_of_sub ⟨i_NoHouse, y_NoHouse⟩ s_NoNumber_NoHouse d_NoNumber_NoHouse, k_NoLetter := kit_of_sub ⟨i_NoLetter, y_NoLetter⟩ s_NoNumber_NoLetter d_NoNumber_NoLetter, k_NoCount := kit_of_sub ⟨i_NoCount, y_NoCount⟩ s_NoNumber_NoCount d_NoNumber_NoCount, k_NoMove := kit_of_sub ⟨i_NoMove, y_NoMove⟩ s_NoNumber_NoMove d_NoNumber_NoMove, k_NoWord := kit_of_sub ⟨i_NoWord, y_NoWord⟩ s_NoNumber_NoWord d_NoNumber_NoWord, k_Full := kit_of_sub ⟨i_Full, y_Full⟩ s_NoNumber_Full d_NoNumber_Full, k_NoDeed := kit_of_sub ⟨i_NoDeed, y_NoDeed⟩ s_NoNumber_NoDeed d_NoNumber_NoDeed, k_NoText := kit_of_sub ⟨i_NoText, y_NoText⟩ s_NoNumber_NoText d_NoNumber_NoText, k_NoLine := kit_of_sub ⟨i_NoLine, y_NoLine⟩ s_NoNumber_NoLine d_NoNumber_NoLine, k_NoOver := kit_of_sub ⟨i_NoOver, y_NoOver⟩ s_NoNumber_NoOver d_NoNumber_NoOver, k_NoName := kit_of_sub ⟨i_NoName, y_NoName⟩ s_NoNumber_NoName d_NoNumber_NoName, k_Twice := kit_of_sub ⟨i_Twice, y_Twice⟩ s_NoNumber_Twice d_NoNumber_Twice, k_NoNumber := kit_self }, exc_NoNumber := ⟨hg_NoNumber, hk_NoNumber, e_NoNumber, hd_NoNumber, ha_NoNumber, hn, ht, hm_NoNumber⟩, exm_NoNumber_RootError := exm_of_sub ⟨i_RootError, y_RootError⟩ e_RootError s_NoNumber_RootError, exm_NoNumber_NoNumber := exm_of_sub ⟨i_NoNumber, y_NoNumber⟩ e_NoNumber s_NoNumber_NoNumber, exm_NoNumber_NoOver := exm_of_sub ⟨i_NoOver, y_NoOver⟩ e_NoOver s_NoNumber_NoOver, x_NoNumber := x_NoNumber, k_NoNumber := k_NoNumber, b_NoNumber := e_NoNumber, t_NoNumber := y_NoNumber, row_NoLetter := { k_RootError := kit_of_sub ⟨i_RootError, y_RootError⟩ s_NoLetter_RootError d_NoLetter_RootError, k_NoPoly := kit_of_sub ⟨i_NoPoly, y_NoPoly⟩ s_NoLetter_NoPoly d_NoLetter_NoPoly, k_NoHouse := kit_of_sub ⟨i_NoHouse, y_NoHouse⟩ s_NoLetter_NoHouse d_NoLetter_NoHouse, k_NoLetter := kit_self, k_NoCount := kit_of_sub ⟨i_NoCount, y_NoCount⟩ s_NoLetter_NoCount d_NoLetter_NoCount, k_NoMove := kit_of_sub ⟨i_NoMove, y_NoMove⟩ s_NoLetter_NoMove d_NoLetter_NoMove, k_NoWord := kit_of_sub ⟨i_NoWord, y_NoWord⟩ s_NoLetter_NoWord d_NoLetter_NoWord, k_Full := kit_of_sub ⟨i_Full, y_Full⟩ s_NoLetter_Full d_NoLetter_Full, k_NoDeed := kit_of_sub ⟨i_NoDeed, y_NoDeed⟩ s_NoLetter_NoDeed d_NoLetter_NoDeed, k_NoText := kit_of_sub ⟨i_NoText, y_NoText⟩ s_NoLetter_NoText d_NoLetter_NoText, k_NoLine := kit_of_sub ⟨i_NoLine, y_NoLine⟩ s_NoLetter_NoLine d_NoLetter_NoLine, k_NoOver := kit_of_sub ⟨i_NoOver, y_NoOver⟩ s_NoLetter_NoOver d_NoLetter_NoOver, k_NoName := kit_of_sub ⟨i_NoName, y_NoName⟩ s_NoLetter_NoName d_NoLetter_NoName, k_Twice := kit_of_sub ⟨i_Twice, y_Twice⟩ s_NoLetter_Twice d_NoLetter_Twice, k_NoNumber := kit_of_sub ⟨i_NoNumber, y_NoNumber⟩ s_NoLetter_NoNumber d_NoLetter_NoNumber }, exc_NoLetter := ⟨hg_NoLetter, hk_NoLetter, e_NoLetter, hd_NoLetter, ha_NoLetter, hn, ht, hm_NoLetter⟩, exm_NoLetter_RootError := exm_of_sub ⟨i_RootError, y_RootError⟩ e_RootError s_NoLetter_RootError, exm_NoLetter_NoNumber := exm_of_sub ⟨i_NoNumber, y_NoNumber⟩ e_NoNumber s_NoLetter_NoNumber, exm_NoLetter_NoOver := exm_of_sub ⟨i_NoOver, y_NoOver⟩ e_NoOver s_NoLetter_NoOver, x_NoLetter := x_NoLetter, k_NoLetter := k_NoLetter, b_NoLetter := e_NoLetter, t_NoLetter := y_NoLetter, z_set := PySem.W.mg_none_of X G z_set, z_abs := PySem.W.mg_none_of X G z_abs, z_len := PySem.W.mg_none_of X G z_len, z_range := PySem.W.mg_none_of X G z_range, z_max := PySem.W.mg_none_of X G z_max, z_enumerate := PySem.W.mg_none_of X G z_enumerate, z_isinstance := PySem.W.mg_none_of X G z_isinstance, z_int := PySem.W.mg_none_of X G z_int, z_bool := PySem.W.mg_none_of X G z_bool, z_tuple := PySem.W.mg_none_of X G z_tuple, z_list := PySem.W.mg_none_of X G z_list, z_zip := PySem.W.mg_none_of X G z_zip, mg_MOST := ⟨_, PySem.W.mg_of X G m_MOST, ⟨_, rfl⟩⟩ }
  have e := hfa.symm.trans (PySem.W.mg_of X G a53)
  cases e
  refine ⟨PySem.W.fnOf "law" "law" (defArgs s_law) (defBody s_law) (defScope s_law) .none kV53 dc53 pm53 an53 cd53 ct53, fun s v => .of_eq rfl, fun base _ _ => ?_⟩
  have hH : HsOk K C_House := ⟨⟨pg_House, hd_House, po_House, sa_House⟩, no_House_poly, no_House_rows, no_House_ways, no_House_known, no_House_moved⟩
  have hN : NmOk K C_Number := ⟨⟨pg_Number, hd_Number, po_Number, sa_Number⟩, no_Number_home, no_Number_parts⟩
  have iC_House : C8.InsC K C_House := ⟨⟨pg_House, hd_House, po_House, sa_House⟩, ic_House, hn, ht, im_House, kit_self⟩
  have gC_House : mg "House" = some (.ref C_House) := PySem.W.mg_of X G a_House
  have iC_Number : C8.InsC K C_Number := ⟨⟨pg_Number, hd_Number, po_Number, sa_Number⟩, ic_Number, hn, ht, im_Number, kit_self⟩
  have gC_Number : mg "Number" = some (.ref C_Number) := PySem.W.mg_of X G a_Number
  have F0 := L2.fun_mk (st := s_divisor) l0 c0 k0
  have b0 := F0.binds (ps := P_divisor) fun _ _ _ _ _ _ us hl => match us, hl with | [_, _], _ => rfl
  have h_divisor : Cal l.prog w K mg base 1 "divisor" sp_divisor [] := ⟨f0, _, P_divisor, [], ok_divisor T F0 , PySem.W.mg_of X G a0, k0, b0, .nil⟩
  have F1 := L2.fun_mk (st := s_lowest) l1 c1 k1
  have b1 := F1.binds (ps := P_lowest) fun _ _ _ _ _ _ us hl => match us, hl with | [_, _], _ => rfl
  have h_lowest : Cal l.prog w K mg base 2 "lowest" (sp_lowest K) [] := ⟨f1, _, P_lowest, [], ok_lowest T F1 h_divisor, PySem.W.mg_of X G a1, k1, b1, .nil⟩
  have hD_lowest : Cal l.prog w K mg base 2 "lowest" (spD W_lowest) [] := Cal.imp h_lowest fun _ _ _ _ h => ad_lowest h
  have F2 := L2.fun_mk (st := s_told_by) l2 c2 k2
  have b2 := F2.binds (ps := P_told_by) fun _ _ _ _ _ _ us hl => match us, hl with | [_], _ => rfl
  have h_told_by : Cal l.prog w K mg base 1 "told_by" (sp_told_by K) [] := ⟨f2, _, P_told_by, [], ok_told_by T F2 , PySem.W.mg_of X G a2, k2, b2, .nil⟩
  have hD_told_by : Cal l.prog w K mg base 1 "told_by" (spD W_told_by) [] := Cal.imp h_told_by fun _ _ _ _ h => ad_told_by h
  have F3 : FunD K "__init__" "NoPoly.__init__" (defArgs s_NoPoly_init) (defBody s_NoPoly_init) (defScope s_NoPoly_init) [.non] [] f3 _ := ⟨⟨_, _, _, _, _, _, _, _, _, _, rfl, l3, c3, .inr ⟨by decide, _, _, [_], _, e3, t3, u3, .cons rfl .nil⟩, .inl rfl⟩, k3⟩
  have i_NoPoly : IniCal l.prog w K mg base 1 "NoPoly" C_NoPoly "at" (.non) := by
    obtain ⟨ds, vds, bds⟩ := F3.binds1 (ps := P_NoPoly_init) 1 0 (by decide) rfl fun T kV doc pm an cdv ct us its h1 h2 => match us, its, h1, h2 with | [u], [d], _, _ => ⟨_, rfl, rfl⟩
    exact ⟨T.oex_NoPoly, T.g_NoPoly, T.no_NoPoly, f3, _, P_NoPoly_init, ds, ok_NoPoly_init T F3, a3, y3, bds, vds, fun s u v Xs => .of_defaults e3 (Xs _ _ t3) u3 rfl rfl⟩
  have F4 := L2.fun_mk (st := s_must_poly) l4 c4 k4
  have b4 := F4.binds (ps := P_must_poly) fun _ _ _ _ _ _ us hl => match us, hl with | [_], _ => rfl
  have h_must_poly : CalX l.prog w K mg base 3 "must_poly" (sp_must_poly K ⟨C_RootError, C_NoPoly, C_NoHouse, C_NoLetter, C_NoCount, C_NoMove, C_NoWord, C_Full, C_NoDeed, C_NoText, C_NoLine, C_NoOver, C_NoName, C_Twice, C_NoNumber⟩) := ⟨f4, _, P_must_poly, ok_must_poly T F4 h_told_by i_NoPoly, PySem.W.mg_of X G a4, k4, b4⟩
  have hD_must_poly : CalX l.prog w K mg base 3 "must_poly" (spX (W_must_poly ⟨C_RootError, C_NoPoly, C_NoHouse, C_NoLetter, C_NoCount, C_NoMove, C_NoWord, C_Full, C_NoDeed, C_NoText, C_NoLine, C_NoOver, C_NoName, C_Twice, C_NoNumber⟩)) := CalX.imp h_must_poly fun _ _ _ _ h => ad_must_poly h
  have F5 := L2.fun_mk (st := s_must_fraction) l5 c5 k5
  have b5 := F5.binds (ps := P_must_fraction) fun _ _ _ _ _ _ us hl => match us, hl with | [_], _ => rfl
  have h_must_fraction : CalX l.prog w K mg base 3 "must_fraction" (sp_must_fraction K ⟨C_RootError, C_NoPoly, C_NoHouse, C_NoLetter, C_NoCount, C_NoMove, C_NoWord, C_Full, C_NoDeed, C_NoText, C_NoLine, C_NoOver, C_NoName, C_Twice, C_NoNumber⟩) := ⟨f5, _, P_must_fraction, ok_must_fraction T F5 h_lowest, PySem.W.mg_of X G a5, k5, b5⟩
  have hD_must_fraction : CalX l.prog w K mg base 3 "must_fraction" (spX (W_must_fraction ⟨C_RootError, C_NoPoly, C_NoHouse, C_NoLetter, C_NoCount, C_NoMove, C_NoWord, C_Full, C_NoDeed, C_NoText, C_NoLine, C_NoOver, C_NoName, C_Twice, C_NoNumber⟩)) := CalX.imp h_must_fraction fun _ _ _ _ h => ad_must_fraction h
  have F6 := L2.fun_mk (st := s_root_whole) l6 c6 k6
  have b6 := F6.binds (ps := P_root_whole) fun _ _ _ _ _ _ us hl => match us, hl with | [_], _ => rfl
  have h_root_whole : Cal l.prog w K mg base 1 "root_whole" sp_root [] := ⟨f6, _, P_root_whole, [], ok_root_whole T F6 , PySem.W.mg_of X G a6, k6, b6, .nil⟩
  have hD_root_whole : Cal l.prog w K mg base 1 "root_whole" (spD W_root) [] := Cal.imp h_root_whole fun _ _ _ _ h => ad_root h
  have F7 := L2.fun_mk (st := s_bare_of) l7 c7 k7
  have b7 := F7.binds (ps := P_bare_of) fun _ _ _ _ _ _ us hl => match us, hl with | [_], _ => rfl
  have h_bare_of : Cal l.prog w K mg base 2 "bare_of" sp_bare_of [] := ⟨f7, _, P_bare_of, [], ok_bare_of T F7 h_root_whole, PySem.W.mg_of X G a7, k7, b7, .nil⟩
  have hD_bare_of : Cal l.prog w K mg base 2 "bare_of" (spD W_bare) [] := Cal.imp h_bare_of fun _ _ _ _ h => ad_bare h
  have F8 := L2.fun_mk (st := s_nought) l8 c8 k8
  have b8 := F8.binds (ps := P_nought) fun _ _ _ _ _ _ us hl => match us, hl with | [_], _ => rfl
  have h_nought : Cal l.prog w K mg base 1 "nought" (spN W_noughtN) [] := ⟨f8, _, P_nought, [], ok_noughtN T F8 , PySem.W.mg_of X G a8, k8, b8, .nil⟩
  have hD_nought : Cal l.prog w K mg base 1 "nought" (spD W_nought) [] := Cal.imp h_nought fun _ _ _ _ h => ad_nought h
  have F9 := L2.fun_mk (st := s_ways_of) l9 c9 k9
  have b9 := F9.binds (ps := P_ways_of) fun _ _ _ _ _ _ us hl => match us, hl with | [_], _ => rfl
  have h_ways_of : Cal l.prog w K mg base 1 "ways_of" (spD W_ways_of) [] := ⟨f9, _, P_ways_of, [], ok_ways_ofD T F9 , PySem.W.mg_of X G a9, k9, b9, .nil⟩
  have F10 := L2.fun_mk (st := s_whole_root) l10 c10 k10
  have b10 := F10.binds (ps := P_whole_root) fun _ _ _ _ _ _ us hl => match us, hl with | [_], _ => rfl
  have h_whole_root : Cal l.prog w K mg base 1 "whole_root" (sp_whole_root K) [] := ⟨f10, _, P_whole_root, [], ok_whole_root T F10 , PySem.W.mg_of X G a10, k10, b10, .nil⟩
  have hD_whole_root : Cal l.prog w K mg base 1 "whole_root" (spD W_whole_root) [] := Cal.imp h_whole_root fun _ _ _ _ h => ad_whole_root h
  have F11 := L2.fun_mk (st := s_left_by) l11 c11 k11
  have b11 := F11.binds (ps := P_left_by) fun _ _ _ _ _ _ us hl => match us, hl with | [_, _], _ => rfl
  have h_left_by : Cal l.prog w K mg base 1 "left_by" (spD W_left_by) [] := ⟨f11, _, P_left_by, [], ok_left_byD T F11 , PySem.W.mg_of X G a11, k11, b11, .nil⟩
  have F12 := L2.fun_mk (st := s_rows_by_two) l12 c12 k12
  have b12 := F12.binds (ps := P_rows_by_two) fun _ _ _ _ _ _ us hl => match us, hl with | [_, _], _ => rfl
  have h_rows_by_two : Cal l.prog w K mg base 3 "rows_by_two" (spD W_rows2) [] := ⟨f12, _, P_rows_by_two, [], ok_rows_by_twoD T F12 hD_bare_of, PySem.W.mg_of X G a12, k12, b12, .nil⟩
  have F13 := L2.fun_mk (st := s_halves) l13 c13 k13
  have b13 := F13.binds (ps := P_halves) fun _ _ _ _ _ _ us hl => match us, hl with | [_], _ => rfl
  have h_halves : Cal l.prog w K mg base 2 "halves" (sp_halves K) [] := ⟨f13, _, P_halves, [], ok_halves T F13 h_root_whole, PySem.W.mg_of X G a13, k13, b13, .nil⟩
  have hD_halves : Cal l.prog w K mg base 2 "halves" (spD W_halves) [] := Cal.imp h_halves fun _ _ _ _ h => ad_halves h
  have F14 := L2.fun_mk (st := s_by_squares) l14 c14 k14
  have b14 := F14.binds (ps := P_by_squares) fun _ _ _ _ _ _ us hl => match us, hl with | [_], _ => rfl
  have h_by_squares : Cal l.prog w K mg base 3 "by_squares" (spD W_by_squares) [] := ⟨f14, _, P_by_squares, [], ok_by_squaresD T F14 hD_root_whole hD_bare_of, PySem.W.mg_of X G a14, k14, b14, .nil⟩
  have F15 := L2.fun_mk (st := s_root_within) l15 c15 k15
  have b15 := F15.binds (ps := P_root_within) fun _ _ _ _ _ _ us hl => match us, hl with | [_], _ => rfl
  have h_root_within : Cal l.prog w K mg base 2 "root_within" (sp_root_within K) [] := ⟨f15, _, P_root_within, [], ok_root_within T F15 h_root_whole, PySem.W.mg_of X G a15, k15, b15, .nil⟩
  have hD_root_within : Cal l.prog w K mg base 2 "root_within" (spD W_within) [] := Cal.imp h_root_within fun _ _ _ _ h => ad_within h
  have F16 := L2.fun_mk (st := s_rows_by_three) l16 c16 k16
  have b16 := F16.binds (ps := P_rows_by_three) fun _ _ _ _ _ _ us hl => match us, hl with | [_], _ => rfl
  have h_rows_by_three : Cal l.prog w K mg base 4 "rows_by_three" (spD W_rows3) [] := ⟨f16, _, P_rows_by_three, [], ok_rows_by_threeD T F16 hD_root_whole hD_bare_of hD_whole_root h_left_by h_rows_by_two hD_told_by, PySem.W.mg_of X G a16, k16, b16, .nil⟩
  have F17 := L2.fun_mk (st := s_rows_by_four) l17 c17 k17
  have b17 := F17.binds (ps := P_rows_by_four) fun _ _ _ _ _ _ us hl => match us, hl with | [_], _ => rfl
  have h_rows_by_four : Cal l.prog w K mg base 4 "rows_by_four" (spD W_rows4) [] := ⟨f17, _, P_rows_by_four, [], ok_rows_by_fourD T F17 hD_root_whole hD_bare_of hD_halves hD_nought h_by_squares hD_root_within hD_lowest, PySem.W.mg_of X G a17, k17, b17, .nil⟩
  have F18 := L2.fun_mk (st := s_rows_of) l18 c18 k18
  have b18 := F18.binds (ps := P_rows_of) fun _ _ _ _ _ _ us hl => match us, hl with | [_], _ => rfl
  have h_rows_of : Cal l.prog w K mg base 5 "rows_of" (spD W_rows_of) [] := ⟨f18, _, P_rows_of, [], ok_rows_ofD T F18 h_rows_by_two h_rows_by_three h_rows_by_four, PySem.W.mg_of X G a18, k18, b18, .nil⟩
  have F19 := L2.fun_mk (st := s_House_init) l19 c19 k19
  have b19 := F19.binds (ps := P_House_init) fun _ _ _ _ _ _ us hl => match us, hl with | [_, _, _], _ => rfl
  have m_House : C8.Mak l.prog w K mg base 2 "House" C_House (spI W_House_init C_House) [] := ⟨f19, _, P_House_init, [], ⟨mk_House, a19, i19, kc_House⟩, ok_House_initD T hH F19 h_ways_of, PySem.W.mg_of X G a_House, b19, .nil⟩
  have F20 := L2.fun_mk (st := s_Number_init) l20 c20 k20
  have b20 := F20.binds (ps := P_Number_init) fun _ _ _ _ _ _ us hl => match us, hl with | [_, _, _], _ => rfl
  have m_Number : C8.Mak l.prog w K mg base 1 "Number" C_Number (spI (W_Number_init C_House) C_Number) [] := ⟨f20, _, P_Number_init, [], ⟨mk_Number, a20, i20, kc_Number⟩, ok_Number_initD T hN F20 , PySem.W.mg_of X G a_Number, b20, .nil⟩
  have F21 := L2.fun_mk (st := s_house_of) l21 c21 k21
  have b21 := F21.binds (ps := P_house_of) fun _ _ _ _ _ _ us hl => match us, hl with | [_], _ => rfl
  have h_house_of : CalX l.prog w K mg base 6 "house_of" (spX (W_house_of ⟨C_RootError, C_NoPoly, C_NoHouse, C_NoLetter, C_NoCount, C_NoMove, C_NoWord, C_Full, C_NoDeed, C_NoText, C_NoLine, C_NoOver, C_NoName, C_Twice, C_NoNumber⟩ C_House)) := ⟨f21, _, P_house_of, ok_house_ofD T F21 hD_must_poly h_rows_of m_House, PySem.W.mg_of X G a21, k21, b21⟩
  have F22 := L2.fun_mk (st := s_House_len) l22 c22 k22
  have b22 := F22.binds (ps := P_House_len) fun _ _ _ _ _ _ us hl => match us, hl with | [_], _ => rfl
  have n_House_len : SpM l.prog w K mg base 1 C_House "__len__" (spD (W_Hlen C_House)) := ⟨f22, _, P_House_len, ok_House_len T hH F22 , ⟨a22, i22⟩, b22⟩
  have F23 := L2.fun_mk (st := s_House_eq) l23 c23 k23
  have b23 := F23.binds (ps := P_House_eq) fun _ _ _ _ _ _ us hl => match us, hl with | [_, _], _ => rfl
  have e_House : SpE l.prog w K mg base 1 C_House (spD (W_Heq C_House)) := ⟨f23, _, P_House_eq, ok_House_eq T hH iC_House gC_House F23 , ⟨a23, i23⟩, b23, ⟨⟨_, _, _, _, _, _, _, _, _, _, _, _, _, _, ow_House, (by unfold PySem.W.nsOkIn; rw [lk_House]; exact wk_House), nq23, nn_House⟩, ⟨_, l23, yc23⟩⟩⟩
  have F24 := L2.fun_mk (st := s_House_steps) l24 c24 k24
  have b24 := F24.binds (ps := P_House_steps) fun _ _ _ _ _ _ us hl => match us, hl with | [_], _ => rfl
  have m_House_steps_1 : KMet CX0 l.prog w K mg base 1 C_House "steps" (spD (W_steps C_House)) 1 [] [.p 0] := ⟨f24, ⟨pg_House, hd_House, po_House, sa_House⟩, ⟨a24, i24, k24⟩, ⟨⟨_, P_House_steps, fun us ws => us ++ ws, ok_House_steps T hH F24 , k24, fun s us ws _ h1 h2 => match us, ws, h1, h2 with | [_], [], _, _ => .of_eq rfl, rel10⟩, rfl⟩⟩
  have F25 := L2.fun_mk (st := s_made) l25 c25 k25
  have b25 := F25.binds (ps := P_made) fun _ _ _ _ _ _ us hl => match us, hl with | [_, _], _ => rfl
  have h_made : Cal l.prog w K mg base 3 "made" (spD (W_made C_House C_Number)) [] := ⟨f25, _, P_made, [], ok_made T F25 m_Number, PySem.W.mg_of X G a25, k25, b25, .nil⟩
  have F26 := L2.fun_mk (st := s_Number_house) l26 c26 k26
  have b26 := F26.binds (ps := P_Number_house) fun _ _ _ _ _ _ us hl => match us, hl with | [_], _ => rfl
  have m_Number_house_1 : KMet CX0 l.prog w K mg base 1 C_Number "house" (spD (W_house C_House C_Number)) 1 [] [.p 0] := ⟨f26, ⟨pg_Number, hd_Number, po_Number, sa_Number⟩, ⟨a26, i26, k26⟩, ⟨⟨_, P_Number_house, fun us ws => us ++ ws, ok_Number_house T hN F26 , k26, fun s us ws _ h1 h2 => match us, ws, h1, h2 with | [_], [], _, _ => .of_eq rfl, rel10⟩, rfl⟩⟩
  have F27 := L2.fun_mk (st := s_House_number) l27 c27 k27
  have b27 := F27.binds (ps := P_House_number) fun _ _ _ _ _ _ us hl => match us, hl with | [_, _], _ => rfl
  have m_House_number_2 : KMet (L2.CX l.prog w) l.prog w K mg base 4 C_House "number" (spL (W_number ⟨C_RootError, C_NoPoly, C_NoHouse, C_NoLetter, C_NoCount, C_NoMove, C_NoWord, C_Full, C_NoDeed, C_NoText, C_NoLine, C_NoOver, C_NoName, C_Twice, C_NoNumber⟩ C_House C_Number)) 2 [] [.p 0, .p 1] := ⟨f27, ⟨pg_House, hd_House, po_House, sa_House⟩, ⟨a27, i27, k27⟩, ⟨⟨_, P_House_number, fun us ws => us ++ ws, ok_House_number T hH F27 hD_must_fraction h_nought h_made n_House_len, k27, fun s us ws _ h1 h2 => match us, ws, h1, h2 with | [_, _], [], _, _ => .of_eq rfl, rel20⟩, rfl⟩⟩
  have m_House_number_1_shares : KMet (L2.CX l.prog w) l.prog w K mg base 4 C_House "number" (spL (W_number ⟨C_RootError, C_NoPoly, C_NoHouse, C_NoLetter, C_NoCount, C_NoMove, C_NoWord, C_Full, C_NoDeed, C_NoText, C_NoLine, C_NoOver, C_NoName, C_Twice, C_NoNumber⟩ C_House C_Number)) 1 ["shares"] [.p 0, .k 0] := ⟨f27, ⟨pg_House, hd_House, po_House, sa_House⟩, ⟨a27, i27, k27⟩, ⟨⟨_, P_House_number, fun us ws => us ++ ws, ok_House_number T hH F27 hD_must_fraction h_nought h_made n_House_len, k27, fun s us ws _ h1 h2 => match us, ws, h1, h2 with | [_], [_], _, _ => .of_eq rfl, rel11⟩, rfl⟩⟩
  have F28 : FunD K "whole" "House.whole" (defArgs s_House_whole) (defBody s_House_whole) (defScope s_House_whole) [.int 1] [] f28 _ := ⟨⟨_, _, _, _, _, _, _, _, _, _, rfl, l28, c28, .inr ⟨by decide, _, _, [_], _, e28, t28, u28, .cons ⟨_, rfl⟩ .nil⟩, .inl rfl⟩, k28⟩
  have m_House_whole_2 : KMet (L2.CX l.prog w) l.prog w K mg base 5 C_House "whole" (spX (W_whole ⟨C_RootError, C_NoPoly, C_NoHouse, C_NoLetter, C_NoCount, C_NoMove, C_NoWord, C_Full, C_NoDeed, C_NoText, C_NoLine, C_NoOver, C_NoName, C_Twice, C_NoNumber⟩ C_House C_Number)) 2 [] [.p 0, .p 1, .c (.int 1)] := ⟨f28, ⟨pg_House, hd_House, po_House, sa_House⟩, ⟨a28, i28, k28⟩, ⟨⟨_, P_House_whole, fun us ws => us ++ [.int 1 tk28], ok_House_whole T F28 m_House_number_2, k28, fun s us ws Xs h1 h2 => match us, ws, h1, h2 with | [_, _], [], _, _ => .of_defaults e28 (Xs _ _ t28) u28 rfl rfl, rel2d⟩, rfl⟩⟩
  have m_House_whole_3 : KMet (L2.CX l.prog w) l.prog w K mg base 5 C_House "whole" (spX (W_whole ⟨C_RootError, C_NoPoly, C_NoHouse, C_NoLetter, C_NoCount, C_NoMove, C_NoWord, C_Full, C_NoDeed, C_NoText, C_NoLine, C_NoOver, C_NoName, C_Twice, C_NoNumber⟩ C_House C_Number)) 3 [] [.p 0, .p 1, .p 2] := ⟨f28, ⟨pg_House, hd_House, po_House, sa_House⟩, ⟨a28, i28, k28⟩, ⟨⟨_, P_House_whole, fun us ws => us ++ ws, ok_House_whole T F28 m_House_number_2, k28, fun s us ws Xs h1 h2 => match us, ws, h1, h2 with | [_, _, _], [], _, _ => .of_defaults e28 (Xs _ _ t28) u28 rfl rfl, rel30⟩, rfl⟩⟩
  have m_House_whole_1_bottom_top : KMet (L2.CX l.prog w) l.prog w K mg base 5 C_House "whole" (spX (W_whole ⟨C_RootError, C_NoPoly, C_NoHouse, C_NoLetter, C_NoCount, C_NoMove, C_NoWord, C_Full, C_NoDeed, C_NoText, C_NoLine, C_NoOver, C_NoName, C_Twice, C_NoNumber⟩ C_House C_Number)) 1 ["bottom", "top"] [.p 0, .k 1, .k 0] := ⟨f28, ⟨pg_House, hd_House, po_House, sa_House⟩, ⟨a28, i28, k28⟩, ⟨⟨_, P_House_whole, fun us ws => us ++ ws.reverse, ok_House_whole T F28 m_House_number_2, k28, fun s us ws Xs h1 h2 => match us, ws, h1, h2 with | [_], [_, _], _, _ => .of_defaults e28 (Xs _ _ t28) u28 rfl rfl, rel12r⟩, rfl⟩⟩
  have m_House_whole_2_bottom : KMet (L2.CX l.prog w) l.prog w K mg base 5 C_House "whole" (spX (W_whole ⟨C_RootError, C_NoPoly, C_NoHouse, C_NoLetter, C_NoCount, C_NoMove, C_NoWord, C_Full, C_NoDeed, C_NoText, C_NoLine, C_NoOver, C_NoName, C_Twice, C_NoNumber⟩ C_House C_Number)) 2 ["bottom"] [.p 0, .p 1, .k 0] := ⟨f28, ⟨pg_House, hd_House, po_House, sa_House⟩, ⟨a28, i28, k28⟩, ⟨⟨_, P_House_whole, fun us ws => us ++ ws, ok_House_whole T F28 m_House_number_2, k28, fun s us ws Xs h1 h2 => match us, ws, h1, h2 with | [_, _], [_], _, _ => .of_defaults e28 (Xs _ _ t28) u28 rfl rfl, rel21⟩, rfl⟩⟩
  have F29 := L2.fun_mk (st := s_House_letter) l29 c29 k29
  have b29 := F29.binds (ps := P_House_letter) fun _ _ _ _ _ _ us hl => match us, hl with | [_, _], _ => rfl
  have m_House_letter_2 : KMet (L2.CX l.prog w) l.prog w K mg base 4 C_House "letter" (spX (W_letter ⟨C_RootError, C_NoPoly, C_NoHouse, C_NoLetter, C_NoCount, C_NoMove, C_NoWord, C_Full, C_NoDeed, C_NoText, C_NoLine, C_NoOver, C_NoName, C_Twice, C_NoNumber⟩ C_House C_Number)) 2 [] [.p 0, .p 1] := ⟨f29, ⟨pg_House, hd_House, po_House, sa_House⟩, ⟨a29, i29, k29⟩, ⟨⟨_, P_House_letter, fun us ws => us ++ ws, ok_House_letter T hH F29 h_nought h_made n_House_len, k29, fun s us ws _ h1 h2 => match us, ws, h1, h2 with | [_, _], [], _, _ => .of_eq rfl, rel20⟩, rfl⟩⟩
  have m_House_letter_1_place : KMet (L2.CX l.prog w) l.prog w K mg base 4 C_House "letter" (spX (W_letter ⟨C_RootError, C_NoPoly, C_NoHouse, C_NoLetter, C_NoCount, C_NoMove, C_NoWord, C_Full, C_NoDeed, C_NoText, C_NoLine, C_NoOver, C_NoName, C_Twice, C_NoNumber⟩ C_House C_Number)) 1 ["place"] [.p 0, .k 0] := ⟨f29, ⟨pg_House, hd_House, po_House, sa_House⟩, ⟨a29, i29, k29⟩, ⟨⟨_, P_House_letter, fun us ws => us ++ ws, ok_House_letter T hH F29 h_nought h_made n_House_len, k29, fun s us ws _ h1 h2 => match us, ws, h1, h2 with | [_], [_], _, _ => .of_eq rfl, rel11⟩, rfl⟩⟩
  have F30 := L2.fun_mk (st := s_Number_shares) l30 c30 k30
  have b30 := F30.binds (ps := P_Number_shares) fun _ _ _ _ _ _ us hl => match us, hl with | [_], _ => rfl
  have m_Number_shares_1 : KMet CX0 l.prog w K mg base 1 C_Number "shares" (spN (W_shares C_House C_Number)) 1 [] [.p 0] := ⟨f30, ⟨pg_Number, hd_Number, po_Number, sa_Number⟩, ⟨a30, i30, k30⟩, ⟨⟨_, P_Number_shares, fun us ws => us ++ ws, ok_Number_shares T hN F30 , k30, fun s us ws _ h1 h2 => match us, ws, h1, h2 with | [_], [], _, _ => .of_eq rfl, rel10⟩, rfl⟩⟩
  have F31 := L2.fun_mk (st := s_Number_eq) l31 c31 k31
  have b31 := F31.binds (ps := P_Number_eq) fun _ _ _ _ _ _ us hl => match us, hl with | [_, _], _ => rfl
  have e_Number : SpE l.prog w K mg base 2 C_Number (spD (W_Neq C_House C_Number)) := ⟨f31, _, P_Number_eq, ok_Number_eq T hN iC_Number gC_Number F31 e_House, ⟨a31, i31⟩, b31, ⟨⟨_, _, _, _, _, _, _, _, _, _, _, _, _, _, ow_Number, (by unfold PySem.W.nsOkIn; rw [lk_Number]; exact wk_Number), nq31, nn_Number⟩, ⟨_, l31, yc31⟩⟩⟩
  have F32 := L2.fun_mk (st := s_Lat) l32 c32 k32
  have b32 := F32.binds (ps := P_Lat) fun _ _ _ _ _ _ us hl => match us, hl with | [_, _], _ => rfl
  have h_Lat : Cal l.prog w K mg base 1 "_law_at" (sp_Lat K) [] := ⟨f32, _, P_Lat, [], ok_Lat T F32 , PySem.W.mg_of X G a32, k32, b32, .nil⟩
  have F33 := L2.fun_mk (st := s_Lmixed) l33 c33 k33
  have b33 := F33.binds (ps := P_Lmixed) fun _ _ _ _ _ _ us hl => match us, hl with | [_, _], _ => rfl
  have h_Lmixed : Cal l.prog w K mg base 1 "_law_mixed" sp_Lmixed [] := ⟨f33, _, P_Lmixed, [], ok_Lmixed T F33 , PySem.W.mg_of X G a33, k33, b33, .nil⟩
  have F34 := L2.fun_mk (st := s_Lpurse) l34 c34 k34
  have b34 := F34.binds (ps := P_Lpurse) fun _ _ _ _ _ _ us hl => match us, hl with | [_, _], _ => rfl
  have h_Lpurse : Cal l.prog w K mg base 2 "_law_purse" (sp_Lpurse K) [] := ⟨f34, _, P_Lpurse, [], ok_Lpurse T F34 h_Lat, PySem.W.mg_of X G a34, k34, b34, .nil⟩
  have F35 := L2.fun_mk (st := s_Ldraw) l35 c35 k35
  have b35 := F35.binds (ps := P_Ldraw) fun _ _ _ _ _ _ us hl => match us, hl with | [_, _], _ => rfl
  have h_Ldraw : Cal l.prog w K mg base 2 "_law_draw" sp_Ldraw [] := ⟨f35, _, P_Ldraw, [], ok_Ldraw T F35 h_Lmixed, PySem.W.mg_of X G a35, k35, b35, .nil⟩
  have hD_Ldraw : Cal l.prog w K mg base 2 "_law_draw" (spP W_Ldraw) [] := Cal.imp h_Ldraw fun _ _ _ _ h => ad_Ldraw h
  have F36 := L2.fun_mk (st := s_Lalike_roots) l36 c36 k36
  have b36 := F36.binds (ps := P_Lalike_roots) fun _ _ _ _ _ _ us hl => match us, hl with | [_], _ => rfl
  have h_Lalike_roots : Cal l.prog w K mg base 1 "_law_alike_roots" sp_Lalike_roots [] := ⟨f36, _, P_Lalike_roots, [], ok_Lalike_roots T F36 , PySem.W.mg_of X G a36, k36, b36, .nil⟩
  have F37 := L2.fun_mk (st := s_Lthree) l37 c37 k37
  have b37 := F37.binds (ps := P_Lthree) fun _ _ _ _ _ _ us hl => match us, hl with | [_, _], _ => rfl
  have h_Lthree : Cal l.prog w K mg base 3 "_law_three" sp_Lthree [] := ⟨f37, _, P_Lthree, [], ok_Lthree T F37 h_Ldraw, PySem.W.mg_of X G a37, k37, b37, .nil⟩
  have F38 := L2.fun_mk (st := s_Lfour) l38 c38 k38
  have b38 := F38.binds (ps := P_Lfour) fun _ _ _ _ _ _ us hl => match us, hl with | [_, _], _ => rfl
  have h_Lfour : Cal l.prog w K mg base 3 "_law_four" sp_Lfour [] := ⟨f38, _, P_Lfour, [], ok_Lfour T F38 h_Ldraw, PySem.W.mg_of X G a38, k38, b38, .nil⟩
  have F39 := L2.fun_mk (st := s_Lpoly) l39 c39 k39
  have b39 := F39.binds (ps := P_Lpoly) fun _ _ _ _ _ _ us hl => match us, hl with | [_], _ => rfl
  have h_Lpoly : Cal l.prog w K mg base 4 "_law_poly" sp_Lpoly [] := ⟨f39, _, P_Lpoly, [], ok_Lpoly T F39 h_Ldraw h_Lfour h_Lthree h_Lalike_roots, PySem.W.mg_of X G a39, k39, b39, .nil⟩
  have hD_Lpoly : Cal l.prog w K mg base 4 "_law_poly" (spP W_Lpoly) [] := Cal.imp h_Lpoly fun _ _ _ _ h => ad_Lpoly h
  have F40 := L2.fun_mk (st := s_Lnumber) l40 c40 k40
  have b40 := F40.binds (ps := P_Lnumber) fun _ _ _ _ _ _ us hl => match us, hl with | [_, _], _ => rfl
  have h_Lnumber : Cal l.prog w K mg base 3 "_law_number" (spP W_Lnumber) [] := ⟨f40, _, P_Lnumber, [], ok_Lnumber T F40 hD_Ldraw, PySem.W.mg_of X G a40, k40, b40, .nil⟩
  have F41 := L2.fun_mk (st := s_Lfraction) l41 c41 k41
  have b41 := F41.binds (ps := P_Lfraction) fun _ _ _ _ _ _ us hl => match us, hl with | [_, _], _ => rfl
  have h_Lfraction : Cal l.prog w K mg base 4 "_law_fraction" (spP W_Lfraction) [] := ⟨f41, _, P_Lfraction, [], ok_Lfraction T F41 hD_Ldraw h_Lnumber, PySem.W.mg_of X G a41, k41, b41, .nil⟩
  have F42 := L2.fun_mk (st := s_Lshares) l42 c42 k42
  have b42 := F42.binds (ps := P_Lshares) fun _ _ _ _ _ _ us hl => match us, hl with | [_, _, _], _ => rfl
  have h_Lshares : Cal l.prog w K mg base 5 "_law_shares" (spP W_Lshares) [] := ⟨f42, _, P_Lshares, [], ok_Lshares T F42 hD_Ldraw h_Lfraction, PySem.W.mg_of X G a42, k42, b42, .nil⟩
  have F43 := L2.fun_mk (st := s_Lmade) l43 c43 k43
  have b43 := F43.binds (ps := P_Lmade) fun _ _ _ _ _ _ us hl => match us, hl with | [_, _], _ => rfl
  have h_Lmade : Cal l.prog w K mg base 1 "_law_made" (sp_lowest K) [] := ⟨f43, _, P_Lmade, [], ok_Lmade T F43 , PySem.W.mg_of X G a43, k43, b43, .nil⟩
  have hD_Lmade : Cal l.prog w K mg base 1 "_law_made" (spD W_lowest) [] := Cal.imp h_Lmade fun _ _ _ _ h => ad_lowest h
  have F44 := L2.fun_mk (st := s_Llow) l44 c44 k44
  have b44 := F44.binds (ps := P_Llow) fun _ _ _ _ _ _ us hl => match us, hl with | [_], _ => rfl
  have h_Llow : Cal l.prog w K mg base 2 "_law_low" (spD W_Llow) [] := ⟨f44, _, P_Llow, [], ok_Llow T F44 hD_Lmade, PySem.W.mg_of X G a44, k44, b44, .nil⟩
  have F45 := L2.fun_mk (st := s_Lwhole) l45 c45 k45
  have b45 := F45.binds (ps := P_Lwhole) fun _ _ _ _ _ _ us hl => match us, hl with | [_], _ => rfl
  have h_Lwhole : Cal l.prog w K mg base 1 "_law_whole" (spD W_Lwhole) [] := ⟨f45, _, P_Lwhole, [], ok_Lwhole T F45 , PySem.W.mg_of X G a45, k45, b45, .nil⟩
  have F46 := L2.fun_mk (st := s_Lclass) l46 c46 k46
  have b46 := F46.binds (ps := P_Lclass) fun _ _ _ _ _ _ us hl => match us, hl with | [_], _ => rfl
  have h_Lclass : Cal l.prog w K mg base 1 "_law_class" (sp_Lclass K ⟨C_RootError, C_NoPoly, C_NoHouse, C_NoLetter, C_NoCount, C_NoMove, C_NoWord, C_Full, C_NoDeed, C_NoText, C_NoLine, C_NoOver, C_NoName, C_Twice, C_NoNumber⟩) [] := ⟨f46, _, P_Lclass, [], ok_Lclass T F46 , PySem.W.mg_of X G a46, k46, b46, .nil⟩
  have hD_Lclass : Cal l.prog w K mg base 1 "_law_class" (spD (W_Lclass K ⟨C_RootError, C_NoPoly, C_NoHouse, C_NoLetter, C_NoCount, C_NoMove, C_NoWord, C_Full, C_NoDeed, C_NoText, C_NoLine, C_NoOver, C_NoName, C_Twice, C_NoNumber⟩)) [] := Cal.imp h_Lclass fun _ _ _ _ h => ad_Lclass h
  have F47 := L2.fun_mk (st := s_Lmany) l47 c47 k47
  have b47 := F47.binds (ps := P_Lmany) fun _ _ _ _ _ _ us hl => match us, hl with | [_], _ => rfl
  have h_Lmany : Cal l.prog w K mg base 1 "_law_many" (spD W_Lmany) [] := ⟨f47, _, P_Lmany, [], ok_Lmany T F47 , PySem.W.mg_of X G a47, k47, b47, .nil⟩
  have F48 := L2.fun_mk (st := s_Lshares_good) l48 c48 k48
  have b48 := F48.binds (ps := P_Lshares_good) fun _ _ _ _ _ _ us hl => match us, hl with | [_, _], _ => rfl
  have h_Lshares_good : Cal l.prog w K mg base 2 "_law_shares_good" (spD W_Lshares_good) [] := ⟨f48, _, P_Lshares_good, [], ok_Lshares_good T F48 h_Lwhole, PySem.W.mg_of X G a48, k48, b48, .nil⟩
  have F49 := L2.fun_mk (st := s_Ldrawn) l49 c49 k49
  have b49 := F49.binds (ps := P_Ldrawn) fun _ _ _ _ _ _ us hl => match us, hl with | [_], _ => rfl
  have h_Ldrawn : Cal l.prog w K mg base 7 "_law_drawn" (spP (W_Ldrawn C_House)) [] := ⟨f49, _, P_Ldrawn, [], ok_Ldrawn T F49 hD_Lpoly h_house_of n_House_len m_House_steps_1, PySem.W.mg_of X G a49, k49, b49, .nil⟩
  have F50 := L2.fun_mk (st := s_Lasked) l50 c50 k50
  have b50 := F50.binds (ps := P_Lasked) fun _ _ _ _ _ _ us hl => match us, hl with | [_, _, _, _], _ => rfl
  have h_Lasked : CalX l.prog w K mg base 6 "_law_asked" (spX (W_Lasked ⟨C_RootError, C_NoPoly, C_NoHouse, C_NoLetter, C_NoCount, C_NoMove, C_NoWord, C_Full, C_NoDeed, C_NoText, C_NoLine, C_NoOver, C_NoName, C_Twice, C_NoNumber⟩ C_House C_Number)) := ⟨f50, _, P_Lasked, ok_Lasked T F50 m_House_number_2 m_House_number_1_shares m_House_letter_2 m_House_letter_1_place m_House_whole_3 m_House_whole_1_bottom_top m_House_whole_2_bottom m_House_whole_2, PySem.W.mg_of X G a50, k50, b50⟩
  have F51 := L2.fun_mk (st := s_Lanswer) l51 c51 k51
  have b51 := F51.binds (ps := P_Lanswer) fun _ _ _ _ _ _ us hl => match us, hl with | [_, _, _, _], _ => rfl
  have h_Lanswer : Cal l.prog w K mg base 7 "_law_answer" (spD (W_Lanswer C_House)) [] := ⟨f51, _, P_Lanswer, [], ok_Lanswer T F51 h_Lasked hD_Lclass h_Lshares_good e_House m_Number_house_1 m_Number_shares_1, PySem.W.mg_of X G a51, k51, b51, .nil⟩
  have F52 := L2.fun_mk (st := s_Ldue) l52 c52 k52
  have b52 := F52.binds (ps := P_Ldue) fun _ _ _ _ _ _ us hl => match us, hl with | [_, _, _, _], _ => rfl
  have h_Ldue : Cal l.prog w K mg base 3 "_law_due" (spD W_Ldue) [] := ⟨f52, _, P_Ldue, [], ok_Ldue T F52 h_Lmany h_Llow, PySem.W.mg_of X G a52, k52, b52, .nil⟩
  have F53 := L2.fun_mk (st := s_law) l53 c53 k53
  exact ok_law T F53 h_Lpurse h_Ldrawn h_house_of h_Llow h_Lshares hD_Ldraw h_Lanswer h_Ldue m_House_number_2 e_Number m_House_whole_2 m_Number_shares_1
end My
namespace My
open PySem PySem.Spec PyProof.Rows L2
theorem facts {l : PySem.W.OpenLaw} {w : World} {K : PySem.W.Frag} {h : Heap} {mg : Str → Option Value} {fa : Addr} (X : K.In h) (G : h.Ns mainGlobals mg) (hfa : mg "law" = some (.ref fa)) (c : obsM ck fnL K = valM fnL) :
    ∃ fd : FuncData, (∀ (s : Shared) (v : Value), BindsTo s fd ⟨[v], []⟩ [("_law_script", v)]) ∧ ∀ base : Heap, K.In base → base.Ns mainGlobals mg → FnOk l.prog w K mg base CX0 8 fa fd ["_law_script"] (spLaw K) := by
  have c0 : ck K = true := saysM_ck c
  have g0 : (ck_0 K).all id = true := all_at c0 0 rfl
  obtain ⟨wn_House, wq_House, wb_House, wm_House, ws_House, wu_House, wa_House, wc_House, wd_House, w0_House, w1_House, w2_House, w3_House, w5_House, p_ow_House, z_House⟩ := clsB_ok (all_at g0 9 rfl)
  have z2_House : wm_House = [.type "object"] := of_decide_eq_true z_House
  subst z2_House
  obtain ⟨wx_House, wy_House, we_House, wz_House, wl_House, p_lk_House, p_wk_House⟩ := dicB_ok (all_at g0 10 rfl)
  have g1 : (ck_1 K).all id = true := all_at c0 1 rfl
  have g2 : (ck_2 K).all id = true := all_at c0 2 rfl
  obtain ⟨wn_Number, wq_Number, wb_Number, wm_Number, ws_Number, wu_Number, wa_Number, wc_Number, wd_Number, w0_Number, w1_Number, w2_Number, w3_Number, w5_Number, p_ow_Number, z_Number⟩ := clsB_ok (all_at g2 2 rfl)
  have z2_Number : wm_Number = [.type "object"] := of_decide_eq_true z_Number
  subst z2_Number
  obtain ⟨wx_Number, wy_Number, we_Number, wz_Number, wl_Number, p_lk_Number, p_wk_Number⟩ := dicB_ok (all_at g2 3 rfl)
  have g3 : (ck_3 K).all id = true := all_at c0 3 rfl
  have g4 : (ck_4 K).all id = true := all_at c0 4 rfl
  have g5 : (ck_5 K).all id = true := all_at c0 5 rfl
  have g6 : (ck_6 K).all id = true := all_at c0 6 rfl
  have g7 : (ck_7 K).all id = true := all_at c0 7 rfl
  have g8 : (ck_8 K).all id = true := all_at c0 8 rfl
  have g9 : (ck_9 K).all id = true := all_at c0 9 rfl
  have g10 : (ck_10 K).all id = true := all_at c0 10 rfl
  obtain ⟨tt_m_MOST, p_m_MOST⟩ := intB_ok (all_at g10 3 rfl)
  have g11 : (ck_11 K).all id = true := all_at c0 11 rfl
  have g12 : (ck_12 K).all id = true := all_at c0 12 rfl
  have g13 : (ck_13 K).all id = true := all_at c0 13 rfl
  have g14 : (ck_14 K).all id = true := all_at c0 14 rfl
  have g15 : (ck_15 K).all id = true := all_at c0 15 rfl
  have g16 : (ck_16 K).all id = true := all_at c0 16 rfl
  have g17 : (ck_17 K).all id = true := all_at c0 17 rfl
  have g18 : (ck_18 K).all id = true := all_at c0 18 rfl
  have g19 : (ck_19 K).all id = true := all_at c0 19 rfl
  have g20 : (ck_20 K).all id = true := all_at c0 20 rfl
  have g21 : (ck_21 K).all id = true := all_at c0 21 rfl
  have g22 : (ck_22 K).all id = true := all_at c0 22 rfl
  have g23 : (ck_23 K).all id = true := all_at c0 23 rfl
  have g24 : (ck_24 K).all id = true := all_at c0 24 rfl
  obtain ⟨nm_NoPoly, q_NoPoly, bs_NoPoly, bm_NoPoly, sn_NoPoly, sub_NoPoly, ab_NoPoly, col_NoPoly, dd_NoPoly, k0_NoPoly, k1_NoPoly, k2_NoPoly, k3_NoPoly, k5_NoPoly, p_oc_NoPoly, p_ov_NoPoly⟩ := clsB_ok (all_at g24 6 rfl)
  have g25 : (ck_25 K).all id = true := all_at c0 25 rfl
  obtain ⟨oc0, od0, kV0, dc0, pm0, an0, cd0, ct0, sl0, p_l0, p_c0, p_k0⟩ := fn0_of (saysM_fn c 0 rfl)
  obtain ⟨oc1, od1, kV1, dc1, pm1, an1, cd1, ct1, sl1, p_l1, p_c1, p_k1⟩ := fn0_of (saysM_fn c 1 rfl)
  obtain ⟨oc2, od2, kV2, dc2, pm2, an2, cd2, ct2, sl2, p_l2, p_c2, p_k2⟩ := fn0_of (saysM_fn c 2 rfl)
  obtain ⟨oc3, od3, kV3, dc3, pm3, an3, cd3, ct3, sl3, dV3, dT3, do3, du3, dn3, p_l3, p_c3, p_k3, p_e3, p_t3, p_u3, rv3⟩ := fn1_of (saysM_fn c 3 rfl)
  cases (show du3 = Value.none from rv3)
  obtain ⟨oc4, od4, kV4, dc4, pm4, an4, cd4, ct4, sl4, p_l4, p_c4, p_k4⟩ := fn0_of (saysM_fn c 4 rfl)
  obtain ⟨oc5, od5, kV5, dc5, pm5, an5, cd5, ct5, sl5, p_l5, p_c5, p_k5⟩ := fn0_of (saysM_fn c 5 rfl)
  obtain ⟨oc6, od6, kV6, dc6, pm6, an6, cd6, ct6, sl6, p_l6, p_c6, p_k6⟩ := fn0_of (saysM_fn c 6 rfl)
  obtain ⟨oc7, od7, kV7, dc7, pm7, an7, cd7, ct7, sl7, p_l7, p_c7, p_k7⟩ := fn0_of (saysM_fn c 7 rfl)
  obtain ⟨oc8, od8, kV8, dc8, pm8, an8, cd8, ct8, sl8, p_l8, p_c8, p_k8⟩ := fn0_of (saysM_fn c 8 rfl)
  obtain ⟨oc9, od9, kV9, dc9, pm9, an9, cd9, ct9, sl9, p_l9, p_c9, p_k9⟩ := fn0_of (saysM_fn c 9 rfl)
  obtain ⟨oc10, od10, kV10, dc10, pm10, an10, cd10, ct10, sl10, p_l10, p_c10, p_k10⟩ := fn0_of (saysM_fn c 10 rfl)
  obtain ⟨oc11, od11, kV11, dc11, pm11, an11, cd11, ct11, sl11, p_l11, p_c11, p_k11⟩ := fn0_of (saysM_fn c 11 rfl)
  obtain ⟨oc12, od12, kV12, dc12, pm12, an12, cd12, ct12, sl12, p_l12, p_c12, p_k12⟩ := fn0_of (saysM_fn c 12 rfl)
  obtain ⟨oc13, od13, kV13, dc13, pm13, an13, cd13, ct13, sl13, p_l13, p_c13, p_k13⟩ := fn0_of (saysM_fn c 13 rfl)
  obtain ⟨oc14, od14, kV14, dc14, pm14, an14, cd14, ct14, sl14, p_l14, p_c14, p_k14⟩ := fn0_of (saysM_fn c 14 rfl)
  obtain ⟨oc15, od15, kV15, dc15, pm15, an15, cd15, ct15, sl15, p_l15, p_c15, p_k15⟩ := fn0_of (saysM_fn c 15 rfl)
  obtain ⟨oc16, od16, kV16, dc16, pm16, an16, cd16, ct16, sl16, p_l16, p_c16, p_k16⟩ := fn0_of (saysM_fn c 16 rfl)
  obtain ⟨oc17, od17, kV17, dc17, pm17, an17, cd17, ct17, sl17, p_l17, p_c17, p_k17⟩ := fn0_of (saysM_fn c 17 rfl)
  obtain ⟨oc18, od18, kV18, dc18, pm18, an18, cd18, ct18, sl18, p_l18, p_c18, p_k18⟩ := fn0_of (saysM_fn c 18 rfl)
  obtain ⟨oc19, od19, kV19, dc19, pm19, an19, cd19, ct19, sl19, p_l19, p_c19, p_k19⟩ := fn0_of (saysM_fn c 19 rfl)
  obtain ⟨oc20, od20, kV20, dc20, pm20, an20, cd20, ct20, sl20, p_l20, p_c20, p_k20⟩ := fn0_of (saysM_fn c 20 rfl)
  obtain ⟨oc21, od21, kV21, dc21, pm21, an21, cd21, ct21, sl21, p_l21, p_c21, p_k21⟩ := fn0_of (saysM_fn c 21 rfl)
  obtain ⟨oc22, od22, kV22, dc22, pm22, an22, cd22, ct22, sl22, p_l22, p_c22, p_k22⟩ := fn0_of (saysM_fn c 22 rfl)
  obtain ⟨oc23, od23, kV23, dc23, pm23, an23, cd23, ct23, sl23, p_l23, p_c23, p_k23⟩ := fn0_of (saysM_fn c 23 rfl)
  obtain ⟨oc24, od24, kV24, dc24, pm24, an24, cd24, ct24, sl24, p_l24, p_c24, p_k24⟩ := fn0_of (saysM_fn c 24 rfl)
  obtain ⟨oc25, od25, kV25, dc25, pm25, an25, cd25, ct25, sl25, p_l25, p_c25, p_k25⟩ := fn0_of (saysM_fn c 25 rfl)
  obtain ⟨oc26, od26, kV26, dc26, pm26, an26, cd26, ct26, sl26, p_l26, p_c26, p_k26⟩ := fn0_of (saysM_fn c 26 rfl)
  obtain ⟨oc27, od27, kV27, dc27, pm27, an27, cd27, ct27, sl27, p_l27, p_c27, p_k27⟩ := fn0_of (saysM_fn c 27 rfl)
  obtain ⟨oc28, od28, kV28, dc28, pm28, an28, cd28, ct28, sl28, dV28, dT28, do28, du28, dn28, p_l28, p_c28, p_k28, p_e28, p_t28, p_u28, rv28⟩ := fn1_of (saysM_fn c 28 rfl)
  obtain ⟨tk28, z28⟩ := (show ∃ t, du28 = Value.int 1 t from rv28); subst z28
  obtain ⟨oc29, od29, kV29, dc29, pm29, an29, cd29, ct29, sl29, p_l29, p_c29, p_k29⟩ := fn0_of (saysM_fn c 29 rfl)
  obtain ⟨oc30, od30, kV30, dc30, pm30, an30, cd30, ct30, sl30, p_l30, p_c30, p_k30⟩ := fn0_of (saysM_fn c 30 rfl)
  obtain ⟨oc31, od31, kV31, dc31, pm31, an31, cd31, ct31, sl31, p_l31, p_c31, p_k31⟩ := fn0_of (saysM_fn c 31 rfl)
  obtain ⟨oc32, od32, kV32, dc32, pm32, an32, cd32, ct32, sl32, p_l32, p_c32, p_k32⟩ := fn0_of (saysM_fn c 32 rfl)
  obtain ⟨oc33, od33, kV33, dc33, pm33, an33, cd33, ct33, sl33, p_l33, p_c33, p_k33⟩ := fn0_of (saysM_fn c 33 rfl)
  obtain ⟨oc34, od34, kV34, dc34, pm34, an34, cd34, ct34, sl34, p_l34, p_c34, p_k34⟩ := fn0_of (saysM_fn c 34 rfl)
  obtain ⟨oc35, od35, kV35, dc35, pm35, an35, cd35, ct35, sl35, p_l35, p_c35, p_k35⟩ := fn0_of (saysM_fn c 35 rfl)
  obtain ⟨oc36, od36, kV36, dc36, pm36, an36, cd36, ct36, sl36, p_l36, p_c36, p_k36⟩ := fn0_of (saysM_fn c 36 rfl)
  obtain ⟨oc37, od37, kV37, dc37, pm37, an37, cd37, ct37, sl37, p_l37, p_c37, p_k37⟩ := fn0_of (saysM_fn c 37 rfl)
  obtain ⟨oc38, od38, kV38, dc38, pm38, an38, cd38, ct38, sl38, p_l38, p_c38, p_k38⟩ := fn0_of (saysM_fn c 38 rfl)
  obtain ⟨oc39, od39, kV39, dc39, pm39, an39, cd39, ct39, sl39, p_l39, p_c39, p_k39⟩ := fn0_of (saysM_fn c 39 rfl)
  obtain ⟨oc40, od40, kV40, dc40, pm40, an40, cd40, ct40, sl40, p_l40, p_c40, p_k40⟩ := fn0_of (saysM_fn c 40 rfl)
  obtain ⟨oc41, od41, kV41, dc41, pm41, an41, cd41, ct41, sl41, p_l41, p_c41, p_k41⟩ := fn0_of (saysM_fn c 41 rfl)
  obtain ⟨oc42, od42, kV42, dc42, pm42, an42, cd42, ct42, sl42, p_l42, p_c42, p_k42⟩ := fn0_of (saysM_fn c 42 rfl)
  obtain ⟨oc43, od43, kV43, dc43, pm43, an43, cd43, ct43, sl43, p_l43, p_c43, p_k43⟩ := fn0_of (saysM_fn c 43 rfl)
  obtain ⟨oc44, od44, kV44, dc44, pm44, an44, cd44, ct44, sl44, p_l44, p_c44, p_k44⟩ := fn0_of (saysM_fn c 44 rfl)
  obtain ⟨oc45, od45, kV45, dc45, pm45, an45, cd45, ct45, sl45, p_l45, p_c45, p_k45⟩ := fn0_of (saysM_fn c 45 rfl)
  obtain ⟨oc46, od46, kV46, dc46, pm46, an46, cd46, ct46, sl46, p_l46, p_c46, p_k46⟩ := fn0_of (saysM_fn c 46 rfl)
  obtain ⟨oc47, od47, kV47, dc47, pm47, an47, cd47, ct47, sl47, p_l47, p_c47, p_k47⟩ := fn0_of (saysM_fn c 47 rfl)
  obtain ⟨oc48, od48, kV48, dc48, pm48, an48, cd48, ct48, sl48, p_l48, p_c48, p_k48⟩ := fn0_of (saysM_fn c 48 rfl)
  obtain ⟨oc49, od49, kV49, dc49, pm49, an49, cd49, ct49, sl49, p_l49, p_c49, p_k49⟩ := fn0_of (saysM_fn c 49 rfl)
  obtain ⟨oc50, od50, kV50, dc50, pm50, an50, cd50, ct50, sl50, p_l50, p_c50, p_k50⟩ := fn0_of (saysM_fn c 50 rfl)
  obtain ⟨oc51, od51, kV51, dc51, pm51, an51, cd51, ct51, sl51, p_l51, p_c51, p_k51⟩ := fn0_of (saysM_fn c 51 rfl)
  obtain ⟨oc52, od52, kV52, dc52, pm52, an52, cd52, ct52, sl52, p_l52, p_c52, p_k52⟩ := fn0_of (saysM_fn c 52 rfl)
  obtain ⟨oc53, od53, kV53, dc53, pm53, an53, cd53, ct53, sl53, p_l53, p_c53, p_k53⟩ := fn0_of (saysM_fn c 53 rfl)
  exact all_mk X G hfa (of_decide_eq_true (all_at g0 0 rfl)) (of_decide_eq_true (all_at g0 1 rfl)) (of_decide_eq_true (all_at g0 2 rfl)) (of_decide_eq_true (all_at g0 3 rfl)) (of_decide_eq_true (all_at g0 4 rfl)) (of_decide_eq_true (all_at g0 5 rfl)) (of_decide_eq_true (all_at g0 6 rfl)) (of_decide_eq_true (all_at g0 7 rfl)) (of_decide_eq_true (all_at g0 8 rfl)) p_ow_House p_lk_House p_wk_House (of_decide_eq_true (all_at g0 11 rfl)) (of_decide_eq_true (all_at g1 0 rfl)) (of_decide_eq_true (all_at g1 1 rfl)) (of_decide_eq_true (all_at g1 2 rfl)) (of_decide_eq_true (all_at g1 3 rfl)) (of_decide_eq_true (all_at g1 4 rfl)) (of_decide_eq_true (all_at g1 5 rfl)) (of_decide_eq_true (all_at g1 6 rfl)) (of_decide_eq_true (all_at g1 7 rfl)) (of_decide_eq_true (all_at g1 8 rfl)) (of_decide_eq_true (all_at g1 9 rfl)) (of_decide_eq_true (all_at g1 10 rfl)) (of_decide_eq_true (all_at g1 11 rfl)) (of_decide_eq_true (all_at g2 0 rfl)) (of_decide_eq_true (all_at g2 1 rfl)) p_ow_Number p_lk_Number p_wk_Number (of_decide_eq_true (all_at g2 4 rfl)) (of_decide_eq_true (all_at g2 5 rfl)) (of_decide_eq_true (all_at g2 6 rfl)) (of_decide_eq_true (all_at g2 7 rfl)) p_l0 p_c0 p_k0 (of_decide_eq_true (all_at g2 8 rfl)) p_l1 p_c1 p_k1 (of_decide_eq_true (all_at g2 9 rfl)) p_l2 p_c2 p_k2 (of_decide_eq_true (all_at g2 10 rfl)) (of_decide_eq_true (all_at g2 11 rfl)) (of_decide_eq_true (all_at g3 0 rfl)) p_l3 p_c3 p_k3 p_e3 p_t3 p_u3 (of_decide_eq_true (all_at g3 1 rfl)) p_l4 p_c4 p_k4 (of_decide_eq_true (all_at g3 2 rfl)) p_l5 p_c5 p_k5 (of_decide_eq_true (all_at g3 3 rfl)) p_l6 p_c6 p_k6 (of_decide_eq_true (all_at g3 4 rfl)) p_l7 p_c7 p_k7 (of_decide_eq_true (all_at g3 5 rfl)) p_l8 p_c8 p_k8 (of_decide_eq_true (all_at g3 6 rfl)) p_l9 p_c9 p_k9 (of_decide_eq_true (all_at g3 7 rfl)) p_l10 p_c10 p_k10 (of_decide_eq_true (all_at g3 8 rfl)) p_l11 p_c11 p_k11 (of_decide_eq_true (all_at g3 9 rfl)) p_l12 p_c12 p_k12 (of_decide_eq_true (all_at g3 10 rfl)) p_l13 p_c13 p_k13 (of_decide_eq_true (all_at g3 11 rfl)) p_l14 p_c14 p_k14 (of_decide_eq_true (all_at g4 0 rfl)) p_l15 p_c15 p_k15 (of_decide_eq_true (all_at g4 1 rfl)) p_l16 p_c16 p_k16 (of_decide_eq_true (all_at g4 2 rfl)) p_l17 p_c17 p_k17 (of_decide_eq_true (all_at g4 3 rfl)) p_l18 p_c18 p_k18 (of_decide_eq_true (all_at g4 4 rfl)) (of_decide_eq_true (all_at g4 5 rfl)) (of_decide_eq_true (all_at g4 6 rfl)) p_l19 p_c19 p_k19 (of_decide_eq_true (all_at g4 7 rfl)) (of_decide_eq_true (all_at g4 8 rfl)) (of_decide_eq_true (all_at g4 9 rfl)) p_l20 p_c20 p_k20 (of_decide_eq_true (all_at g4 10 rfl)) p_l21 p_c21 p_k21 (of_decide_eq_true (all_at g4 11 rfl)) (of_decide_eq_true (all_at g5 0 rfl)) (of_decide_eq_true (all_at g5 1 rfl)) p_l22 p_c22 p_k22 (of_decide_eq_true (all_at g5 2 rfl)) (of_decide_eq_true (all_at g5 3 rfl)) (of_decide_eq_true (all_at g5 4 rfl)) p_l23 p_c23 p_k23 (of_decide_eq_true (all_at g5 5 rfl)) (yc_of p_l23 (of_decide_eq_true (all_at g5 4 rfl))) (of_decide_eq_true (all_at g5 6 rfl)) (of_decide_eq_true (all_at g5 7 rfl)) (of_decide_eq_true (all_at g5 8 rfl)) p_l24 p_c24 p_k24 (of_decide_eq_true (all_at g5 9 rfl)) p_l25 p_c25 p_k25 (of_decide_eq_true (all_at g5 10 rfl)) (of_decide_eq_true (all_at g5 11 rfl)) (of_decide_eq_true (all_at g6 0 rfl)) p_l26 p_c26 p_k26 (of_decide_eq_true (all_at g6 1 rfl)) (of_decide_eq_true (all_at g6 2 rfl)) (of_decide_eq_true (all_at g6 3 rfl)) p_l27 p_c27 p_k27 (of_decide_eq_true (all_at g6 4 rfl)) (of_decide_eq_true (all_at g6 5 rfl)) (of_decide_eq_true (all_at g6 6 rfl)) p_l28 p_c28 p_k28 p_e28 p_t28 p_u28 (of_decide_eq_true (all_at g6 7 rfl)) (of_decide_eq_true (all_at g6 8 rfl)) (of_decide_eq_true (all_at g6 9 rfl)) p_l29 p_c29 p_k29 (of_decide_eq_true (all_at g6 10 rfl)) (of_decide_eq_true (all_at g6 11 rfl)) (of_decide_eq_true (all_at g7 0 rfl)) p_l30 p_c30 p_k30 (of_decide_eq_true (all_at g7 1 rfl)) (of_decide_eq_true (all_at g7 2 rfl)) (of_decide_eq_true (all_at g7 3 rfl)) p_l31 p_c31 p_k31 (of_decide_eq_true (all_at g7 4 rfl)) (yc_of p_l31 (of_decide_eq_true (all_at g7 3 rfl))) (of_decide_eq_true (all_at g7 5 rfl)) p_l32 p_c32 p_k32 (of_decide_eq_true (all_at g7 6 rfl)) p_l33 p_c33 p_k33 (of_decide_eq_true (all_at g7 7 rfl)) p_l34 p_c34 p_k34 (of_decide_eq_true (all_at g7 8 rfl)) p_l35 p_c35 p_k35 (of_decide_eq_true (all_at g7 9 rfl)) p_l36 p_c36 p_k36 (of_decide_eq_true (all_at g7 10 rfl)) p_l37 p_c37 p_k37 (of_decide_eq_true (all_at g7 11 rfl)) p_l38 p_c38 p_k38 (of_decide_eq_true (all_at g8 0 rfl)) p_l39 p_c39 p_k39 (of_decide_eq_true (all_at g8 1 rfl)) p_l40 p_c40 p_k40 (of_decide_eq_true (all_at g8 2 rfl)) p_l41 p_c41 p_k41 (of_decide_eq_true (all_at g8 3 rfl)) p_l42 p_c42 p_k42 (of_decide_eq_true (all_at g8 4 rfl)) p_l43 p_c43 p_k43 (of_decide_eq_true (all_at g8 5 rfl)) p_l44 p_c44 p_k44 (of_decide_eq_true (all_at g8 6 rfl)) p_l45 p_c45 p_k45 (of_decide_eq_true (all_at g8 7 rfl)) p_l46 p_c46 p_k46 (of_decide_eq_true (all_at g8 8 rfl)) p_l47 p_c47 p_k47 (of_decide_eq_true (all_at g8 9 rfl)) p_l48 p_c48 p_k48 (of_decide_eq_true (all_at g8 10 rfl)) p_l49 p_c49 p_k49 (of_decide_eq_true (all_at g8 11 rfl)) p_l50 p_c50 p_k50 (of_decide_eq_true (all_at g9 0 rfl)) p_l51 p_c51 p_k51 (of_decide_eq_true (all_at g9 1 rfl)) p_l52 p_c52 p_k52 (of_decide_eq_true (all_at g9 2 rfl)) p_l53 p_c53 p_k53 (of_decide_eq_true (all_at g9 3 rfl)) (of_decide_eq_true (all_at g9 4 rfl)) (of_decide_eq_true (all_at g9 5 rfl)) (of_decide_eq_true (all_at g9 6 rfl)) (of_decide_eq_true (all_at g9 7 rfl)) (of_decide_eq_true (all_at g9 8 rfl)) (of_decide_eq_true (all_at g9 9 rfl)) (of_decide_eq_true (all_at g9 10 rfl)) (of_decide_eq_true (all_at g9 11 rfl)) (of_decide_eq_true (all_at g10 0 rfl)) (of_decide_eq_true (all_at g10 1 rfl)) (of_decide_eq_true (all_at g10 2 rfl)) p_m_MOST (of_decide_eq_true (all_at g10 4 rfl)) (of_decide_eq_true (all_at g10 5 rfl)) (of_decide_eq_true (all_at g10 6 rfl)) (of_decide_eq_true (all_at g10 7 rfl)) (of_decide_eq_true (all_at g10 8 rfl)) (of_decide_eq_true (all_at g10 9 rfl)) (of_decide_eq_true (all_at g10 10 rfl)) (of_decide_eq_true (all_at g10 11 rfl)) (of_decide_eq_true (all_at g11 0 rfl)) (of_decide_eq_true (all_at g11 1 rfl)) (of_decide_eq_true (all_at g11 2 rfl)) (of_decide_eq_true (all_at g11 3 rfl)) (of_decide_eq_true (all_at g11 4 rfl)) (of_decide_eq_true (all_at g11 5 rfl)) (of_decide_eq_true (all_at g11 6 rfl)) (of_decide_eq_true (all_at g11 7 rfl)) (of_decide_eq_true (all_at g11 8 rfl)) (of_decide_eq_true (all_at g11 9 rfl)) (of_decide_eq_true (all_at g11 10 rfl)) (of_decide_eq_true (all_at g11 11 rfl)) (of_decide_eq_true (all_at g12 0 rfl)) (of_decide_eq_true (all_at g12 1 rfl)) (of_decide_eq_true (all_at g12 2 rfl)) (of_decide_eq_true (all_at g12 3 rfl)) (of_decide_eq_true (all_at g12 4 rfl)) (of_decide_eq_true (all_at g12 5 rfl)) (of_decide_eq_true (all_at g12 6 rfl)) (of_decide_eq_true (all_at g12 7 rfl)) (of_decide_eq_true (all_at g12 8 rfl)) (of_decide_eq_true (all_at g12 9 rfl)) (of_decide_eq_true (all_at g12 10 rfl)) (of_decide_eq_true (all_at g12 11 rfl)) (of_decide_eq_true (all_at g13 0 rfl)) (of_decide_eq_true (all_at g13 1 rfl)) (of_decide_eq_true (all_at g13 2 rfl)) (of_decide_eq_true (all_at g13 3 rfl)) (of_decide_eq_true (all_at g13 4 rfl)) (of_decide_eq_true (all_at g13 5 rfl)) (of_decide_eq_true (all_at g13 6 rfl)) (of_decide_eq_true (all_at g13 7 rfl)) (of_decide_eq_true (all_at g13 8 rfl)) (of_decide_eq_true (all_at g13 9 rfl)) (of_decide_eq_true (all_at g13 10 rfl)) (of_decide_eq_true (all_at g13 11 rfl)) (of_decide_eq_true (all_at g14 0 rfl)) (of_decide_eq_true (all_at g14 1 rfl)) (of_decide_eq_true (all_at g14 2 rfl)) (of_decide_eq_true (all_at g14 3 rfl)) (of_decide_eq_true (all_at g14 4 rfl)) (of_decide_eq_true (all_at g14 5 rfl)) (of_decide_eq_true (all_at g14 6 rfl)) (of_decide_eq_true (all_at g14 7 rfl)) (of_decide_eq_true (all_at g14 8 rfl)) (of_decide_eq_true (all_at g14 9 rfl)) (of_decide_eq_true (all_at g14 10 rfl)) (of_decide_eq_true (all_at g14 11 rfl)) (of_decide_eq_true (all_at g15 0 rfl)) (of_decide_eq_true (all_at g15 1 rfl)) (of_decide_eq_true (all_at g15 2 rfl)) (of_decide_eq_true (all_at g15 3 rfl)) (of_decide_eq_true (all_at g15 4 rfl)) (of_decide_eq_true (all_at g15 5 rfl)) (of_decide_eq_true (all_at g15 6 rfl)) (of_decide_eq_true (all_at g15 7 rfl)) (of_decide_eq_true (all_at g15 8 rfl)) (of_decide_eq_true (all_at g15 9 rfl)) (of_decide_eq_true (all_at g15 10 rfl)) (of_decide_eq_true (all_at g15 11 rfl)) (of_decide_eq_true (all_at g16 0 rfl)) (of_decide_eq_true (all_at g16 1 rfl)) (of_decide_eq_true (all_at g16 2 rfl)) (of_decide_eq_true (all_at g16 3 rfl)) (of_decide_eq_true (all_at g16 4 rfl)) (of_decide_eq_true (all_at g16 5 rfl)) (of_decide_eq_true (all_at g16 6 rfl)) (of_decide_eq_true (all_at g16 7 rfl)) (of_decide_eq_true (all_at g16 8 rfl)) (of_decide_eq_true (all_at g16 9 rfl)) (of_decide_eq_true (all_at g16 10 rfl)) (of_decide_eq_true (all_at g16 11 rfl)) (of_decide_eq_true (all_at g17 0 rfl)) (of_decide_eq_true (all_at g17 1 rfl)) (of_decide_eq_true (all_at g17 2 rfl)) (of_decide_eq_true (all_at g17 3 rfl)) (of_decide_eq_true (all_at g17 4 rfl)) (of_decide_eq_true (all_at g17 5 rfl)) (of_decide_eq_true (all_at g17 6 rfl)) (of_decide_eq_true (all_at g17 7 rfl)) (of_decide_eq_true (all_at g17 8 rfl)) (of_decide_eq_true (all_at g17 9 rfl)) (of_decide_eq_true (all_at g17 10 rfl)) (of_decide_eq_true (all_at g17 11 rfl)) (of_decide_eq_true (all_at g18 0 rfl)) (of_decide_eq_true (all_at g18 1 rfl)) (of_decide_eq_true (all_at g18 2 rfl)) (of_decide_eq_true (all_at g18 3 rfl)) (of_decide_eq_true (all_at g18 4 rfl)) (of_decide_eq_true (all_at g18 5 rfl)) (of_decide_eq_true (all_at g18 6 rfl)) (of_decide_eq_true (all_at g18 7 rfl)) (of_decide_eq_true (all_at g18 8 rfl)) (of_decide_eq_true (all_at g18 9 rfl)) (of_decide_eq_true (all_at g18 10 rfl)) (of_decide_eq_true (all_at g18 11 rfl)) (of_decide_eq_true (all_at g19 0 rfl)) (of_decide_eq_true (all_at g19 1 rfl)) (of_decide_eq_true (all_at g19 2 rfl)) (of_decide_eq_true (all_at g19 3 rfl)) (of_decide_eq_true (all_at g19 4 rfl)) (of_decide_eq_true (all_at g19 5 rfl)) (of_decide_eq_true (all_at g19 6 rfl)) (of_decide_eq_true (all_at g19 7 rfl)) (of_decide_eq_true (all_at g19 8 rfl)) (of_decide_eq_true (all_at g19 9 rfl)) (of_decide_eq_true (all_at g19 10 rfl)) (of_decide_eq_true (all_at g19 11 rfl)) (of_decide_eq_true (all_at g20 0 rfl)) (of_decide_eq_true (all_at g20 1 rfl)) (of_decide_eq_true (all_at g20 2 rfl)) (of_decide_eq_true (all_at g20 3 rfl)) (of_decide_eq_true (all_at g20 4 rfl)) (of_decide_eq_true (all_at g20 5 rfl)) (of_decide_eq_true (all_at g20 6 rfl)) (of_decide_eq_true (all_at g20 7 rfl)) (of_decide_eq_true (all_at g20 8 rfl)) (of_decide_eq_true (all_at g20 9 rfl)) (of_decide_eq_true (all_at g20 10 rfl)) (of_decide_eq_true (all_at g20 11 rfl)) (of_decide_eq_true (all_at g21 0 rfl)) (of_decide_eq_true (all_at g21 1 rfl)) (of_decide_eq_true (all_at g21 2 rfl)) (of_decide_eq_true (all_at g21 3 rfl)) (of_decide_eq_true (all_at g21 4 rfl)) (of_decide_eq_true (all_at g21 5 rfl)) (of_decide_eq_true (all_at g21 6 rfl)) (of_decide_eq_true (all_at g21 7 rfl)) (of_decide_eq_true (all_at g21 8 rfl)) (of_decide_eq_true (all_at g21 9 rfl)) (of_decide_eq_true (all_at g21 10 rfl)) (of_decide_eq_true (all_at g21 11 rfl)) (of_decide_eq_true (all_at g22 0 rfl)) (of_decide_eq_true (all_at g22 1 rfl)) (of_decide_eq_true (all_at g22 2 rfl)) (of_decide_eq_true (all_at g22 3 rfl)) (of_decide_eq_true (all_at g22 4 rfl)) (of_decide_eq_true (all_at g22 5 rfl)) (of_decide_eq_true (all_at g22 6 rfl)) (of_decide_eq_true (all_at g22 7 rfl)) (of_decide_eq_true (all_at g22 8 rfl)) (of_decide_eq_true (all_at g22 9 rfl)) (of_decide_eq_true (all_at g22 10 rfl)) (of_decide_eq_true (all_at g22 11 rfl)) (of_decide_eq_true (all_at g23 0 rfl)) (of_decide_eq_true (all_at g23 1 rfl)) (of_decide_eq_true (all_at g23 2 rfl)) (of_decide_eq_true (all_at g23 3 rfl)) (of_decide_eq_true (all_at g23 4 rfl)) (of_decide_eq_true (all_at g23 5 rfl)) (of_decide_eq_true (all_at g23 6 rfl)) (of_decide_eq_true (all_at g23 7 rfl)) (of_decide_eq_true (all_at g23 8 rfl)) (of_decide_eq_true (all_at g23 9 rfl)) (of_decide_eq_true (all_at g23 10 rfl)) (of_decide_eq_true (all_at g23 11 rfl)) (of_decide_eq_true (all_at g24 0 rfl)) (of_decide_eq_true (all_at g24 1 rfl)) (of_decide_eq_true (all_at g24 2 rfl)) (of_decide_eq_true (all_at g24 3 rfl)) (of_decide_eq_true (all_at g24 4 rfl)) (of_decide_eq_true (all_at g24 5 rfl)) p_oc_NoPoly p_ov_NoPoly (of_decide_eq_true (all_at g24 7 rfl)) (of_decide_eq_true (all_at g24 8 rfl)) (of_decide_eq_true (all_at g24 9 rfl)) (fcB_ok (all_at g24 10 rfl)) (of_decide_eq_true (all_at g24 11 rfl)) (of_decide_eq_true (all_at g25 0 rfl)) (of_decide_eq_true (all_at g25 1 rfl))
end My
open PySem PySem.W PyProof.Rows in
set_option maxRecDepth 100000 in
set_option maxHeartbeats 0 in
theorem PySem.Challenge.cw_rootmoves_k07_numbers_told_holds : PySem.Challenge.rw_rootmoves_k07_numbers_told.Holds := by
  w_on; o_law
  refine HandSHeadRun.head_any (r := OpenLaw.row PySem.Challenge.rw_rootmoves_k07_numbers_told) (q := view (OpenLaw.row PySem.Challenge.rw_rootmoves_k07_numbers_told).prog [88]) (H := My.hk) (ob := My.ob) (M := 20000) (loose := My.names) (d := HandSHeadRun.topDef (OpenLaw.row PySem.Challenge.rw_rootmoves_k07_numbers_told).prog 88) (kwd := []) My.ob_eq
    (by kernel_rfl) (fun s => by kernel_rfl) My.run (by kernel_rfl) (by kernel_rfl) (by kernel_rfl) (by rfl) (by first | assumption | decide +kernel) (by decide +kernel) ⟨rfl, rfl, rfl, rfl, rfl, by decide +kernel⟩ ?hw ?hc
  case hw => w_witness2
  case hc =>
    refine L2.walk_ofE (l := PySem.Challenge.rw_rootmoves_k07_numbers_told) (n := 63) (k := 8) (x := "_law_script") (CX := L2.CX0) rfl (by decide) (by kernel_rfl) ⟨rfl, by decide, by decide⟩ ?F (fun _ _ _ _ z => z)
    intro w mg fa h Y G hmg0
    obtain ⟨K, KX, c⟩ := Y
    have hmg : mg ("law" : PySem.Str) = some (.ref fa) := by
      have e : (HandSHeadRun.topDef (OpenLaw.row PySem.Challenge.rw_rootmoves_k07_numbers_told).prog 88).name = ("law" : PySem.Str) := by kernel_rfl
      rw [← e]
      exact hmg0
    obtain ⟨fd, hb, hF⟩ := My.facts (l := PySem.Challenge.rw_rootmoves_k07_numbers_told) (w := w) KX G hmg c
    exact ⟨K, fd, My.spLaw K, KX, hb, fun H a ns hl _ hS => ⟨a, ns, rfl, hS, hl, fun _ => rfl⟩, hF⟩
#print axioms PySem.Challenge.cw_rootmoves_k07_numbers_told_holds
