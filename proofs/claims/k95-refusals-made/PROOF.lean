import PyProof.Rows.All
import Wide.All
import OpenK.AllK
import Wide.FinOn
import HandS.ForMost
import HandS.Codes
import HandS.Wide
import HandS.WideBits
import HandS.WideMore
import HandS.Style
import HandS.NoneIn
import HandS.IsInst
import HandS.Deep
import HandS.Walk
import HandS.ForExc
import HandS.TryMany
import HandS.ExcIs
import HandS.ExcInit
import HandS.Defaults
import HandS.Zip
import HandS.OwnEq
import HandS.SortKw
import HandS.Flow
import HandS.Text
import KE.KCallOwn
import KE.DataMinMax
import HandS.RaiseMore
import HandS.ExcValue
import KE.KStateDown
import Lean
import HandS.HeadEnd
import HandS.HeadHook2
import HandS.HeadNt
import HandS.Head0
import HandS.Head1
import HandS.Head2
import PySem.Challenge.RW_rootmoves_k95_refusals_made
set_option Elab.async false
set_option linter.all false
set_option maxRecDepth 100000
set_option maxHeartbeats 4000000
namespace My
open PySem
def top (i : Nat) : Stmt := PySem.Challenge.pw_rootmoves_k95_refusals_made.main.body.getD i (.Pass ⟨0, 0, 0, 0⟩)
end My
/-! ### the top's run in the kernel: what is read off its end -/
namespace My
open PySem PySem.Spec PyProof.Rows L2
abbrev AlM : Type := Bool × List He.FnW
def obsM (ck : PySem.W.Frag → Bool) (fn : List He.DefD) (K : PySem.W.Frag) : AlM := (ck K && fn.all fun d => d.ok K, fn.map fun d => He.fnW K d.at_)
def valM (fn : List He.DefD) : AlM := (true, fn.map He.DefD.val)
def obsMG (as : List Addr) (ck : PySem.W.Frag → Bool) (fn : List He.DefD) (g : Addr → Option Obj) : AlM := obsM ck fn (He.frG g as)
def hookM (as : List Addr) (ck : PySem.W.Frag → Bool) (fn : List He.DefD) : PySem.W.Hook where
  α := AlM
  obs := fun s => obsMG as ck fn s.heap.get?
  val := fun _ => valM fn
  says := fun _ h => ∃ K : PySem.W.Frag, K.In h ∧ obsM ck fn K = valM fn
  of := fun _ _ e => ⟨_, He.frG_in, e⟩
  keeps := fun _ _ _ ⟨K, hK, c⟩ k => ⟨K, PySem.W.Frag.In.keeps hK k, c⟩
theorem obsMG_eq {as : List Addr} {ck : PySem.W.Frag → Bool} {fn : List He.DefD} {g : Addr → Option Obj} {s : Shared} (h : ∀ a, g a = s.heap.get? a) : obsMG as ck fn g = (hookM as ck fn).obs s := by
  have e : g = s.heap.get? := funext h
  rw [e] <;> rfl
section
variable {ck : PySem.W.Frag → Bool} {fn : List He.DefD} {K : PySem.W.Frag}
theorem saysM_ck (c : obsM ck fn K = valM fn) : ck K = true := (He.ba (show (ck K && fn.all fun d => d.ok K) = true from congrArg (fun z : AlM => z.1) c)).1
theorem saysM_fn (c : obsM ck fn K = valM fn) (i : Nat) {d : He.DefD} (h : fn[i]? = some d) : ∃ fd, FunD K d.name d.qual d.params d.body d.scope (d.dvs K) (d.kws K) (He.fAd K d.at_) fd := by
  have c2 := (He.ba (show (ck K && fn.all fun d => d.ok K) = true from congrArg (fun z : AlM => z.1) c)).2
  have e : fn.map (fun d => He.fnW K d.at_) = fn.map He.DefD.val := congrArg (fun z : AlM => z.2) c
  have e2 : (fn.map fun d => He.fnW K d.at_)[i]? = (fn.map He.DefD.val)[i]? := by rw [e]
  rw [List.getElem?_map, List.getElem?_map, h] at e2
  exact He.DefD.funD (Option.some.inj e2) (List.all_eq_true.mp c2 d (List.mem_of_getElem? h))
variable {x q : Str} {ps : Arguments} {b : List Stmt} {sc : Scope} {kws : List (Str × V)} {f : Addr}
/-- a def without defaults -/
theorem fn0_of (F : ∃ fd, FunD K x q ps b sc [] kws f fd) : ∃ oc od kV doc pm an cdv ct osl, K.lookup f = some ⟨oc, od, .func (PySem.W.fnOf x q ps b sc .none kV doc pm an cdv ct), osl⟩ ∧ PySem.W.codeIn K cdv q = true ∧ PySem.W.keepIn K (.ref f) = true := by
  obtain ⟨fd, F⟩ := F
  obtain ⟨oc, od, dV, kV, doc, pm, an, cdv, ct, osl, rfl, lk, hc, hD, _⟩ := F.ex
  rcases hD with ⟨_, rfl⟩ | ⟨e, _⟩
  · exact ⟨oc, od, kV, doc, pm, an, cdv, ct, osl, lk, hc, F.kp⟩
  · exact absurd rfl e
/-- a def with one default -/
theorem fn1_of {v : V} (F : ∃ fd, FunD K x q ps b sc [v] kws f fd) : ∃ oc od kV doc pm an cdv ct osl, ∃ (dV : Value) (T : Addr) (o : Obj) (u : Value) (n : Nat), K.lookup f = some ⟨oc, od, .func (PySem.W.fnOf x q ps b sc dV kV doc pm an cdv ct), osl⟩ ∧ PySem.W.codeIn K cdv q = true ∧ PySem.W.keepIn K (.ref f) = true ∧
    dV = .ref T ∧ K.lookup T = some o ∧ o.data = .seq #[u] n ∧ RelV v u := by
  obtain ⟨fd, F⟩ := F
  obtain ⟨oc, od, dV, kV, doc, pm, an, cdv, ct, osl, rfl, lk, hc, hD, _⟩ := F.ex
  rcases hD with ⟨e, _⟩ | ⟨_, T, o, its, n, e, lT, oT, rT⟩
  · cases e
  · cases rT with
    | cons r t =>
      cases t
      exact ⟨oc, od, kV, doc, pm, an, cdv, ct, osl, dV, T, o, _, n, lk, hc, F.kp, e, lT, oT, r⟩
end
/-- where a class's names stand -/
def nsC (K : PySem.W.Frag) (C : Addr) : Addr := match PySem.W.clsIn K C with
  | some cd => cd.ns
  | none => 0
def clsB (K : PySem.W.Frag) (C : Addr) (bm : List Value → Bool) (newId : String) : Bool := match K.lookup C with
  | some ⟨.type "type", _, .cls cd, sl⟩ => (match cd.mro, sl.toList with
    | .ref C' :: bm', [_, _, _, _, some (.builtin n), _] => C' == C && (n == newId && (!cd.hasDel && (cd.hasDict && bm bm')))
    | _, _ => false)
  | _ => false
theorem clsB_ok {K : PySem.W.Frag} {C : Addr} {bm : List Value → Bool} {newId : String} (h : clsB K C bm newId = true) : ∃ nm q bs bm' sn sub ab col dd k0 k1 k2 k3 k5,
    K.lookup C = some (excClassObj nm q C (nsC K C) bs bm' true sn sub ab col dd k0 k1 k2 k3 k5 newId) ∧ bm bm' = true := by
  unfold clsB at h
  split at h
  · rename_i dd cd sl ho
    split at h
    · rename_i C' bm' k0 k1 k2 k3 n k5 hm hs
      obtain ⟨h1, h⟩ := He.ba h
      obtain ⟨h2, h⟩ := He.ba h
      obtain ⟨h3, h⟩ := He.ba h
      obtain ⟨h4, h5⟩ := He.ba h
      have e1 : C' = C := eq_of_beq h1
      have e2 : n = newId := eq_of_beq h2
      subst e1 e2
      have en : nsC K C' = cd.ns := by unfold nsC PySem.W.clsIn; rw [ho]
      obtain ⟨nm, bs, mro, ns, qn, hd, sn, sub, ab, col, del⟩ := cd
      dsimp only at hm h3 h4 en
      subst hm
      have e3 : del = false := by cases del <;> first | rfl | cases h3
      have e4 : hd = true := h4
      subst e3 e4
      have hsl : sl = #[k0, k1, k2, k3, some (.builtin n), k5] := by
        obtain ⟨l⟩ := sl
        simp only at hs
        rw [hs]
      subst hsl
      rw [en]
      exact ⟨nm, qn, bs, bm', sn, sub, ab, col, dd, k0, k1, k2, k3, k5, ho, h5⟩
    · cases h
  · cases h
def dicB (K : PySem.W.Frag) (a : Addr) : Bool := match K.lookup a with
  | some ⟨_, _, .dict es _, _⟩ => es.all fun e => match e.key with | .str _ _ => true | _ => false
  | _ => false
theorem dicB_ok {K : PySem.W.Frag} {a : Addr} (h : dicB K a = true) : ∃ (x : Value) (y : Option Addr) (es : Array DictEntry) (z : Nat) (l : Array (Option Value)), K.lookup a = some ⟨x, y, .dict es z, l⟩ ∧ (es.all fun e => match e.key with | .str _ _ => true | _ => false) = true := by
  unfold dicB at h
  split at h
  · exact ⟨_, _, _, _, _, by assumption, h⟩
  · cases h
def intB (K : PySem.W.Frag) (x : Str) (i : Int) : Bool := match PySem.W.nsIn K mainGlobals x with
  | some (some (.int j _)) => decide (j = i)
  | _ => false
theorem intB_ok {K : PySem.W.Frag} {x : Str} {i : Int} (h : intB K x i = true) : ∃ t, PySem.W.nsIn K mainGlobals x = some (some (.int i t)) := by
  unfold intB at h
  split at h
  · rename_i j t e
    have ej : j = i := of_decide_eq_true h
    subst ej
    exact ⟨t, e⟩
  · cases h
def fcB (K : PySem.W.Frag) (C : Addr) (x : Str) (g : String) : Bool := match PySem.W.findCls K (.ref C) (.type "type") x with
  | some (.val (.builtin i)) => decide (i = g)
  | _ => false
theorem fcB_ok {K : PySem.W.Frag} {C : Addr} {x : Str} {g : String} (h : fcB K C x g = true) : PySem.W.findCls K (.ref C) (.type "type") x = some (.val (.builtin g)) := by
  unfold fcB at h
  split at h
  · rename_i i e
    have ej : i = g := of_decide_eq_true h
    subst ej
    exact e
  · cases h
def fcT (K : PySem.W.Frag) (T : String) (x : Str) (g : String) : Bool := match PySem.W.findCls K (.type T) (.type "type") x with
  | some (.val (.builtin i)) => decide (i = g)
  | _ => false
theorem fcT_ok {K : PySem.W.Frag} {T : String} {x : Str} {g : String} (h : fcT K T x g = true) : PySem.W.findCls K (.type T) (.type "type") x = some (.val (.builtin g)) := by
  unfold fcT at h
  split at h
  · rename_i i e
    have ej : i = g := of_decide_eq_true h
    subst ej
    exact e
  · cases h
theorem all_at {l : List Bool} (h : l.all id = true) (i : Nat) {b : Bool} (e : l[i]? = some b) : b = true := List.all_eq_true.mp h b (List.mem_of_getElem? e)
theorem yc_of {K : PySem.W.Frag} {f : Addr} {oc t : Value} {od : Option Addr} {dt : PySem.Data} {sl : Array (Option Value)} (l : K.lookup f = some ⟨oc, od, dt, sl⟩) (y : PySem.W.typeIn K (.ref f) = some t) : oc = t := by
  have y' : (K.lookup f).map (·.cls) = some t := y
  rw [l] at y'
  exact Option.some.inj y'
end My
namespace My
open PySem PySem.Spec PyProof.Rows L2
def ck_0 (K : PySem.W.Frag) : List Bool := [decide (PySem.W.findIn K (.ref (He.ga K "NoPoly")) "__init__" = some (some (.ref (He.ma K (He.ga K "NoPoly") "__init__")))),
  decide (PySem.W.isFn K (.ref (He.ma K (He.ga K "NoPoly") "__init__")) = true),
  decide (PySem.W.typeIn K (.ref (He.ma K (He.ga K "NoPoly") "__init__")) = some (.type "function")),
  decide (PySem.W.findIn K (.ref (He.ga K "NoMove")) "__init__" = some (some (.ref (He.ma K (He.ga K "NoMove") "__init__")))),
  decide (PySem.W.isFn K (.ref (He.ma K (He.ga K "NoMove") "__init__")) = true),
  decide (PySem.W.typeIn K (.ref (He.ma K (He.ga K "NoMove") "__init__")) = some (.type "function")),
  decide (PySem.W.findIn K (.ref (He.ga K "NoName")) "__init__" = some (some (.ref (He.ma K (He.ga K "NoName") "__init__")))),
  decide (PySem.W.isFn K (.ref (He.ma K (He.ga K "NoName") "__init__")) = true),
  decide (PySem.W.typeIn K (.ref (He.ma K (He.ga K "NoName") "__init__")) = some (.type "function")),
  decide (PySem.W.findIn K (.ref (He.ga K "Twice")) "__init__" = some (some (.ref (He.ma K (He.ga K "Twice") "__init__")))),
  decide (PySem.W.isFn K (.ref (He.ma K (He.ga K "Twice") "__init__")) = true),
  decide (PySem.W.typeIn K (.ref (He.ma K (He.ga K "Twice") "__init__")) = some (.type "function"))]
def ck_1 (K : PySem.W.Frag) : List Bool := [decide (PySem.W.nsIn K mainGlobals "_law_cell" = some (some (.ref (He.ga K "_law_cell")))),
  decide (PySem.W.nsIn K mainGlobals "_law_mixed" = some (some (.ref (He.ga K "_law_mixed")))),
  decide (PySem.W.nsIn K mainGlobals "_law_purse" = some (some (.ref (He.ga K "_law_purse")))),
  decide (PySem.W.nsIn K mainGlobals "_law_draw" = some (some (.ref (He.ga K "_law_draw")))),
  decide (PySem.W.nsIn K mainGlobals "_law_sorts" = some (some (.ref (He.ga K "_law_sorts")))),
  decide (PySem.W.nsIn K mainGlobals "_law_kinds" = some (some (.ref (He.ga K "_law_kinds")))),
  decide (PySem.W.nsIn K mainGlobals "_law_row_right" = some (some (.ref (He.ga K "_law_row_right")))),
  decide (PySem.W.nsIn K mainGlobals "law" = some (some (.ref (He.ga K "law")))),
  decide (PySem.W.nsIn K mainGlobals "set" = some none),
  decide (PySem.W.nsIn K mainGlobals "abs" = some none),
  decide (PySem.W.nsIn K mainGlobals "len" = some none),
  decide (PySem.W.nsIn K mainGlobals "range" = some none)]
def ck_2 (K : PySem.W.Frag) : List Bool := [decide (PySem.W.nsIn K mainGlobals "max" = some none),
  decide (PySem.W.nsIn K mainGlobals "enumerate" = some none),
  decide (PySem.W.nsIn K mainGlobals "isinstance" = some none),
  decide (PySem.W.nsIn K mainGlobals "int" = some none),
  decide (PySem.W.nsIn K mainGlobals "bool" = some none),
  decide (PySem.W.nsIn K mainGlobals "tuple" = some none),
  decide (PySem.W.nsIn K mainGlobals "list" = some none),
  decide (PySem.W.nsIn K mainGlobals "ValueError" = some none),
  decide (PySem.W.nsIn K mainGlobals "ZeroDivisionError" = some none),
  decide (PySem.W.nsIn K mainGlobals "KeyError" = some none),
  decide (∀ p ∈ ([((He.ga K "NoPoly"), 0), ((He.ga K "NoMove"), 1), ((He.ga K "NoHouse"), 2), ((He.ga K "NoLetter"), 3), ((He.ga K "NoCount"), 4), ((He.ga K "NoWord"), 5), ((He.ga K "Full"), 6), ((He.ga K "NoDeed"), 7), ((He.ga K "NoText"), 8), ((He.ga K "NoLine"), 9), ((He.ga K "NoOver"), 10), ((He.ga K "NoName"), 11), ((He.ga K "Twice"), 12), ((He.ga K "NoNumber"), 13), ((He.ga K "RootError"), 14)] : List (Addr × Nat)), ∀ q ∈ ([((He.ga K "NoPoly"), 0), ((He.ga K "NoMove"), 1), ((He.ga K "NoHouse"), 2), ((He.ga K "NoLetter"), 3), ((He.ga K "NoCount"), 4), ((He.ga K "NoWord"), 5), ((He.ga K "Full"), 6), ((He.ga K "NoDeed"), 7), ((He.ga K "NoText"), 8), ((He.ga K "NoLine"), 9), ((He.ga K "NoOver"), 10), ((He.ga K "NoName"), 11), ((He.ga K "Twice"), 12), ((He.ga K "NoNumber"), 13), ((He.ga K "RootError"), 14)] : List (Addr × Nat)), PySem.W.kitOne K (.ref p.1) (.ref q.1) = some (p.2 == q.2 || (q.2 == 14 && decide (p.2 < 10)))),
  decide (∀ p ∈ ([((He.ga K "NoPoly"), 0), ((He.ga K "NoMove"), 1), ((He.ga K "NoHouse"), 2), ((He.ga K "NoLetter"), 3), ((He.ga K "NoCount"), 4), ((He.ga K "NoWord"), 5), ((He.ga K "Full"), 6), ((He.ga K "NoDeed"), 7), ((He.ga K "NoText"), 8), ((He.ga K "NoLine"), 9), ((He.ga K "NoOver"), 10), ((He.ga K "NoName"), 11), ((He.ga K "Twice"), 12), ((He.ga K "NoNumber"), 13), ((He.ga K "RootError"), 14)] : List (Addr × Nat)), PySem.W.kitOne K (.ref p.1) (.type "ValueError") = some (decide (p.2 < 10) || decide (11 < p.2)))]
def ck_3 (K : PySem.W.Frag) : List Bool := [decide (∀ p ∈ ([((He.ga K "NoPoly"), 0), ((He.ga K "NoMove"), 1), ((He.ga K "NoHouse"), 2), ((He.ga K "NoLetter"), 3), ((He.ga K "NoCount"), 4), ((He.ga K "NoWord"), 5), ((He.ga K "Full"), 6), ((He.ga K "NoDeed"), 7), ((He.ga K "NoText"), 8), ((He.ga K "NoLine"), 9), ((He.ga K "NoOver"), 10), ((He.ga K "NoName"), 11), ((He.ga K "Twice"), 12), ((He.ga K "NoNumber"), 13), ((He.ga K "RootError"), 14)] : List (Addr × Nat)), PySem.W.kitOne K (.ref p.1) (.type "ZeroDivisionError") = some (p.2 == 10)),
  decide (∀ p ∈ ([((He.ga K "NoPoly"), 0), ((He.ga K "NoMove"), 1), ((He.ga K "NoHouse"), 2), ((He.ga K "NoLetter"), 3), ((He.ga K "NoCount"), 4), ((He.ga K "NoWord"), 5), ((He.ga K "Full"), 6), ((He.ga K "NoDeed"), 7), ((He.ga K "NoText"), 8), ((He.ga K "NoLine"), 9), ((He.ga K "NoOver"), 10), ((He.ga K "NoName"), 11), ((He.ga K "Twice"), 12), ((He.ga K "NoNumber"), 13), ((He.ga K "RootError"), 14)] : List (Addr × Nat)), PySem.W.kitOne K (.ref p.1) (.type "KeyError") = some (p.2 == 11)),
  decide (∀ p ∈ ([(He.ga K "NoPoly"), (He.ga K "NoMove"), (He.ga K "NoHouse"), (He.ga K "NoLetter"), (He.ga K "NoCount"), (He.ga K "NoWord"), (He.ga K "Full"), (He.ga K "NoDeed"), (He.ga K "NoText"), (He.ga K "NoLine"), (He.ga K "NoOver"), (He.ga K "NoName"), (He.ga K "Twice"), (He.ga K "NoNumber"), (He.ga K "RootError")] : List Addr), PySem.W.findIn K (.ref p) "__getattribute__" = some (some (.builtin "BaseException.__getattribute__"))),
  decide (∀ p ∈ ([(He.ga K "NoPoly"), (He.ga K "NoMove"), (He.ga K "NoHouse"), (He.ga K "NoLetter"), (He.ga K "NoCount"), (He.ga K "NoWord"), (He.ga K "Full"), (He.ga K "NoDeed"), (He.ga K "NoText"), (He.ga K "NoLine"), (He.ga K "NoOver"), (He.ga K "NoName"), (He.ga K "Twice"), (He.ga K "NoNumber"), (He.ga K "RootError")] : List Addr), PySem.W.findIn K (.ref p) "__getattr__" = some none),
  decide (∀ p ∈ ([(He.ga K "NoPoly"), (He.ga K "NoMove"), (He.ga K "NoHouse"), (He.ga K "NoLetter"), (He.ga K "NoCount"), (He.ga K "NoWord"), (He.ga K "Full"), (He.ga K "NoDeed"), (He.ga K "NoText"), (He.ga K "NoLine"), (He.ga K "NoOver"), (He.ga K "NoName"), (He.ga K "Twice"), (He.ga K "NoNumber"), (He.ga K "RootError")] : List Addr), PySem.W.subIn K (.ref p) (.type "BaseException") = some true),
  decide (∀ p ∈ ([(He.ga K "NoPoly"), (He.ga K "NoMove"), (He.ga K "NoHouse"), (He.ga K "NoLetter"), (He.ga K "NoCount"), (He.ga K "NoWord"), (He.ga K "Full"), (He.ga K "NoDeed"), (He.ga K "NoText"), (He.ga K "NoLine"), (He.ga K "NoOver"), (He.ga K "NoName"), (He.ga K "Twice"), (He.ga K "NoNumber"), (He.ga K "RootError")] : List Addr), PySem.W.hasDictIn K p = true),
  decide (∀ p ∈ ([(He.ga K "NoPoly"), (He.ga K "NoMove"), (He.ga K "NoHouse"), (He.ga K "NoLetter"), (He.ga K "NoCount"), (He.ga K "NoWord"), (He.ga K "Full"), (He.ga K "NoDeed"), (He.ga K "NoText"), (He.ga K "NoLine"), (He.ga K "NoOver"), (He.ga K "NoName"), (He.ga K "Twice"), (He.ga K "NoNumber"), (He.ga K "RootError")] : List Addr), PySem.W.findIn K (.ref p) "__class__" = some (some (.builtin "object.__class__"))),
  decide (∀ p ∈ ([(He.ga K "NoPoly"), (He.ga K "NoMove"), (He.ga K "NoHouse"), (He.ga K "NoLetter"), (He.ga K "NoCount"), (He.ga K "NoWord"), (He.ga K "Full"), (He.ga K "NoDeed"), (He.ga K "NoText"), (He.ga K "NoLine"), (He.ga K "NoOver"), (He.ga K "NoName"), (He.ga K "Twice"), (He.ga K "NoNumber"), (He.ga K "RootError")] : List Addr), PySem.W.mroIn K p (.type "object") = some true),
  decide (PySem.W.specialIn K (.builtin "object.__class__") "__get__" = some (some (.builtin "getset_descriptor.__get__"))),
  decide (PySem.W.takesIn K (.builtin "object.__class__") = some true),
  decide (fcT K "ValueError" "__init__" "ValueError.__init__" = true),
  decide (fcT K "KeyError" "__init__" "KeyError.__init__" = true)]
def ck_4 (K : PySem.W.Frag) : List Bool := [decide (PySem.W.readsIn (mc := .type "type") K (He.ga K "RootError") = true),
  decide (fcB K (He.ga K "RootError") "__init__" "ValueError.__init__" = true),
  decide (PySem.W.specialIn K (.ref (He.ga K "RootError")) "__getattribute__" = some (some (.builtin "type.__getattribute__"))),
  decide (PySem.W.excIn K (He.ga K "NoHouse") [.type "ValueError", .type "Exception", .type "BaseException", .type "object"] "ValueError.__new__" = true),
  decide (PySem.W.excIn K (He.ga K "NoLetter") [.type "ValueError", .type "Exception", .type "BaseException", .type "object"] "ValueError.__new__" = true),
  decide (PySem.W.excIn K (He.ga K "NoCount") [.type "ValueError", .type "Exception", .type "BaseException", .type "object"] "ValueError.__new__" = true),
  decide (PySem.W.excIn K (He.ga K "NoWord") [.type "ValueError", .type "Exception", .type "BaseException", .type "object"] "ValueError.__new__" = true),
  decide (PySem.W.excIn K (He.ga K "Full") [.type "ValueError", .type "Exception", .type "BaseException", .type "object"] "ValueError.__new__" = true),
  decide (PySem.W.excIn K (He.ga K "NoDeed") [.type "ValueError", .type "Exception", .type "BaseException", .type "object"] "ValueError.__new__" = true),
  decide (PySem.W.excIn K (He.ga K "NoText") [.type "ValueError", .type "Exception", .type "BaseException", .type "object"] "ValueError.__new__" = true),
  decide (PySem.W.excIn K (He.ga K "NoLine") [.type "ValueError", .type "Exception", .type "BaseException", .type "object"] "ValueError.__new__" = true),
  decide (PySem.W.excIn K (He.ga K "NoNumber") [.type "ValueError", .type "Exception", .type "BaseException", .type "object"] "ValueError.__new__" = true)]
def ck_5 (K : PySem.W.Frag) : List Bool := [decide (PySem.W.excIn K (He.ga K "RootError") [.type "ValueError", .type "Exception", .type "BaseException", .type "object"] "ValueError.__new__" = true),
  decide (PySem.W.excIn K (He.ga K "NoOver") [.type "ZeroDivisionError", .type "ArithmeticError", .type "Exception", .type "BaseException", .type "object"] "ZeroDivisionError.__new__" = true),
  decide (PySem.W.keepIn K (.ref (He.ga K "NoPoly")) = true),
  decide (PySem.W.keepIn K (.ref (He.ga K "NoMove")) = true),
  decide (PySem.W.keepIn K (.ref (He.ga K "NoHouse")) = true),
  decide (PySem.W.keepIn K (.ref (He.ga K "NoLetter")) = true),
  decide (PySem.W.keepIn K (.ref (He.ga K "NoCount")) = true),
  decide (PySem.W.keepIn K (.ref (He.ga K "NoWord")) = true),
  decide (PySem.W.keepIn K (.ref (He.ga K "Full")) = true),
  decide (PySem.W.keepIn K (.ref (He.ga K "NoDeed")) = true),
  decide (PySem.W.keepIn K (.ref (He.ga K "NoText")) = true),
  decide (PySem.W.keepIn K (.ref (He.ga K "NoLine")) = true)]
def ck_6 (K : PySem.W.Frag) : List Bool := [decide (PySem.W.keepIn K (.ref (He.ga K "NoOver")) = true),
  decide (PySem.W.keepIn K (.ref (He.ga K "NoName")) = true),
  decide (PySem.W.keepIn K (.ref (He.ga K "Twice")) = true),
  decide (PySem.W.keepIn K (.ref (He.ga K "NoNumber")) = true),
  decide (PySem.W.keepIn K (.ref (He.ga K "RootError")) = true),
  decide (PySem.W.findIn K (.ref (He.ga K "NoPoly")) "at" = some none),
  decide (PySem.W.findIn K (.ref (He.ga K "NoPoly")) "__setattr__" = some (some (.builtin "object.__setattr__"))),
  decide (PySem.W.subIn K (.ref (He.ga K "NoPoly")) (.type "BaseException") = some true),
  decide (clsB K (He.ga K "NoPoly") PySem.HandSPX.refsVE "ValueError.__new__" = true),
  decide (PySem.W.findIn K (.ref (He.ga K "NoMove")) "move" = some none),
  decide (PySem.W.findIn K (.ref (He.ga K "NoMove")) "__setattr__" = some (some (.builtin "object.__setattr__"))),
  decide (PySem.W.subIn K (.ref (He.ga K "NoMove")) (.type "BaseException") = some true)]
def ck_7 (K : PySem.W.Frag) : List Bool := [decide (clsB K (He.ga K "NoMove") PySem.HandSPX.refsVE "ValueError.__new__" = true),
  decide (PySem.W.findIn K (.ref (He.ga K "NoName")) "name" = some none),
  decide (PySem.W.findIn K (.ref (He.ga K "NoName")) "__setattr__" = some (some (.builtin "object.__setattr__"))),
  decide (PySem.W.subIn K (.ref (He.ga K "NoName")) (.type "BaseException") = some true),
  decide (clsB K (He.ga K "NoName") (fun b => decide (b = [.type "KeyError", .type "LookupError", .type "Exception", .type "BaseException", .type "object"])) "LookupError.__new__" = true),
  decide (PySem.W.findIn K (.ref (He.ga K "Twice")) "name" = some none),
  decide (PySem.W.findIn K (.ref (He.ga K "Twice")) "__setattr__" = some (some (.builtin "object.__setattr__"))),
  decide (PySem.W.subIn K (.ref (He.ga K "Twice")) (.type "BaseException") = some true),
  decide (clsB K (He.ga K "Twice") PySem.HandSPX.refsVE "ValueError.__new__" = true),
  decide (PySem.W.nsIn K mainGlobals "RootError" = some (some (.ref (He.ga K "RootError")))),
  decide (PySem.W.isClsIn K (He.ga K "RootError") = true),
  decide (PySem.W.typeIn K (.ref (He.ga K "RootError")) = some (.type "type"))]
def ck_8 (K : PySem.W.Frag) : List Bool := [decide (PySem.W.subIn K (.type "NoneType") (.ref (He.ga K "RootError")) = some false),
  decide (PySem.W.nsIn K mainGlobals "NoPoly" = some (some (.ref (He.ga K "NoPoly")))),
  decide (PySem.W.isClsIn K (He.ga K "NoPoly") = true),
  decide (PySem.W.typeIn K (.ref (He.ga K "NoPoly")) = some (.type "type")),
  decide (PySem.W.subIn K (.type "NoneType") (.ref (He.ga K "NoPoly")) = some false),
  decide (PySem.W.nsIn K mainGlobals "NoHouse" = some (some (.ref (He.ga K "NoHouse")))),
  decide (PySem.W.isClsIn K (He.ga K "NoHouse") = true),
  decide (PySem.W.typeIn K (.ref (He.ga K "NoHouse")) = some (.type "type")),
  decide (PySem.W.subIn K (.type "NoneType") (.ref (He.ga K "NoHouse")) = some false),
  decide (PySem.W.nsIn K mainGlobals "NoLetter" = some (some (.ref (He.ga K "NoLetter")))),
  decide (PySem.W.isClsIn K (He.ga K "NoLetter") = true),
  decide (PySem.W.typeIn K (.ref (He.ga K "NoLetter")) = some (.type "type"))]
def ck_9 (K : PySem.W.Frag) : List Bool := [decide (PySem.W.subIn K (.type "NoneType") (.ref (He.ga K "NoLetter")) = some false),
  decide (PySem.W.nsIn K mainGlobals "NoCount" = some (some (.ref (He.ga K "NoCount")))),
  decide (PySem.W.isClsIn K (He.ga K "NoCount") = true),
  decide (PySem.W.typeIn K (.ref (He.ga K "NoCount")) = some (.type "type")),
  decide (PySem.W.subIn K (.type "NoneType") (.ref (He.ga K "NoCount")) = some false),
  decide (PySem.W.nsIn K mainGlobals "NoMove" = some (some (.ref (He.ga K "NoMove")))),
  decide (PySem.W.isClsIn K (He.ga K "NoMove") = true),
  decide (PySem.W.typeIn K (.ref (He.ga K "NoMove")) = some (.type "type")),
  decide (PySem.W.subIn K (.type "NoneType") (.ref (He.ga K "NoMove")) = some false),
  decide (PySem.W.nsIn K mainGlobals "NoWord" = some (some (.ref (He.ga K "NoWord")))),
  decide (PySem.W.isClsIn K (He.ga K "NoWord") = true),
  decide (PySem.W.typeIn K (.ref (He.ga K "NoWord")) = some (.type "type"))]
def ck_10 (K : PySem.W.Frag) : List Bool := [decide (PySem.W.subIn K (.type "NoneType") (.ref (He.ga K "NoWord")) = some false),
  decide (PySem.W.nsIn K mainGlobals "Full" = some (some (.ref (He.ga K "Full")))),
  decide (PySem.W.isClsIn K (He.ga K "Full") = true),
  decide (PySem.W.typeIn K (.ref (He.ga K "Full")) = some (.type "type")),
  decide (PySem.W.subIn K (.type "NoneType") (.ref (He.ga K "Full")) = some false),
  decide (PySem.W.nsIn K mainGlobals "NoDeed" = some (some (.ref (He.ga K "NoDeed")))),
  decide (PySem.W.isClsIn K (He.ga K "NoDeed") = true),
  decide (PySem.W.typeIn K (.ref (He.ga K "NoDeed")) = some (.type "type")),
  decide (PySem.W.subIn K (.type "NoneType") (.ref (He.ga K "NoDeed")) = some false),
  decide (PySem.W.nsIn K mainGlobals "NoText" = some (some (.ref (He.ga K "NoText")))),
  decide (PySem.W.isClsIn K (He.ga K "NoText") = true),
  decide (PySem.W.typeIn K (.ref (He.ga K "NoText")) = some (.type "type"))]
def ck_11 (K : PySem.W.Frag) : List Bool := [decide (PySem.W.subIn K (.type "NoneType") (.ref (He.ga K "NoText")) = some false),
  decide (PySem.W.nsIn K mainGlobals "NoLine" = some (some (.ref (He.ga K "NoLine")))),
  decide (PySem.W.isClsIn K (He.ga K "NoLine") = true),
  decide (PySem.W.typeIn K (.ref (He.ga K "NoLine")) = some (.type "type")),
  decide (PySem.W.subIn K (.type "NoneType") (.ref (He.ga K "NoLine")) = some false),
  decide (PySem.W.nsIn K mainGlobals "NoOver" = some (some (.ref (He.ga K "NoOver")))),
  decide (PySem.W.isClsIn K (He.ga K "NoOver") = true),
  decide (PySem.W.typeIn K (.ref (He.ga K "NoOver")) = some (.type "type")),
  decide (PySem.W.subIn K (.type "NoneType") (.ref (He.ga K "NoOver")) = some false),
  decide (PySem.W.nsIn K mainGlobals "NoName" = some (some (.ref (He.ga K "NoName")))),
  decide (PySem.W.isClsIn K (He.ga K "NoName") = true),
  decide (PySem.W.typeIn K (.ref (He.ga K "NoName")) = some (.type "type"))]
def ck_12 (K : PySem.W.Frag) : List Bool := [decide (PySem.W.subIn K (.type "NoneType") (.ref (He.ga K "NoName")) = some false),
  decide (PySem.W.nsIn K mainGlobals "Twice" = some (some (.ref (He.ga K "Twice")))),
  decide (PySem.W.isClsIn K (He.ga K "Twice") = true),
  decide (PySem.W.typeIn K (.ref (He.ga K "Twice")) = some (.type "type")),
  decide (PySem.W.subIn K (.type "NoneType") (.ref (He.ga K "Twice")) = some false),
  decide (PySem.W.nsIn K mainGlobals "NoNumber" = some (some (.ref (He.ga K "NoNumber")))),
  decide (PySem.W.isClsIn K (He.ga K "NoNumber") = true),
  decide (PySem.W.typeIn K (.ref (He.ga K "NoNumber")) = some (.type "type")),
  decide (PySem.W.subIn K (.type "NoneType") (.ref (He.ga K "NoNumber")) = some false)]
def ck (K : PySem.W.Frag) : Bool := ([(ck_0 K).all id, (ck_1 K).all id, (ck_2 K).all id, (ck_3 K).all id, (ck_4 K).all id, (ck_5 K).all id, (ck_6 K).all id, (ck_7 K).all id, (ck_8 K).all id, (ck_9 K).all id, (ck_10 K).all id, (ck_11 K).all id, (ck_12 K).all id]).all id
def fnL : List He.DefD := [⟨("NoPoly", some "__init__"), "__init__", "NoPoly.__init__", defArgs (inClass (top 2) 0), defBody (inClass (top 2) 0), defScope (inClass (top 2) 0), [.non], []⟩,
  ⟨("NoMove", some "__init__"), "__init__", "NoMove.__init__", defArgs (inClass (top 3) 0), defBody (inClass (top 3) 0), defScope (inClass (top 3) 0), [.non], []⟩,
  ⟨("NoName", some "__init__"), "__init__", "NoName.__init__", defArgs (inClass (top 4) 0), defBody (inClass (top 4) 0), defScope (inClass (top 4) 0), [.str ""], []⟩,
  ⟨("Twice", some "__init__"), "__init__", "Twice.__init__", defArgs (inClass (top 5) 0), defBody (inClass (top 5) 0), defScope (inClass (top 5) 0), [.str ""], []⟩,
  ⟨("_law_cell", none), "_law_cell", "_law_cell", defArgs (top 17), defBody (top 17), defScope (top 17), [], []⟩,
  ⟨("_law_mixed", none), "_law_mixed", "_law_mixed", defArgs (top 18), defBody (top 18), defScope (top 18), [], []⟩,
  ⟨("_law_purse", none), "_law_purse", "_law_purse", defArgs (top 19), defBody (top 19), defScope (top 19), [], []⟩,
  ⟨("_law_draw", none), "_law_draw", "_law_draw", defArgs (top 20), defBody (top 20), defScope (top 20), [], []⟩,
  ⟨("_law_sorts", none), "_law_sorts", "_law_sorts", defArgs (top 21), defBody (top 21), defScope (top 21), [], []⟩,
  ⟨("_law_kinds", none), "_law_kinds", "_law_kinds", defArgs (top 22), defBody (top 22), defScope (top 22), [], []⟩,
  ⟨("_law_row_right", none), "_law_row_right", "_law_row_right", defArgs (top 23), defBody (top 23), defScope (top 23), [], []⟩,
  ⟨("law", none), "law", "law", defArgs (top 24), defBody (top 24), defScope (top 24), [], []⟩]
def names : List PySem.Str := (["__name__", "RootError", "NoPoly", "NoMove", "NoName", "Twice", "NoOver", "NoNumber", "NoHouse", "NoLetter", "NoCount", "NoWord", "Full", "NoDeed", "NoText", "NoLine", "_law_cell", "_law_mixed", "_law_purse", "_law_draw", "_law_sorts", "_law_kinds", "_law_row_right"] : List PySem.Str)
def adrs : List Addr := ([3, 6, 4, 24, 45, 65, 85, 106, 119, 132, 145, 157, 169, 181, 193, 205, 217, 229, 238, 245, 252, 259, 266, 273, 278, 283, 0, 23, 44, 64] : List Addr) ++ ([84, 105, 118, 131, 144, 156, 168, 180, 192, 204, 216, 228, 237, 244, 251, 258, 265, 272, 277, 282, 22, 25, 42, 43, 62, 63, 82, 83, 86, 103] : List Addr) ++ ([104, 107, 117, 120, 130, 133, 143, 155, 167, 179, 191, 203, 215, 227, 232, 233, 234, 235, 236, 239, 240, 241, 242, 243, 246, 247, 248, 249, 250, 253] : List Addr) ++ ([254, 255, 256, 257, 260, 261, 262, 263, 264, 267, 268, 269, 270, 271, 274, 275, 276, 279, 280, 281, 41, 35, 61, 55, 81, 75, 102, 96, 36, 37] : List Addr) ++ ([38, 39, 40, 56, 57, 58, 59, 60, 76, 77, 78, 79, 80, 97, 98, 99, 100, 101, 2] : List Addr)
abbrev hk : PySem.W.Hook := hookM adrs ck fnL
def ob (s : PySem.W.SharedT) : AlM := obsMG adrs ck fnL (HandSHeadRun.getT s)
theorem ob_eq (s : PySem.W.SharedT) : ob s = hk.obs s.abs := obsMG_eq (HandSHeadRun.getT_eq s)
set_option maxHeartbeats 0 in
theorem run (w : World) : HandSHeadRun.RunEq (PySem.W.OpenLaw.row PySem.Challenge.rw_rootmoves_k95_refusals_made) (PySem.W.view (PySem.W.OpenLaw.row PySem.Challenge.rw_rootmoves_k95_refusals_made).prog [24]) hk ob 20000 names w := by
  intro os
  kernel_rfl
end My
set_option Elab.async false
set_option linter.all false
set_option maxRecDepth 100000
set_option maxHeartbeats 4000000
/-! ### own rules over the hand layer -/
namespace My
open PySem PySem.Spec PyProof.Rows L2
section
variable {X : Cx}
def CFd (_ j : Int) : Prop := j ≠ 0 ∧ j.natAbs.log2 < 9000
theorem op_fdivA : OpR X (binaryOp .FloorDiv) (rI CFd fun i j => .int (i.fdiv j)) := opI fun _ _ _ _ _ _ _ hc q => floordiv_int hc.1 q (.inl (PyProof.noPylong_of_log2 hc.2))
def CPw (i j : Int) : Prop := 0 ≤ j ∧ (Builtin.Int.intBits i : Int) * j ≤ 2 ^ 27
theorem op_powW : OpR X (binaryOp .Pow) (rI CPw fun i j => .int (i ^ j.toNat)) := opI fun _ _ _ _ _ _ _ hc q => pow_int hc.1 hc.2 q
end
section
variable {X : Cx}
theorem ip_fdiv : PIp X .FloorDiv (rI CDivW fun i j => .int (i / j)) := iop_fdivW
theorem ip_mul : PIp X .Mult (rI CMul fun i j => .int (i * j)) := iop_mul
end
theorem ite_tt {A B : Prop} {c : Bool} (hc : c = true) (h : A) : if c = true then A else B := by rw [if_pos hc]; exact h
theorem ite_ff {A B : Prop} {c : Bool} (hc : c = false) (h : B) : if c = true then A else B := by rw [hc, if_neg Bool.false_ne_true]; exact h
/-! ### calls by keywords alone -/
structure KCal (P : Program) (w : World) (K : PySem.W.Frag) (mg : Str → Option Value) (base : Heap) (k : Nat) (x : Str) (sp : Sp) (n : Nat) (ks : List Str) (gV : List V → List V → List V) : Prop where
  ex : ∃ (f : Addr) (fd : FuncData) (ps : List Str) (g : List Value → List Value → List Value), FnOk P w K mg base CX0 k f fd ps sp ∧ mg x = some (.ref f) ∧ PySem.W.keepIn K (.ref f) = true ∧
    (∀ (s : Shared) (us ws : List Value), K.In s.heap → us.length = n → ws.length = ks.length → BindsTo s fd ⟨us, ks.zip ws⟩ (ps.zip (g us ws))) ∧
    (∀ {vs : List V} {us : List Value} {zs : List V} {ws : List Value}, Vals vs us → Vals zs ws → Vals (gV vs zs) (g us ws))
def tCk (sp : Sp) (n m : Nat) (gV : List V → List V → List V) (E : XK) (t tk : TA) : TE := fun σ H Q => t σ H fun vs H1 => tk σ H1 fun zs H2 => vs.length = n ∧ zs.length = m ∧ sp (gV vs zs) H2 Q E
section
variable {X : Cx} {k j n : Nat} {x : Str} {ks : List Str} {sp : Sp} {gV : List V → List V → List V} {p pos : Pos} {e : Expr} {es : List Expr} {kws : List Keyword} {t tk : TA}
theorem run_ck {pins : List (Addr × Obj)} {σ : L2.St} {H : Hp} {s : Shared} {Q : VK} {us ws : List Value} {vs zs : List V} {f : Addr} {fd : FuncData} {ps : List Str} {g : List Value → List Value → List Value}
    (F : FnOk X.prog X.w X.K X.mg X.base CX0 k f fd ps sp) (hr : Room k X.A)
    (to : ∀ (s : Shared) (us ws : List Value), X.K.In s.heap → us.length = n → ws.length = ks.length → BindsTo s fd ⟨us, ks.zip ws⟩ (ps.zip (g us ws)))
    (rel : ∀ {vs : List V} {us : List Value} {zs : List V} {ws : List Value}, Vals vs us → Vals zs ws → Vals (gV vs zs) (g us ws))
    (I : Inv X pins σ H s) (r : Vals vs us) (rz : Vals zs ws) (l1 : vs.length = n) (l2 : zs.length = ks.length) (h : sp (gV vs zs) H Q E0) : wpAny (model X.prog X.w) X.A (call (.ref f) us (ks.zip ws)) (EP X pins σ Q) X.xe s := by
  have r2 := rel r rz
  refine wpAny_call (codeAny_mono (F.run X.A X.stack s H ⟨us, ks.zip ws⟩ (g us ws) (gV vs zs) Q E0 hr I.env0 (to s us ws I.kIn (by rw [← r.length]; exact l1) (by rw [← rz.length]; exact l2)) r2 h) fun r s' hq => ?_)
  cases r with
  | error e => exact hq.elim
  | ok fl =>
    cases fl with
    | ret u => exact I.after hq
    | next => exact False.elim hq
    | brk => exact False.elim hq
    | cont => exact False.elim hq
theorem pe_ck0 (c : KCal X.prog X.w X.K X.mg X.base k x sp 0 ks gV) (hr : Room j X.A) (hk : k ≤ j) (hg : Gl X x) (hkw : PK X kws tk)
    (hall : (backToKw pos (keywordEach kws X.env)).all (·.1.isSome) = true := by rfl) (hks : (backToKw pos (keywordEach kws X.env)).filterMap (·.1) = ks := by rfl) (hdb : (x == ("__debug__" : Str)) = false := by decide)
    (hpl : ((backTo pos (starEach [] X.env)).any (·.1) || (backToKw pos (keywordEach kws X.env)).any (·.1.isNone)) = false := by rfl) :
    PE X (.Call (.Name x p) [] kws pos) (tCk sp 0 ks.length gV E0 tNil tk) := by
  obtain ⟨f, fd, ps, g, F, hm, kp, to, rel⟩ := c.ex
  refine ⟨fun pins s σ H Q I h => ?_⟩
  refine wpAny_Call_Name_kw (ld_glob I hg hm ?_ hdb)
  refine PySem.W.callWith_KW0 (h₀ := X.base) I.ok.mod.kin kp hall ?_ hpl
  refine thn (hkw.run pos pins s σ H _ I h) fun ws s2 ⟨zs, H2, I2, rz, l1, l2, q2⟩ => ⟨I2.kIn, ?_⟩
  rw [hks]
  exact run_ck (us := []) (vs := []) F (hr.mono hk) to rel I2 .nil rz rfl l2 q2
theorem pe_ck (c : KCal X.prog X.w X.K X.mg X.base k x sp n ks gV) (hr : Room j X.A) (hk : k ≤ j) (hg : Gl X x) (ha : PA X (e :: es) t) (hkw : PK X kws tk)
    (hall : (backToKw pos (keywordEach kws X.env)).all (·.1.isSome) = true := by rfl) (hks : (backToKw pos (keywordEach kws X.env)).filterMap (·.1) = ks := by rfl) (hdb : (x == ("__debug__" : Str)) = false := by decide)
    (he : starEach (e :: es) X.env = (false, eval e X.env) :: starEach es X.env := by rfl) (hpl : ((backTo pos (starEach (e :: es) X.env)).any (·.1) || (backToKw pos (keywordEach kws X.env)).any (·.1.isNone)) = false := by rfl) :
    PE X (.Call (.Name x p) (e :: es) kws pos) (tCk sp n ks.length gV E0 t tk) := by
  obtain ⟨f, fd, ps, g, F, hm, kp, to, rel⟩ := c.ex
  refine ⟨fun pins s σ H Q I h => ?_⟩
  refine wpAny_Call_Name_kw (ld_glob I hg hm ?_ hdb)
  refine PySem.W.callWith_KW (h₀ := X.base) I.ok.mod.kin kp hall (thn (ha.run pos pins s σ H _ I h) fun us s1 ⟨vs, H1, I1, r, q⟩ => ?_) hpl he
  refine thn (hkw.run pos pins s1 σ H1 _ I1 q) fun ws s2 ⟨zs, H2, I2, rz, l1, l2, q2⟩ => ⟨I2.kIn, ?_⟩
  rw [hks]
  exact run_ck F (hr.mono hk) to rel I2 r rz l1 l2 q2
end
end My

/-! ### exceptions that are caught and kept -/
namespace My
open PySem PySem.Spec PyProof.Rows L2
/-- a caught exception that is kept: its class, its own dict -/
def ExV (cls : Value) (d : Option Addr) (a : Addr) : HO := .ext fun h => ∃ (o : Obj) (vs : Array Value), h.get? a = some o ∧ o.cls = cls ∧ o.dict = d ∧ o.data = .fields vs
section
variable {X : Cx} {pins : List (Addr × Obj)} {σ : L2.St} {H : Hp} {s : Shared}
theorem track {a : Addr} {cls : Value} {d : Option Addr} {oe : Obj} (I : Inv X pins σ H s) (he : s.heap.get? a = some oe) (hz : Zc cls d oe) (hd : ∃ vs, oe.data = .fields vs) (na : H a = none) (nL : a ≠ X.env.locals)
    (new : X.s_0.heap.get? a = none) (np : ∀ p ∈ X.pn ++ pins, p.1 ≠ a) : Inv X pins σ (upd H a (ExV cls d a)) s := by
  obtain ⟨vs, hv⟩ := hd
  have ne : ∀ {b : Addr} {o : HO}, H b = some o → b ≠ a := fun {b o} q z => by rw [z, na] at q; cases q
  refine ⟨I.ok, I.os, I.bare, ⟨I.base.keep, I.base.slot, fun b o q n hx => ?_, I.base.there, fun b xs q => ?_, fun b o u q => ?_, fun b ps q => ?_⟩, I.loc, I.cell, ?_, fun x c e => ?_, fun p hp => ?_, fun b o q => ?_, I.len⟩
  · have nb : b ≠ a := fun z => by rw [z, new] at q; cases q
    rw [upd_ne nb]
    exact I.base.free b o q n hx
  · have := I.base.tups b xs q
    rw [upd_ne (ne this)]; exact this
  · have := I.base.frzs b o u q
    rw [upd_ne (ne this)]; exact this
  · obtain ⟨m, this⟩ := I.base.tbls b ps q
    exact ⟨m, by rw [upd_ne (ne this)]; exact this⟩
  · rw [upd_ne nL.symm]; exact I.free
  · have nc : c ≠ a := fun z => by
      obtain ⟨v, o, ho, hdt⟩ := I.cell x c e
      rw [z, he] at ho
      cases ho
      rw [hv] at hdt
      cases hdt
    rw [upd_ne nc]; exact I.freeC x c e
  · obtain ⟨p1, p2, p3⟩ := I.pin p hp
    exact ⟨p1, by rw [upd_ne (np p hp)]; exact p2, p3⟩
  · by_cases hb : b = a
    · subst hb
      rw [upd_same] at q
      cases q
      exact ⟨⟨oe, vs, he, hz.1, hz.2, hv⟩, ⟨oe, he⟩, fun h1 h2 ⟨o, vs', e1, e2⟩ k => ⟨o, vs', k _ e1, e2⟩⟩
    · rw [upd_ne hb] at q
      exact (I.hok b o q).stay (fun _ _ _ z => z) (fun c z => by rw [upd_ne (ne z)]; exact z) fun c xs z => by rw [upd_ne (ne z)]; exact z
end
/-- the ends of a suite that keeps its exception: its name goes, the exception stays tracked -/
def DKeep (i : Nat) (a : Addr) (cls : Value) (d : Option Addr) (D : Ends) : Ends :=
  { nx := fun σ' H' => H' a = none → D.nx (σ'.set i none) (upd H' a (ExV cls d a)), rt := fun _ _ => False, bk := fun _ _ => False, ct := fun _ _ => False }
/-- what the clauses «except c as n: suite» wish of an exception, one after the other; n in slot i -/
def wKeep (K : PySem.W.Frag) (i : Nat) (Wout : WX) (D : Ends) : List (Value × (Addr → Value → Option Addr → TS)) → WX
  | [] => Wout
  | (c, ts) :: r => fun cls d σ H => ∃ b, PySem.W.exmOne K cls c = some b ∧ (b = true → ∀ a, H a = none → ts a cls d (DKeep i a cls d D) (σ.set i (some (.ref a))) H) ∧ (b = false → wKeep K i Wout D r cls d σ H)
inductive HdsKeep (X : Cx) (n : Str) : List ExceptHandler → List (Value × (Addr → Value → Option Addr → TS)) → Prop
  | nil : HdsKeep X n [] []
  | cons {x : Str} {c : Value} {ts : Addr → Value → Option Addr → TS} {b₀ : Stmt} {suite : List Stmt} {np pos' : Pos} {hds : List ExceptHandler} {l : List (Value × (Addr → Value → Option Addr → TS))} (hc : Names X x c)
      (hsu : ∀ (a : Addr) (oe : Obj) (cls : Value) (d : Option Addr) (pn : List (Addr × Obj)), PSs (X.suite a ((a, oe) :: pn)) (b₀ :: suite) (ts a cls d)) (r : HdsKeep X n hds l) :
      HdsKeep X n (.ExceptHandler (some (.Name x np)) (some n) (b₀ :: suite) pos' :: hds) ((c, ts) :: l)
section
variable {X : Cx} {n : Str} {i : Nat} {body : List Stmt} {h₀ : ExceptHandler} {hds : List ExceptHandler} {l : List (Value × (Addr → Value → Option Addr → TS))} {pos : Pos} {tb : WX → TS} {Wout : WX}
theorem ps_try_keep (hs : X.stack = X.env :: X.outer) (hf : X.env.frame = some X.env.locals) (hex : X.ex = []) (hN : X.N.Nodup) (hi : X.N[i]? = some n) (hln : X.env.kindOf n = some .local) (tk : Takes X Wout)
    (hb : ∀ (W : WX) (pn : List (Addr × Obj)) (xe : Value → Shared → Prop), Takes (X.tr pn xe) W → PassesOwn (model X.prog X.w) X.A X.env xe → PSs (X.tr pn xe) body (tb W))
    (hh : HdsKeep X n (h₀ :: hds) l) : PS X (.Try body (h₀ :: hds) [] [] pos) (fun D σ H => tb (wKeep X.K i Wout D l) D σ H) := by
  refine ⟨fun pins s σ H D I h => ?_⟩
  have ok := I.ok
  have hfr : X.A.frames = some (X.env :: X.outer) := by rw [ok.frames, hs]
  have hloc : Loc X.env.scope n := .inl hln
  refine wpAny_Try_except ?_
  refine wpAny_mono ((hb (wKeep X.K i Wout D l) (X.pn ++ pins) (fun e s₁ => wpAny (model X.prog X.w) X.A (noteFrame e X.env) (fun _ s₂ => wpAny (model X.prog X.w) X.A (setFlight e none) (fun _ s₃ =>
    wpAny (model X.prog X.w) X.A (handleBy e X.env (h₀ :: hds)) (SP X pins D) X.xe s₃) X.xe s₂) X.xe s₁) (fun u s' xx => ?_) PassesOwn.looking).run [] s σ H D (I.toTry _) h) (fun f s1 hsp => ?_) (fun _ _ z => z)
  · obtain ⟨a, B, sI, pins', σ', H', cls, d, rfl, J', nb, up, sky, na, os, ag, w⟩ := xx
    have J : Inv X pins σ' H' sI := J'.ofTry ok
    have sky' : Sky B (X.env :: X.outer) a (Zc cls d) X.env.locals s'.heap := by rw [← hs]; exact sky
    show wpAny (model X.prog X.w) X.A (noteFrame (.ref a) X.env) _ _ _
    refine Sky.land Zc.steady hfr hf sky' fun h3 fl3 up3 => ?_
    have J3 : Inv X pins σ' H' { s' with heap := h3 } := J.landed nb fl3.1 (up.trans up3) os ag
    obtain ⟨oe3, vs3, he3, hz3, hd3⟩ := fl3.there
    have Ba : B.get? a = none := fl3.2.1
    have nfr : a ∉ frs (X.env :: X.outer) := fun hm => by
      obtain ⟨_, o', e', hnf⟩ := (fl3.2.2.1).mem hm
      rw [he3] at e'; cases e'
      exact hnf _ hd3
    have nL : a ≠ X.env.locals := fun z => nfr (List.mem_filterMap.mpr ⟨X.env, List.mem_cons_self, by rw [hf, z]⟩)
    have nF : a ∉ X.fs := fun hm => by
      obtain ⟨e, he, q⟩ := List.mem_filterMap.mp hm
      exact nfr (List.mem_filterMap.mpr ⟨e, List.mem_cons_of_mem _ he, q⟩)
    have notI : sI.heap.get? a = none := by
      cases e : sI.heap.get? a with
      | none => rfl
      | some o =>
        have := nb a o e (by rw [hs]; exact nfr)
        rw [Ba] at this; cases this
    have new0 : X.s_0.heap.get? a = none := by
      cases e : X.s_0.heap.get? a with
      | none => rfl
      | some o =>
        obtain ⟨o', q⟩ := J.base.there a o e (by rw [hex]; simp)
        rw [notI] at q; cases q
    have np : ∀ p ∈ X.pn ++ pins, p.1 ≠ a := fun p hp z => by
      have q := (J.pin p hp).1
      rw [z, notI] at q; cases q
    have S3 := J3.suite he3 hd3 na nL nF
    have go : ∀ {hds' : List ExceptHandler} {l' : List (Value × (Addr → Value → Option Addr → TS))}, HdsKeep X n hds' l' → wKeep X.K i Wout D l' cls d σ' H' →
        wpAny (model X.prog X.w) X.A (handleBy (.ref a) X.env hds') (SP X pins D) X.xe { s' with heap := h3 } := by
      intro hds' l' hk
      induction hk with
      | nil =>
        intro w
        refine wpAny_handleBy_nil ?_
        obtain ⟨k1, k2, k3, oe, vs, T, oT, ts', he, hz, hd, h1, hr⟩ := id fl3
        unfold PySem.passOn
        refine wpAny_bind (wpAny_field he hd h1 ?_)
        rw [if_neg (show ¬ ((Value.ref T == Value.none) = true) from by simp)]
        have fin : wpAny (model X.prog X.w) X.A (setFlight (.ref a) X.env.frame) (fun _ s4 => wpAny (model X.prog X.w) X.A (throw (.ref a) : Sem Flow) (SP X pins D) X.xe s4) X.xe { s' with heap := h3 } := by
          rw [hf]
          refine HandSPX.setFlight_upZ fl3 fun h4 hh4 up4 => wpAny_throw (tk _ _ ?_)
          exact ⟨a, B, sI, pins, σ', H', cls, d, rfl, J, nb, (up.trans up3).trans up4, .inr (.inr (by rw [hs]; exact hh4)), na, os, ag, w⟩
        first
          | exact wpAny_bind (wpAny_pure (wpAny_bind fin))
          | exact wpAny_bind fin
      | @cons x c ts b₀ suite np' pos' hds2 l2 hc hsu r ih =>
        intro w
        obtain ⟨b, hb1, hyes, hno⟩ := w
        refine wpAny_handleBy_cons (codeAny_handlers_test ?_) (by intro q; cases q)
        have LT : PySem.W.Looks (model X.prog X.w) h3 (typeOf (.ref a)) cls := fun A Q E s k q => wpAny_typeOf_ref (k _ _ he3) (by rw [hz3.1]; exact q)
        have LM := PySem.W.exm_one (M := model X.prog X.w) (J3.kIn) LT hb1
        have test : ∀ {Q : Value → Shared → Prop} {E : Value → Shared → Prop}, Q c { s' with heap := h3 } → wpAny (model X.prog X.w) (X.A.mark (some (.ref a))) (eval (.Name x np') X.env) Q E { s' with heap := h3 } := fun {Q E} q => by
          obtain ⟨hg, hdbg, hm | ⟨hm, hv, hnn⟩⟩ := hc
          · exact ld_glob (X := X.suite a ((a, oe3) :: (X.pn ++ pins))) S3 hg hm q hdbg
          · exact ld_blt (X := X.suite a ((a, oe3) :: (X.pn ++ pins))) S3 hg hm hv q hnn hdbg
        refine test (LM.here ?_)
        cases b with
        | true =>
          refine codeAny_handlers_suite_as ?_
          refine HandSPX.lands_againZ fl3 fun h4 fl4 up4 => ?_
          have J4 : Inv X pins σ' H' { s' with heap := h4 } := J.landed nb fl4.1 ((up.trans up3).trans up4) os ag
          obtain ⟨oe4, vs4, he4, hz4, hd4⟩ := fl4.there
          have S4 := J4.suite he4 hd4 na nL nF
          refine store_ok (X := X.suite a ((a, oe4) :: (X.pn ++ pins))) (v := .ref a) S4 hN hi hloc rfl (fun s5 S5 => ?_) (.inr hln)
          refine wpAny_mono ((hsu a oe4 cls d (X.pn ++ pins)).run [] s5 _ H' _ S5 (hyes rfl a na)) (fun f s6 hsp => ?_) (fun _ _ z => False.elim z)
          cases f with
          | next =>
            obtain ⟨σ6, H6, S6, q6⟩ := hsp
            obtain ⟨pa, pb, _⟩ := S6.pin (a, oe4) (List.mem_append_left _ List.mem_cons_self)
            exact gone_ok (track (S6.unsuite ok) pa hz4 ⟨_, hd4⟩ pb nL new0 np) hN hi hln fun s7 J7 => ⟨_, _, J7, q6 pb⟩
          | brk =>
            obtain ⟨σ6, H6, S6, q6⟩ := hsp
            exact False.elim q6
          | cont =>
            obtain ⟨σ6, H6, S6, q6⟩ := hsp
            exact False.elim q6
          | ret u =>
            obtain ⟨v6, σ6, H6, S6, r6, q6⟩ := hsp
            exact False.elim q6
        | false =>
          show wpAny _ X.A (handleBy (.ref a) X.env hds2) _ _ _
          exact ih (hno rfl)
    exact go hh w
  · cases f with
    | next =>
      obtain ⟨σ', H', J', q⟩ := hsp
      exact wpAny_execs_nil ⟨σ', H', J'.ofTry ok, q⟩
    | brk =>
      obtain ⟨σ', H', J', q⟩ := hsp
      exact ⟨σ', H', J'.ofTry ok, q⟩
    | cont =>
      obtain ⟨σ', H', J', q⟩ := hsp
      exact ⟨σ', H', J'.ofTry ok, q⟩
    | ret u =>
      obtain ⟨v, σ', H', J', r, q⟩ := hsp
      exact ⟨v, σ', H', J'.ofTry ok, r, q⟩
end
end My

/-! ### isinstance of a kept exception, its field -/
namespace My
open PySem PySem.Spec PySem.Calls PyProof.Rows
open PySem.W in
theorem kept_class {prog : Program} {w : World} {A : Around} {E : Value → Shared → Prop} {s : Shared} {K : Frag} {x D : Addr} {ox : Obj} {od : Option Obj} {Q : Option Value → Shared → Prop} (hga : findIn K (.ref D) "__getattribute__" = some (some (.builtin "BaseException.__getattribute__"))) (hgt : findIn K (.ref D) "__getattr__" = some none)
    (hsub : subIn K (.ref D) (.type "BaseException") = some true) (hdct : hasDictIn K D = true) (ha : findIn K (.ref D) "__class__" = some (some (.builtin "object.__class__"))) (hn : specialIn K (.builtin "object.__class__") "__get__" = some (some (.builtin "getset_descriptor.__get__")))
    (htk : takesIn K (.builtin "object.__class__") = some true) (hm : mroIn K D (.type "object") = some true) (X : K.In s.heap) (I : InstAt s.heap x ox D od) (h : Q (some (.ref D)) { s with toks := s.toks + 1 }) : wpAny (model prog w) A (getAttr? (.ref x) "__class__") Q E s := by
  have hf : findObj K D od "__class__" = some (.bind (.builtin "getset_descriptor.__get__") (.builtin "object.__class__")) := by
    obtain ⟨cd, hc, _⟩ := any_some hdct
    unfold findObj
    rw [hc, Option.bind_some, ha, Option.bind_some]
    simp [hn, htk]
  obtain ⟨hp, g, d, t, os⟩ := s
  have L0 := I.type (M := model prog w)
  have L1 := looks_findIn (M := model prog w) X hga
  have L2 := looks_findIn (M := model prog w) X hgt
  have L3 := looks_find (M := model prog w) X I hf
  have sub : Looks (model prog w) hp (isInstance (.ref x) (.type "BaseException")) true := L0.andThen (looks_subIn X hsub)
  have hx0 : (false && onTheHeap (Value.builtin "BaseException.__getattribute__")) = false := rfl
  have hx2 : (Value.builtin "BaseException.__getattribute__" == Value.builtin "object.__getattribute__") = false := by decide +kernel
  have hx1 : (onTheHeap (Value.ref D) && Value.builtin "BaseException.__getattribute__" == Value.builtin "object.__getattribute__") = false := by rw [hx2]; rfl
  unfold getAttr? getAttrBy? getAttrBy
  refine wpAny_bind (wpAny_mkText (wpAny_bind (wpAny_attempt (wpAny_holding (wpAny_bind (L0.at (wpAny_bind (L1.at ?_))))))))
  show wpAny _ _ (if (onTheHeap (Value.ref D) && Value.builtin "BaseException.__getattribute__" == Value.builtin "object.__getattribute__") = true then _ else _) _ _ _
  rw [hx1, if_neg Bool.false_ne_true]
  unfold getAttrByItsOwn hookBefore
  refine wpAny_bind ?_
  rw [if_pos (show onTheHeap (Value.ref D) = true from rfl)]
  refine L2.at ?_
  refine wpAny_bind (wpAny_attempt (wpAny_holding ?_))
  unfold callGetattribute
  rw [hx0, if_neg Bool.false_ne_true]
  unfold boundAndCalled
  rw [PySem.F.excAttr_ValueError.ga.bind (.ref x)]
  refine wpAny_bind (wpAny_pure ?_)
  show wpAny _ _ (call (.builtin "BaseException.__getattribute__") [.ref x, .str "__class__" t]) _ _ _
  refine wpAny_call (codeAny_call_builtin PySem.F.excAttr_ValueError.ga.plain PySem.F.entry_bexc_ga ?_)
  refine @check_slot (model prog w) _ _ ⟨hp, g, d, t + 1, os⟩ "BaseException.__getattribute__" "BaseException" "__getattribute__" (.ref x) [.str "__class__" t] [] _ (by decide +kernel) (by decide +kernel) sub (PySem.F.args_bexc_ga (.ref x) (.str "__class__" t)) ?_
  unfold Builtin.«object.__getattribute__»
  refine wpAny_bind (wpAny_of_eq (a := ((Value.ref x : Value), [Value.str "__class__" t])) (by first | rfl | (simp only [slotArgs]; rfl)) ?_)
  refine wpAny_bind (wpAny_pure (wpAny_bind (L0.at (wpAny_bind (L3.at ?_)))))
  show wpAny _ _ (holding [Value.builtin "object.__class__"] (call (.builtin "getset_descriptor.__get__") [.builtin "object.__class__", .ref x, .ref D]) >>= ret) _ _ _
  refine wpAny_bind (wpAny_holding (wpAny_call (class_get (s := ⟨hp, g, d, t + 1, os⟩) (ox := ox) (od := od) X I hm ?_)))
  refine wpAny_pure ?_
  show wpAny _ _ (handedOut (.ref D)) _ _ _
  rw [handedOut_of (v := .ref D) rfl]
  first
    | exact wpAny_pure (wpAny_pure h)
    | exact wpAny_pure h
    | exact wpAny_pure (wpAny_bind (wpAny_pure (wpAny_pure h)))
open PySem.W in
theorem kept_kit {K : Frag} {x D : Addr} {ox : Obj} {od : Option Obj} (hga : findIn K (.ref D) "__getattribute__" = some (some (.builtin "BaseException.__getattribute__"))) (hgt : findIn K (.ref D) "__getattr__" = some none) (hsub : subIn K (.ref D) (.type "BaseException") = some true) (hdct : hasDictIn K D = true)
    (ha : findIn K (.ref D) "__class__" = some (some (.builtin "object.__class__"))) (hn : specialIn K (.builtin "object.__class__") "__get__" = some (some (.builtin "getset_descriptor.__get__"))) (htk : takesIn K (.builtin "object.__class__") = some true) (hm : mroIn K D (.type "object") = some true) :
    KitX K (.ref x) (.ref D) (fun h => InstAt h x ox D od) where
  ty := fun _ _ _ I => I.type
  it := fun _ _ X _ => by
    obtain ⟨cdD, hcD, _⟩ := any_some hdct
    unfold clsIn at hcD
    split at hcD
    · rename_i c' d' cd' sl' ho
      intro A' Q' E' s' k q
      unfold isType loadHead
      exact wpAny_bind (wpAny_loadPart (k _ _ (X _ _ ho)) (wpAny_pure q))
    · cases hcD
  ne := fun h tp dd its n sl X htp => by
    obtain ⟨cdD, hcD, _⟩ := any_some hdct
    refine Bool.eq_false_iff.mpr fun q => ?_
    have e : D = tp := Value.ref.inj (beq_iff_eq.mp q)
    subst e
    unfold clsIn at hcD
    split at hcD
    · rename_i c' d' cd' sl' ho
      have z := (X _ _ ho).symm.trans htp
      cases z
    · cases hcD
  ca := fun X I k => kept_class hga hgt hsub hdct ha hn htk hm X I k
open L2
/-- a kept exception of the class at D; its dict, if it has one, is tracked -/
def Kept (H : Hp) (a D : Addr) (d : Option Addr) : Prop := H a = some (ExV (.ref D) d a) ∧ (d = none ∨ ∃ dd fs, d = some dd ∧ H dd = some (.xd fs))
section
variable {X : Cx} {pins : List (Addr × Obj)} {σ : L2.St} {H : Hp} {s : Shared}
theorem Kept.inst {a D : Addr} {d : Option Addr} (h : Kept H a D d) (I : Inv X pins σ H s) : ∃ ox od, PySem.W.InstAt s.heap a ox D od ∧ ox.dict = d := by
  obtain ⟨hk, hd⟩ := h
  obtain ⟨⟨o, vs, ho, hc, hdict, hdat⟩, _⟩ := (show ObjOk X.prog X.w H s.heap a (ExV (.ref D) d a) from I.hok a _ hk)
  obtain ⟨oc, ood, oda, osl⟩ := o
  dsimp only at hc hdict hdat
  subst hc hdict hdat
  rcases hd with rfl | ⟨dd, fs, rfl, hdd⟩
  · exact ⟨_, none, ⟨ho, rfl, rfl, trivial⟩, rfl⟩
  · obtain ⟨mA, hns, _⟩ := (show ObjOk X.prog X.w H s.heap dd (.xd fs) from I.hok dd _ hdd)
    obtain ⟨od, ho2, _⟩ := lookIn_ns hns
    exact ⟨_, some od, ⟨ho, rfl, rfl, ho2⟩, rfl⟩
end
/-- isinstance(e, c), e kept -/
def rIsK (K : PySem.W.Frag) : List V → Hp → VK → Prop := fun xs H Q => ∃ (a D : Addr) (d : Option Addr) (c : V) (u : Value) (b : Bool), xs = [.ref a, c] ∧ Kept H a D d ∧ ExcC K D ∧ ClsV c u ∧ PySem.W.kitOne K (.ref D) u = some b ∧ Q (.bl b) H
theorem call_isK {X : Cx} : CallR X (.builtin "isinstance") (rIsK X.K) := by
  intro pins s σ H xs us Q I r h
  obtain ⟨a, D, d, c, u, b, rfl, hk, C, hc, e, q⟩ := h
  obtain ⟨u1, u2, rfl, r1, r2⟩ := vals2 r
  have e2 := hc.eq r2
  subst e2
  obtain rfl : u1 = Value.ref a := r1
  obtain ⟨ox, od, J, _⟩ := hk.inst I
  exact PySem.W.kia_one (kept_kit C.hg C.hk C.hs C.hd C.ha C.hn C.ht C.hm) I.kIn J e (fun z => nomatch z) fun tk => ⟨.bl b, H, I.tok tk, rfl, q⟩
/-- isinstance(x, c), x a value of the layer or a kept exception -/
theorem call_isA {X : Cx} : CallR X (.builtin "isinstance") (fun xs H Q => rIsi X.K xs H Q ∨ rIsK X.K xs H Q) := CallR.or call_isi call_isK
/-- e.f, e kept -/
def tKFld (K : PySem.W.Frag) (te : TE) (f : Str) : TE := fun σ H Q => te σ H fun x H1 => ∃ (a D dd : Addr) (fs : List (Str × V)) (v : V), x = .ref a ∧ H1 a = some (ExV (.ref D) (some dd) a) ∧ H1 dd = some (.xd fs) ∧ ExcC K D ∧ PySem.W.findIn K (.ref D) f = some none ∧ fs.lookup f = some v ∧ Q v H1
theorem pe_kf {X : Cx} {e : Expr} {te : TE} {f : Str} {pos : Pos} (he : PE X e te) (hb : attributeBase e f X.env (eval e X.env) = eval e X.env := by rfl) : PE X (.Attribute e f pos) (tKFld X.K te f) := by
  refine ⟨fun pins s σ H Q I h => ?_⟩
  refine attr_of hb (thn (he.run pins s σ H _ I h) fun u s1 hh => ?_)
  obtain ⟨x, H1, I1, rx, a, D, dd, fs, v, rfl, ha, hdd, C, hno, hl, q⟩ := hh
  obtain rfl : u = Value.ref a := rx
  obtain ⟨ox, od, J, hdict⟩ := Kept.inst (D := D) (d := some dd) ⟨ha, .inr ⟨dd, fs, rfl, hdd⟩⟩ I1
  have hx : ObjOk X.prog X.w H1 s1.heap dd (.xd fs) := I1.hok dd _ hdd
  obtain ⟨mA, hns, hr⟩ := hx
  obtain ⟨od2, ho2, hlk⟩ := lookIn_ns hns
  obtain ⟨w', hu, ru⟩ := RelO.some_of (v := v) (o := mA f) (by rw [← hl]; exact hr f)
  have J2 : PySem.W.InstAt s1.heap a ox D (some od2) := ⟨J.at_, J.cls, J.no, by rw [hdict]; exact ho2⟩
  exact HandSPX.exc_get I1.kIn J2 C.hg C.hk C.hs (PySem.W.findObj_own C.hd hno rfl (by rw [hlk, hu])) (handed_of ru) ⟨v, H1, I1.tok _, ru, q⟩
end My

/-! ### calls of defs that may raise -/
namespace My
open PySem PySem.Spec PyProof.Rows L2
structure CalX (P : Program) (w : World) (K : PySem.W.Frag) (mg : Str → Option Value) (base : Heap) (k : Nat) (x : Str) (sp : Sp) : Prop where
  ex : ∃ (f : Addr) (fd : FuncData) (ps : List Str), FnOk P w K mg base (L2.CX P w) k f fd ps sp ∧ mg x = some (.ref f) ∧ PySem.W.keepIn K (.ref f) = true ∧ Binds K fd ps []
structure KCalX (P : Program) (w : World) (K : PySem.W.Frag) (mg : Str → Option Value) (base : Heap) (k : Nat) (x : Str) (sp : Sp) (n : Nat) (ks : List Str) (gV : List V → List V → List V) : Prop where
  ex : ∃ (f : Addr) (fd : FuncData) (ps : List Str) (g : List Value → List Value → List Value), FnOk P w K mg base (L2.CX P w) k f fd ps sp ∧ mg x = some (.ref f) ∧ PySem.W.keepIn K (.ref f) = true ∧
    (∀ (s : Shared) (us ws : List Value), K.In s.heap → us.length = n → ws.length = ks.length → BindsTo s fd ⟨us, ks.zip ws⟩ (ps.zip (g us ws))) ∧
    (∀ {vs : List V} {us : List Value} {zs : List V} {ws : List Value}, Vals vs us → Vals zs ws → Vals (gV vs zs) (g us ws))
section
variable {X : Cx} {k j n : Nat} {x : Str} {ks : List Str} {sp : Sp} {E : L2.St → XK} {gV : List V → List V → List V} {p pos : Pos} {e : Expr} {es : List Expr} {kws : List Keyword} {t tk : TA}
/-- it raises nothing here -/
theorem pe_cX (c : CalX X.prog X.w X.K X.mg X.base k x sp) (hr : Room j X.A) (hk : k ≤ j) (hg : Gl X x) (ha : PA X (e :: es) t)
    (hdb : (x == ("__debug__" : Str)) = false := by decide) (he : starEach (e :: es) X.env = (false, eval e X.env) :: starEach es X.env := by rfl) (hpl : (backTo pos (starEach es X.env)).any (·.1) = false := by rfl) :
    PE X (.Call (.Name x p) (e :: es) [] pos) (tCall sp [] E0 t) := by
  obtain ⟨f, fd, ps, F, hm, kp, b⟩ := c.ex
  exact pe_call F (hr.mono hk) hg hm kp b .nil passL ha hdb he hpl
/-- within a try's body -/
theorem pe_cS (c : CalX X.prog X.w X.K X.mg X.base k x sp) (hr : Room j X.A) (hk : k ≤ j) (hg : Gl X x) (hx : ∀ σ, PassesAt (L2.CX X.prog X.w) X σ (E σ)) (ha : PA X (e :: es) t)
    (hdb : (x == ("__debug__" : Str)) = false := by decide) (he : starEach (e :: es) X.env = (false, eval e X.env) :: starEach es X.env := by rfl) (hpl : (backTo pos (starEach es X.env)).any (·.1) = false := by rfl) :
    PE X (.Call (.Name x p) (e :: es) [] pos) (tCallS sp E t) := by
  obtain ⟨f, fd, ps, F, hm, kp, b⟩ := c.ex
  exact pe_callS F (hr.mono hk) hg hm kp b hx ha hdb he hpl
def tCkS (sp : Sp) (n m : Nat) (gV : List V → List V → List V) (E : L2.St → XK) (t tk : TA) : TE := fun σ H Q => t σ H fun vs H1 => tk σ H1 fun zs H2 => vs.length = n ∧ zs.length = m ∧ sp (gV vs zs) H2 Q (E σ)
theorem run_ckS {pins : List (Addr × Obj)} {σ : L2.St} {H : Hp} {s : Shared} {Q : VK} {us ws : List Value} {vs zs : List V} {f : Addr} {fd : FuncData} {ps : List Str} {g : List Value → List Value → List Value} {E1 : XK}
    (F : FnOk X.prog X.w X.K X.mg X.base (L2.CX X.prog X.w) k f fd ps sp) (hr : Room k X.A)
    (to : ∀ (s : Shared) (us ws : List Value), X.K.In s.heap → us.length = n → ws.length = ks.length → BindsTo s fd ⟨us, ks.zip ws⟩ (ps.zip (g us ws)))
    (rel : ∀ {vs : List V} {us : List Value} {zs : List V} {ws : List Value}, Vals vs us → Vals zs ws → Vals (gV vs zs) (g us ws)) (hx : PassesAt (L2.CX X.prog X.w) X σ E1)
    (I : Inv X pins σ H s) (r : Vals vs us) (rz : Vals zs ws) (l1 : vs.length = n) (l2 : zs.length = ks.length) (h : sp (gV vs zs) H Q E1) : wpAny (model X.prog X.w) X.A (call (.ref f) us (ks.zip ws)) (EP X pins σ Q) X.xe s := by
  have r2 := rel r rz
  refine wpAny_call (codeAny_mono (F.run X.A X.stack s H ⟨us, ks.zip ws⟩ (g us ws) (gV vs zs) Q E1 hr I.env0 (to s us ws I.kIn (by rw [← r.length]; exact l1) (by rw [← rz.length]; exact l2)) r2 h) fun r s' hq => ?_)
  cases r with
  | error e => exact hx pins H s e s' I hq
  | ok fl =>
    cases fl with
    | ret u => exact I.after hq
    | next => exact False.elim hq
    | brk => exact False.elim hq
    | cont => exact False.elim hq
theorem pe_ck0S (c : KCalX X.prog X.w X.K X.mg X.base k x sp 0 ks gV) (hr : Room j X.A) (hk : k ≤ j) (hg : Gl X x) (hx : ∀ σ, PassesAt (L2.CX X.prog X.w) X σ (E σ)) (hkw : PK X kws tk)
    (hall : (backToKw pos (keywordEach kws X.env)).all (·.1.isSome) = true := by rfl) (hks : (backToKw pos (keywordEach kws X.env)).filterMap (·.1) = ks := by rfl) (hdb : (x == ("__debug__" : Str)) = false := by decide)
    (hpl : ((backTo pos (starEach [] X.env)).any (·.1) || (backToKw pos (keywordEach kws X.env)).any (·.1.isNone)) = false := by rfl) :
    PE X (.Call (.Name x p) [] kws pos) (tCkS sp 0 ks.length gV E tNil tk) := by
  obtain ⟨f, fd, ps, g, F, hm, kp, to, rel⟩ := c.ex
  refine ⟨fun pins s σ H Q I h => ?_⟩
  refine wpAny_Call_Name_kw (ld_glob I hg hm ?_ hdb)
  refine PySem.W.callWith_KW0 (h₀ := X.base) I.ok.mod.kin kp hall ?_ hpl
  refine thn (hkw.run pos pins s σ H _ I h) fun ws s2 ⟨zs, H2, I2, rz, l1, l2, q2⟩ => ⟨I2.kIn, ?_⟩
  rw [hks]
  exact run_ckS (us := []) (vs := []) F (hr.mono hk) to rel (hx σ) I2 .nil rz rfl l2 q2
theorem pe_ck0X (c : KCalX X.prog X.w X.K X.mg X.base k x sp 0 ks gV) (hr : Room j X.A) (hk : k ≤ j) (hg : Gl X x) (hkw : PK X kws tk)
    (hall : (backToKw pos (keywordEach kws X.env)).all (·.1.isSome) = true := by rfl) (hks : (backToKw pos (keywordEach kws X.env)).filterMap (·.1) = ks := by rfl) (hdb : (x == ("__debug__" : Str)) = false := by decide)
    (hpl : ((backTo pos (starEach [] X.env)).any (·.1) || (backToKw pos (keywordEach kws X.env)).any (·.1.isNone)) = false := by rfl) :
    PE X (.Call (.Name x p) [] kws pos) (tCkS sp 0 ks.length gV (fun _ => E0) tNil tk) := by
  exact pe_ck0S c hr hk hg (fun σ pins H s e s' I h => passL pins σ H s e s' I h) hkw hall hks hdb hpl
end
/-! ### classes of errors: what the top has written of them -/
/-- a class that stands in an except clause or behind isinstance -/
structure ClsF (K : PySem.W.Frag) (C : Addr) : Prop where
  i : PySem.W.isClsIn K C = true
  t : PySem.W.typeIn K (.ref C) = some (.type "type")
theorem kit_of_sub {K : PySem.W.Frag} {t : Value} {C : Addr} {b : Bool} (c : ClsF K C) (s : PySem.W.subIn K t (.ref C) = some b) (n : (t == Value.ref C) = false) : PySem.W.kitOne K t (.ref C) = some b := by
  have e2 : ((PySem.W.clsIn K C).isSome && PySem.W.typeIn K (.ref C) == some (.type "type")) = true := by
    rw [show (PySem.W.clsIn K C).isSome = true from c.i, c.t] <;> rfl
  show (if (t == Value.ref C) = true then some true else if ((PySem.W.clsIn K C).isSome && PySem.W.typeIn K (.ref C) == some (.type "type")) = true then PySem.W.subIn K t (.ref C) else none) = some b
  rw [if_neg (by rw [n]; exact Bool.false_ne_true), if_pos e2]
  exact s
theorem kit_self {K : PySem.W.Frag} {C : Addr} : PySem.W.kitOne K (.ref C) (.ref C) = some true := by
  show (if (Value.ref C == Value.ref C) = true then some true else _) = some true
  rw [if_pos (by simp)]
theorem kit_none {K : PySem.W.Frag} {C : Addr} (c : ClsF K C) (s : PySem.W.subIn K (.type "NoneType") (.ref C) = some false) : PySem.W.kitOne K (.type "NoneType") (.ref C) = some false := kit_of_sub c s rfl
theorem exm_of_sub {K : PySem.W.Frag} {t : Value} {C : Addr} {b : Bool} (c : ClsF K C) (be : PySem.W.subIn K (.ref C) (.type "BaseException") = some true) (s : PySem.W.subIn K t (.ref C) = some b) : PySem.W.exmOne K t (.ref C) = some b := by
  have e2 : ((PySem.W.clsIn K C).isSome && PySem.W.typeIn K (.ref C) == some (.type "type")) = true := by
    rw [show (PySem.W.clsIn K C).isSome = true from c.i, c.t] <;> rfl
  have e1 : (PySem.W.subIn K (.ref C) (.type "BaseException") == some true) = true := by rw [be] <;> rfl
  show (if (PySem.W.subIn K (.ref C) (.type "BaseException") == some true) = true then (if ((PySem.W.clsIn K C).isSome && PySem.W.typeIn K (.ref C) == some (.type "type")) = true then PySem.W.subIn K t (.ref C) else none) else none) = some b
  rw [if_pos e1, if_pos e2]
  exact s
end My

/-! ### own exception classes with an __init__: made by a keyword -/
namespace My
open PySem PySem.W PySem.Calls PyProof.Rows PySem.HandSPX
section
variable {M : Model} {A : Around} {E : Value → Shared → Prop} {h : Heap} {g : Array GenState} {d : Drawn} {t : Nat} {os : OsState}
variable {nm q : Str} {C N : Addr} {bs bm bmB : List Value} {hdct : Bool} {sn : List Str} {sub : List Value} {ab : Bool} {col : Option Bool} {dd : Option Addr} {k0 k1 k2 k3 k5 : Option Value} {B newId initId : String} {kn : Str} {kv : Value}
theorem check_new_ownK (F : ExcBaseFacts B newId initId bmB) (hT : ∀ X : String, bm.contains (.type X) = bmB.contains (.type X)) {rest : List Value} {Q : Unit → Shared → Prop}
    (hC : h.get? C = some (excClassObj nm q C N bs bm hdct sn sub ab col dd k0 k1 k2 k3 k5 newId)) (hq : Q () ⟨h, g, d, t, os⟩) : wpAny M A (checkBuiltinCall newId ⟨.ref C :: rest, [(kn, kv)]⟩) Q E ⟨h, g, d, t, os⟩ := by
  have hcont : (Value.ref C :: bm).contains (.type B) = true := by rw [List.contains_cons, hT, F.hasB, Bool.or_true]
  have hstar := F.noStar
  simp only [checkBuiltinCall, F.newKind, F.newSplit, F.newRow]
  repeat (first | refine wpAny_loadPart_at hC ?_ | (refine wpAny_isSubtype_exc hC ?_; rw [hcont]) | refine wpAny_staticBase_exc hC ?_ | refine wpAny_madeBy_exc hC ?_ | simp only [bne_self_eq_false, Bool.false_eq_true, if_false] | wp_step)
  exact hq
end
section
variable {prog : Program} {w : World} {A : Around} {E : Value → Shared → Prop} {R : Result → Shared → Prop} {h : Heap} {g : Array GenState} {d : Drawn} {t : Nat} {os : OsState}
variable {nm q : Str} {C N : Addr} {bs bm bmB : List Value} {hdct : Bool} {sn : List Str} {sub : List Value} {ab : Bool} {col : Option Bool} {dd : Option Addr} {k0 k1 k2 k3 k5 : Option Value} {B newId initId : String} {kn : Str} {kv : Value}
theorem new_ownK (F : ExcBaseFacts B newId initId bmB) (hT : ∀ X : String, bm.contains (.type X) = bmB.contains (.type X)) {rest : List Value}
    (hC : h.get? C = some (excClassObj nm q C N bs bm hdct sn sub ab col dd k0 k1 k2 k3 k5 newId))
    (hq : R (.ok (.ret (.ref (h.objs.size + 1)))) ⟨(h.push { cls := .type "tuple", data := .seq rest.toArray }).push
      { cls := .ref C, data := .fields #[.ref h.objs.size, .none, .none, .none, .bool false, .none] }, g, d, t, os⟩) (hrest : rest.length ≤ sizeLine) :
    codeAny (model prog w) A (.builtin newId ⟨.ref C :: rest, [(kn, kv)]⟩) R ⟨h, g, d, t, os⟩ := by
  have hends := F.ends
  have hcB : (Value.ref C :: bm).contains (.type B) = true := by rw [List.contains_cons, hT, F.hasB, Bool.or_true]
  have hcA : (Value.ref C :: bm).contains (.type "AttributeError") = false := by rw [List.contains_cons, hT, F.noAttr]; rfl
  have hcN : (Value.ref C :: bm).contains (.type "NameError") = false := by rw [List.contains_cons, hT, F.noName]; rfl
  refine codeAny_builtinAt F.entry ?_
  unfold Builtin.«BaseException.__new__»
  refine PySem.wpAt_bind ?_
  show PySem.wpAt _ _ _ (stack >>= _) _ _ _
  refine PySem.wpAt_bind (PySem.wpAt_stack fun p below => PySem.wpAt_of_wpAny ?_)
  wp_walk
  refine PySem.wpAt_of_wpAny ?_
  rw [F.owner]
  repeat (first | with_reducible refine wpAny_madeHere_exc F.canon hC ?_ | with_reducible refine wpAny_loadPart_at hC ?_ | (with_reducible refine wpAny_isSubtype_exc hC ?_; first | rw [hcB] | rw [hcA] | rw [hcN]) | wp_step)
  show R _ _
  rw [Heap.size_push]
  exact hq
theorem type_call_ownK (F : ExcBaseFacts B newId initId bmB) (hT : ∀ X : String, bm.contains (.type X) = bmB.contains (.type X)) {rest : List Value} {fI : Addr} {Q : Fin → Shared → Prop}
    (hC : h.get? C = some (excClassObj nm q C N bs bm hdct sn sub ab col dd k0 k1 k2 k3 k5 newId))
    (hi : W.Looks (model prog w) h (typeLookup (.ref C) "__init__") (some (.ref fI))) (hb : ∀ self, W.Looks (model prog w) h (bindSpecial (.ref fI) self) (.ref fI, [self])) (hrest : rest.length ≤ sizeLine)
    (hq : codeAny (model prog w) A (.call (.ref fI) ⟨.ref (h.objs.size + 1) :: rest, [(kn, kv)]⟩)
      (fun r s' => match r with | .ok (.ret v) => v = .none ∧ Q (.done (.ret (.ref (h.objs.size + 1)))) s' | .ok _ => False | .error e => E e s')
      ⟨(h.push (W.kdv_tup rest)).push (excO C h.objs.size), g, d, t, os⟩) :
    wpAny (model prog w) A (Builtin.«type.__call__» ⟨.ref C :: rest, [(kn, kv)]⟩) Q E ⟨h, g, d, t, os⟩ := by
  repeat (first | with_reducible refine wpAny_loadPart_at hC ?_ | with_reducible refine wpAny_madeBy_exc hC ?_ | wp_step)
  refine codeAny_call_builtin_code (Code.quiet_builtin _ F.quiet) (check_new_ownK F hT hC ?_)
  refine new_ownK F hT hC ?_ hrest
  show wpAny _ _ _ _ _ _
  have k : ∀ b o, h.get? b = some o → ((h.push (W.kdv_tup rest)).push (excO C h.objs.size)).get? b = some o := fun b o e => Heap.get?_push_of_some _ (Heap.get?_push_of_some _ e)
  have hC₁ := k _ _ hC
  have hget : ((h.push (W.kdv_tup rest)).push (excO C h.objs.size)).get? (h.objs.size + 1) = some (excO C h.objs.size) := by heap_get
  have hcC : (Value.ref C :: bm).contains (.ref C) = true := by simp
  have i1 := hi.keeps k
  have b1 := (hb (.ref (h.objs.size + 1))).keeps k
  unfold isInstance
  repeat (first | with_reducible refine wpAny_loadPart_at hget ?_ | (with_reducible refine wpAny_isSubtype_exc hC₁ ?_; rw [hcC]) | wp_step)
  show wpAny _ _ (typeLookup (.ref C) _) _ _ _
  refine i1.at ?_
  refine wpAny_holding (wpAny_bind (b1.at ?_))
  refine wpAny_bind (wpAny_call (codeAny_mono hq fun r s' z => ?_))
  rcases r with e | (v | _ | _ | _) <;> first | exact z | exact z.elim | skip
  obtain ⟨rfl, z⟩ := z
  first
    | exact wpAny_pure (wpAny_pure z)
    | (wp_walk; exact z)
theorem check_type_call_subK {M : Model} {rest : List Value} {E : Value → Shared → Prop} {Q : Unit → Shared → Prop} (hC : h.get? C = some (excClassObj nm q C N bs bm hdct sn sub ab col dd k0 k1 k2 k3 k5 newId))
    (hq : Q () ⟨h, g, d, t, os⟩) : wpAny M A (checkBuiltinCall "type.__call__" ⟨.ref C :: rest, [(kn, kv)]⟩) Q E ⟨h, g, d, t, os⟩ := by
  have f3 := tc_sub
  have hT : (⟨h, g, d, t, os⟩ : Shared).TypeIs (.ref C) "type" := ⟨_, hC, rfl⟩
  simp only [checkBuiltinCall, tc_kind, tc_split]
  repeat (any_goals (first | assumption | with_reducible refine wpAny_loadPart_at hC ?_ | with_reducible refine wpAny_onRaise ?_ | with_reducible refine wpAny_map ?_ | wp_step))
theorem call_ownK (F : ExcBaseFacts B newId initId bmB) (hT : ∀ X : String, bm.contains (.type X) = bmB.contains (.type X)) {rest : List Value} {fI : Addr}
    (hC : h.get? C = some (excClassObj nm q C N bs bm hdct sn sub ab col dd k0 k1 k2 k3 k5 newId))
    (hi : W.Looks (model prog w) h (typeLookup (.ref C) "__init__") (some (.ref fI))) (hb : ∀ self, W.Looks (model prog w) h (bindSpecial (.ref fI) self) (.ref fI, [self])) (hrest : rest.length ≤ sizeLine)
    (hq : codeAny (model prog w) (A.under (.builtin "type.__call__" ⟨.ref C :: rest, [(kn, kv)]⟩)) (.call (.ref fI) ⟨.ref (h.objs.size + 1) :: rest, [(kn, kv)]⟩) (W.InitBack (h.objs.size + 1) R)
      ⟨(h.push (W.kdv_tup rest)).push (excO C h.objs.size), g, d, t, os⟩) :
    codeAny (model prog w) A (.call (.ref C) ⟨rest, [(kn, kv)]⟩) R ⟨h, g, d, t, os⟩ := by
  have f1 := tc_lookup
  have f2 := tc_bind (.ref C)
  have hTy : (⟨h, g, d, t, os⟩ : Shared).TypeIs (.ref C) "type" := ⟨_, hC, rfl⟩
  refine codeAny_of_tree ?_
  show wpAny _ _ (callAny (.ref C) _) _ _ _
  repeat (any_goals (first | assumption | with_reducible refine wpAny_loadPart_at hC ?_ | wp_step))
  refine ⟨rfl, ?_⟩
  refine codeAny_call_builtin_at (Code.quiet_builtin _ (by decide +kernel)) entry_typeCall (check_type_call_subK hC (type_call_ownK F hT hC hi hb hrest ?_))
  refine codeAny_mono hq fun r s' z => ?_
  rcases r with e | (v | _ | _ | _) <;> exact z
end
end My

namespace My
open PySem PySem.Spec PyProof.Rows L2
/-- K(self, ..) of an own class whose __init__ is a builtin's -/
structure Ini (K : PySem.W.Frag) (R : Addr) : Prop where
  r : PySem.W.readsIn (mc := .type "type") K R = true
  f : PySem.W.findCls K (.ref R) (.type "type") "__init__" = some (.val (.builtin "ValueError.__init__"))
  g : PySem.W.specialIn K (.ref R) "__getattribute__" = some (some (.builtin "type.__getattribute__"))
section
variable {X : Cx} {e : Expr} {es : List Expr} {ta : TA} {x : Str} {p p' p1 p2 pos : Pos}
theorem pe_reinit {R : Addr} {pl : Sem Bool} (hg : Gl X x) (hm : X.mg x = some (.ref R)) (hi : Ini X.K R) (ha : PA X (e :: es) ta)
    (hc : eval (.Call (.Attribute (.Name x p1) "__init__" p2) (e :: es) [] pos) X.env = (do
      let ov ← eval (.Name x p1) X.env
      standAt p2.atName
      let (f, first) ← holding [ov] (getMethod ov "__init__" pl)
      callWith pos f first (backTo pos (starEach (e :: es) X.env)) (backToKw pos (keywordEach [] X.env))) := by rfl)
    (hdb : (x == ("__debug__" : Str)) = false := by decide)
    (he : starEach (e :: es) X.env = (false, eval e X.env) :: starEach es X.env := by rfl) (hpl : (backTo pos (starEach es X.env)).any (·.1) = false := by rfl) :
    PE X (.Call (.Attribute (.Name x p1) "__init__" p2) (e :: es) [] pos) (tVeI X.K ta) := by
  refine ⟨fun pins s σ H Q I h => ?_⟩
  refine PySem.W.methodCall_KW (ld_glob I hg hm ?_ hdb) hc
  refine PySem.W.method_cls I.kIn hi.g ?_
  refine PySem.W.cls_value I.kIn hi.r hi.f (by decide +kernel) ?_
  show wpAny _ _ (callWith pos (Value.builtin "ValueError.__init__") [] (backTo pos (starEach (e :: es) X.env)) []) _ _ _
  refine PyProof.Rows.callWith_method1 (thn (ha.run pos pins _ σ H _ (I.tok _) h) fun us s1 ⟨vs, H1, I1, r1, a, C, ws, ev, hl, T, ea, q⟩ => ?_) he hpl
  subst ev
  cases r1 with
  | @cons _ u0 _ ur ra rw' =>
    obtain rfl : u0 = Value.ref a := ra
    have hlen : ur.length ≤ sizeLine := by
      rw [← Paired.length rw', sizeLine_eq]
      omega
    exact oinit_ok T I1 ea hlen fun s' J => ⟨.non, H1, J, rfl, q⟩
/-- what is left of C(..), C's own __init__ kept sp: all from sp's answer on -/
def MkEnd (C : Addr) (H1 : Hp) (a : Addr) (Q : XK) : VK := fun v H2 => v = .non ∧ ∃ (d : Addr) (fs : List (Str × V)), H2 a = some (exo a C (some d)) ∧ H2 d = some (exd d fs) ∧ H1 d = none ∧ Q (.ref C) (some d) (upd (del H2 a) d (.xd fs))
theorem pmk_oex0 {CX : CXT} {x : Str} {C fI : Addr} {k : Nat} {fd : FuncData} {ps : List Str} {sp : Sp} {ds : List Value} {dvs : List V} (T : OexC X.K C) (iC : PySem.W.findIn X.K (.ref C) "__init__" = some (some (.ref fI))) (tI : PySem.W.typeIn X.K (.ref fI) = some (.type "function"))
    (F1 : FnOk X.prog X.w X.K X.mg X.base CX k fI fd ps sp) (hr : Room (k + 1) X.A) (hb : Binds X.K fd ps ds) (hd : Vals dvs ds) (hx : Passes CX X (fun _ _ _ => False)) (hg : Gl X x) (hm : X.mg x = some (.ref C))
    (hdb : (x == ("__debug__" : Str)) = false := by decide) :
    PMk X (.Call (.Name x p) [] [] pos) (fun _ H1 Q => ∀ a, H1 a = none → sp (.ref a :: dvs) (upd H1 a (exo a C none)) (MkEnd C H1 a Q) (fun _ _ _ => False)) := by
  intro pins s σ H1 Q I1 q1
  obtain ⟨nm, q, N, bs, bm, sn, sub, ab, col, dd, k0, k1, k2, k3, k5, hC, hbm⟩ := T.cls
  refine wpAny_Call_Name_kw (ld_glob I1 hg hm ?_ hdb)
  refine PySem.W.callWith_K0 I1.kIn T.kC ?_
  show wpAny _ _ (call (.ref C) []) _ _ _
  obtain ⟨hp, g, dr, tk, os⟩ := s
  have hsz : hp.objs.size ≤ hp.objs.size + 1 := Nat.le_succ _
  have hn : H1 (hp.objs.size + 1) = none := I1.hok.fresh hsz
  have hq := q1 (hp.objs.size + 1) hn
  have kk : ∀ b o, hp.get? b = some o → ((hp.push (PySem.W.kdv_tup [])).push (PySem.HandSPX.excO C hp.objs.size)).get? b = some o := fun b o e => Heap.get?_push_of_some _ (Heap.get?_push_of_some _ e)
  have hget : ((hp.push (PySem.W.kdv_tup [])).push (PySem.HandSPX.excO C hp.objs.size)).get? (hp.objs.size + 1) = some (PySem.HandSPX.excO C hp.objs.size) := by heap_get
  have I2 : Inv X pins σ (upd H1 (hp.objs.size + 1) (exo (hp.objs.size + 1) C none)) ⟨(hp.push (PySem.W.kdv_tup [])).push (PySem.HandSPX.excO C hp.objs.size), g, dr, tk, os⟩ :=
    I1.laid (t' := tk) (a := hp.objs.size + 1) (o := exo (hp.objs.size + 1) C none) (h' := (hp.push (PySem.W.kdv_tup [])).push (PySem.HandSPX.excO C hp.objs.size)) kk hsz (exo_ok hget)
  have r2 : Vals (V.ref (hp.objs.size + 1) :: dvs) (Value.ref (hp.objs.size + 1) :: ds) := .cons rfl hd
  have hl : (Value.ref (hp.objs.size + 1) :: [] ++ ds).length = ps.length := by
    have e := r2.length
    rw [F1.len _ _ _ _ hq] at e
    exact e.symm
  refine wpAny_call (PySem.HandSPX.call_own F.excBase_ValueError (fun Y => PySem.HandSPX.refsVE_contains Y bm hbm) (I1.kIn _ _ hC) (PySem.W.looks_findIn I1.kIn iC) (fun self => PySem.W.bind_fn I1.kIn self tI) (Nat.zero_le _)
    (codeAny_mono (F1.run _ X.stack _ _ ⟨[Value.ref (hp.objs.size + 1)], []⟩ (Value.ref (hp.objs.size + 1) :: ds) _ _ (fun _ _ _ => False) (hr.make C [] []) (I2.env0.make C [] []) (hb _ [Value.ref (hp.objs.size + 1)] I2.kIn hl) r2 hq) fun r s' hq' => ?_))
  cases r with
  | error er => exact hx pins σ _ _ er s' I2 hq'
  | ok fl =>
    cases fl with
    | ret u =>
      obtain ⟨v, H2, os2, bare2, un2, hok2, rv, ev, d, fs, ea, ed, hd1, q2⟩ := hq'
      subst ev
      obtain ⟨h2, g2, d2, t2, os'⟩ := s'
      exact ⟨rv, mk_end (raises_own T.exC T.tyC) I1 hsz kk un2 hok2 os2 bare2 ea ed hd1 q2⟩
    | next => exact False.elim hq'
    | brk => exact False.elim hq'
    | cont => exact False.elim hq'
theorem pmk_oexK {CX : CXT} {x kn : Str} {C fI : Addr} {k : Nat} {fd : FuncData} {ps : List Str} {sp : Sp} {kws : List Keyword} {tk : TA} {R : V → Hp → XK → Prop} (T : OexC X.K C) (iC : PySem.W.findIn X.K (.ref C) "__init__" = some (some (.ref fI))) (tI : PySem.W.typeIn X.K (.ref fI) = some (.type "function"))
    (F1 : FnOk X.prog X.w X.K X.mg X.base CX k fI fd ps sp) (hr : Room (k + 1) X.A) (hb : ∀ (s : Shared) (u v : Value), X.K.In s.heap → BindsTo s fd ⟨[u], [(kn, v)]⟩ (ps.zip [u, v])) (hx : Passes CX X (fun _ _ _ => False)) (hR : ∀ z H1 Q, R z H1 Q → ∀ a, H1 a = none → sp [.ref a, z] (upd H1 a (exo a C none)) (MkEnd C H1 a Q) (fun _ _ _ => False)) (hg : Gl X x) (hm : X.mg x = some (.ref C))
    (hkw : PK X kws tk) (hall : (backToKw pos (keywordEach kws X.env)).all (·.1.isSome) = true := by rfl) (hks : (backToKw pos (keywordEach kws X.env)).filterMap (·.1) = [kn] := by rfl) (hdb : (x == ("__debug__" : Str)) = false := by decide)
    (hpl : ((backTo pos (starEach [] X.env)).any (·.1) || (backToKw pos (keywordEach kws X.env)).any (·.1.isNone)) = false := by rfl) :
    PMk X (.Call (.Name x p) [] kws pos) (fun σ H Q => tk σ H fun zs H1 => ∃ z, zs = [z] ∧ R z H1 Q) := by
  intro pins s0 σ H0 Q I0 q0
  obtain ⟨nm, q, N, bs, bm, sn, sub, ab, col, dd, k0, k1, k2, k3, k5, hC, hbm⟩ := T.cls
  refine wpAny_Call_Name_kw (ld_glob I0 hg hm ?_ hdb)
  refine PySem.W.callWith_KW0 (h₀ := X.base) I0.ok.mod.kin T.kC hall ?_ hpl
  refine thn (hkw.run pos pins s0 σ H0 _ I0 q0) fun ws s ⟨zs, H1, I1, rz, z, ez, q1⟩ => ⟨I1.kIn, ?_⟩
  subst ez
  have q1 := hR z H1 Q q1
  cases rz with
  | @cons _ u _ ur ru rn =>
  cases rn
  rw [hks]
  show wpAny _ _ (call (.ref C) [] [(kn, u)]) _ _ _
  obtain ⟨hp, g, dr, tk, os⟩ := s
  have hsz : hp.objs.size ≤ hp.objs.size + 1 := Nat.le_succ _
  have hn : H1 (hp.objs.size + 1) = none := I1.hok.fresh hsz
  have hq := q1 (hp.objs.size + 1) hn
  have kk : ∀ b o, hp.get? b = some o → ((hp.push (PySem.W.kdv_tup [])).push (PySem.HandSPX.excO C hp.objs.size)).get? b = some o := fun b o e => Heap.get?_push_of_some _ (Heap.get?_push_of_some _ e)
  have hget : ((hp.push (PySem.W.kdv_tup [])).push (PySem.HandSPX.excO C hp.objs.size)).get? (hp.objs.size + 1) = some (PySem.HandSPX.excO C hp.objs.size) := by heap_get
  have I2 : Inv X pins σ (upd H1 (hp.objs.size + 1) (exo (hp.objs.size + 1) C none)) ⟨(hp.push (PySem.W.kdv_tup [])).push (PySem.HandSPX.excO C hp.objs.size), g, dr, tk, os⟩ :=
    I1.laid (t' := tk) (a := hp.objs.size + 1) (o := exo (hp.objs.size + 1) C none) (h' := (hp.push (PySem.W.kdv_tup [])).push (PySem.HandSPX.excO C hp.objs.size)) kk hsz (exo_ok hget)
  have r2 : Vals [V.ref (hp.objs.size + 1), z] [Value.ref (hp.objs.size + 1), u] := .cons rfl (.cons ru .nil)
  refine wpAny_call (call_ownK F.excBase_ValueError (fun Y => PySem.HandSPX.refsVE_contains Y bm hbm) (I1.kIn _ _ hC) (PySem.W.looks_findIn I1.kIn iC) (fun self => PySem.W.bind_fn I1.kIn self tI) (Nat.zero_le _)
    (codeAny_mono (F1.run _ X.stack _ _ ⟨[Value.ref (hp.objs.size + 1)], [(kn, u)]⟩ [Value.ref (hp.objs.size + 1), u] _ _ (fun _ _ _ => False) (hr.make C [] [(kn, u)]) (I2.env0.make C [] [(kn, u)]) (hb _ _ _ I2.kIn) r2 hq) fun r s' hq' => ?_))
  cases r with
  | error er => exact hx pins σ _ _ er s' I2 hq'
  | ok fl =>
    cases fl with
    | ret u =>
      obtain ⟨v, H2, os2, bare2, un2, hok2, rv, ev, d, fs, ea, ed, hd1, q2⟩ := hq'
      subst ev
      obtain ⟨h2, g2, d2, t2, os'⟩ := s'
      exact ⟨rv, mk_end (raises_own T.exC T.tyC) I1 hsz kk un2 hok2 os2 bare2 ea ed hd1 q2⟩
    | next => exact False.elim hq'
    | brk => exact False.elim hq'
    | cont => exact False.elim hq'
end
end My

namespace My
open PySem PySem.Spec PyProof.Rows L2
/-- C.__init__(self, v): the base's __init__, self.kn = v -/
def sp_Ini (K : PySem.W.Frag) (kn : Str) : Sp := fun vs H Q _ => ∃ (a C : Addr) (v : V), vs = [.ref a, v] ∧ OexC K C ∧ PySem.W.findIn K (.ref C) kn = some none ∧ H a = some (exo a C none) ∧
  ∀ dx, H dx = none → dx ≠ a → Q .non (upd (upd H dx (exd dx [(kn, v)])) a (exo a C (some dx)))
structure IniCal (P : Program) (w : World) (K : PySem.W.Frag) (mg : Str → Option Value) (base : Heap) (k : Nat) (x : Str) (C : Addr) (kn : Str) (dv : V) : Prop where
  oex : OexC K C
  hm : mg x = some (.ref C)
  no : PySem.W.findIn K (.ref C) kn = some none
  ex : ∃ (fI : Addr) (fd : FuncData) (ps : List Str) (ds : List Value), FnOk P w K mg base CX0 k fI fd ps (sp_Ini K kn) ∧ PySem.W.findIn K (.ref C) "__init__" = some (some (.ref fI)) ∧ PySem.W.typeIn K (.ref fI) = some (.type "function") ∧ Binds K fd ps ds ∧ Vals [dv] ds ∧
    ∀ (s : Shared) (u v : Value), K.In s.heap → BindsTo s fd ⟨[u], [(kn, v)]⟩ (ps.zip [u, v])
section
variable {X : Cx} {x kn : Str} {C : Addr} {k j : Nat} {dv : V} {kws : List Keyword} {tk : TA} {p pos : Pos}
theorem ini_end {K : PySem.W.Frag} {H1 : Hp} {a : Addr} {z : V} {Q : XK} {E : XK} (o : OexC K C) (no : PySem.W.findIn K (.ref C) kn = some none) (ha : H1 a = none) (q : ∀ d H', Same H1 H' → H1 d = none → H' d = some (.xd [(kn, z)]) → Q (.ref C) (some d) H') :
    sp_Ini K kn [.ref a, z] (upd H1 a (exo a C none)) (MkEnd C H1 a Q) E := by
  refine ⟨a, C, z, rfl, o, no, upd_same, fun dx n ne => ⟨rfl, dx, [(kn, z)], upd_same, ?_, ?_, ?_⟩⟩
  · rw [upd_ne ne, upd_same]
  · rw [upd_ne ne] at n; exact n
  · rw [upd_ne ne] at n
    refine q dx _ (fun b u hb => ?_) n upd_same
    rw [upd_ne (ne_of_none hb n), del_ne (ne_of_none hb ha), upd_ne (ne_of_none hb ha), upd_ne (ne_of_none hb n), upd_ne (ne_of_none hb ha)]
    exact hb
/-- C() -/
theorem pmk_np0 (c : IniCal X.prog X.w X.K X.mg X.base k x C kn dv) (hr : Room j X.A) (hk : k + 1 ≤ j) (hg : Gl X x) (hdb : (x == ("__debug__" : Str)) = false := by decide) :
    PMk X (.Call (.Name x p) [] [] pos) (fun _ H Q => ∀ d H', Same H H' → H d = none → H' d = some (.xd [(kn, dv)]) → Q (.ref C) (some d) H') := by
  obtain ⟨fI, fd, ps, ds, F, i, t, b, v, _⟩ := c.ex
  intro pins s σ H Q I q
  exact pmk_oex0 c.oex i t F (hr.mono hk) b v pass0 hg c.hm hdb pins s σ H Q I fun a ha => ini_end c.oex c.no ha q
/-- C(kn=e) -/
theorem pmk_npK (c : IniCal X.prog X.w X.K X.mg X.base k x C kn dv) (hr : Room j X.A) (hk : k + 1 ≤ j) (hg : Gl X x) (hkw : PK X kws tk)
    (hall : (backToKw pos (keywordEach kws X.env)).all (·.1.isSome) = true := by rfl) (hks : (backToKw pos (keywordEach kws X.env)).filterMap (·.1) = [kn] := by rfl) (hdb : (x == ("__debug__" : Str)) = false := by decide)
    (hpl : ((backTo pos (starEach [] X.env)).any (·.1) || (backToKw pos (keywordEach kws X.env)).any (·.1.isNone)) = false := by rfl) :
    PMk X (.Call (.Name x p) [] kws pos) (fun σ H Q => tk σ H fun zs H1 => ∃ z, zs = [z] ∧ ∀ d H', Same H1 H' → H1 d = none → H' d = some (.xd [(kn, z)]) → Q (.ref C) (some d) H') := by
  obtain ⟨fI, fd, ps, ds, F, i, t, b, v, bk⟩ := c.ex
  exact pmk_oexK c.oex i t F (hr.mono hk) bk pass0 (fun z H1 Q q a ha => ini_end c.oex c.no ha q) hg c.hm hkw hall hks hdb hpl
end
end My

/-! ### fractions, in plain Lean -/
namespace My
/-- the lowest form of a fraction: what its top and its bottom become -/
def sg (b : Int) : Int := if b < 0 then -1 else 1
def shr (t b : Int) : Int := sg b * (Int.gcd t b : Nat)
def lowT (t b : Int) : Int := t.fdiv (shr t b)
def lowB (t b : Int) : Int := b.fdiv (shr t b)
theorem gcd_pos {t b : Int} (hb : b ≠ 0) : 0 < Int.gcd t b := Int.gcd_pos_of_ne_zero_right t hb
theorem sg_sq (b : Int) : sg b * sg b = 1 := by unfold sg; split <;> rfl
theorem shr_ne {t b : Int} (hb : b ≠ 0) : shr t b ≠ 0 := by
  have h := gcd_pos (t := t) hb
  unfold shr sg
  split <;> omega
theorem shr_dvd_t (t b : Int) : shr t b ∣ t := by
  unfold shr sg
  split
  · rw [Int.neg_mul, Int.one_mul, Int.neg_dvd]; exact Int.gcd_dvd_left t b
  · rw [Int.one_mul]; exact Int.gcd_dvd_left t b
theorem shr_dvd_b (t b : Int) : shr t b ∣ b := by
  unfold shr sg
  split
  · rw [Int.neg_mul, Int.one_mul, Int.neg_dvd]; exact Int.gcd_dvd_right t b
  · rw [Int.one_mul]; exact Int.gcd_dvd_right t b
theorem low_t {t b : Int} (hb : b ≠ 0) : lowT t b * shr t b = t := by
  unfold lowT
  rw [Int.fdiv_eq_ediv_of_dvd (shr_dvd_t t b)]
  exact Int.ediv_mul_cancel (shr_dvd_t t b)
theorem low_b {t b : Int} (hb : b ≠ 0) : lowB t b * shr t b = b := by
  unfold lowB
  rw [Int.fdiv_eq_ediv_of_dvd (shr_dvd_b t b)]
  exact Int.ediv_mul_cancel (shr_dvd_b t b)
theorem shr_abs {t b : Int} : (shr t b).natAbs = Int.gcd t b := by
  unfold shr sg
  split <;> simp
theorem lowB_pos {t b : Int} (hb : b ≠ 0) : 0 < lowB t b := by
  have h := low_b (t := t) hb
  have g := gcd_pos (t := t) hb
  unfold shr sg at h
  split at h
  · rename_i hneg
    rcases Int.lt_trichotomy 0 (lowB t b) with h1 | h1 | h1
    · exact h1
    · rw [← h1] at h; simp at h; omega
    · exfalso
      have : 0 < lowB t b * (-1 * (Int.gcd t b : Int)) := by
        rw [Int.neg_mul, Int.one_mul]
        exact Int.mul_pos_of_neg_of_neg h1 (by omega)
      omega
  · rename_i hpos
    rcases Int.lt_trichotomy 0 (lowB t b) with h1 | h1 | h1
    · exact h1
    · rw [← h1] at h; simp at h; omega
    · exfalso
      have : lowB t b * (1 * (Int.gcd t b : Int)) < 0 := by
        rw [Int.one_mul]
        exact Int.mul_neg_of_neg_of_pos h1 (by omega)
      omega
theorem lowT_abs {t b : Int} (hb : b ≠ 0) : (lowT t b).natAbs ≤ t.natAbs := by
  have h := congrArg Int.natAbs (low_t (t := t) hb)
  rw [Int.natAbs_mul, shr_abs] at h
  have g := gcd_pos (t := t) hb
  rw [← h]
  exact Nat.le_mul_of_pos_right _ g
theorem lowB_abs {t b : Int} (hb : b ≠ 0) : (lowB t b).natAbs ≤ b.natAbs := by
  have h := congrArg Int.natAbs (low_b (t := t) hb)
  rw [Int.natAbs_mul, shr_abs] at h
  have g := gcd_pos (t := t) hb
  rw [← h]
  exact Nat.le_mul_of_pos_right _ g
theorem low_coprime {t b : Int} (hb : b ≠ 0) : Int.gcd (lowT t b) (lowB t b) = 1 := by
  have g := gcd_pos (t := t) hb
  have h : Int.gcd (lowT t b * shr t b) (lowB t b * shr t b) = Int.gcd t b := by rw [low_t hb, low_b hb]
  rw [Int.gcd_mul_right, shr_abs] at h
  exact Nat.eq_of_mul_eq_mul_right g (by omega)
theorem dvd_of_mul {a b d : Int} (g : Int.gcd a b = 1) (h : b ∣ a * d) : b ∣ d := by
  have h1 : b.natAbs ∣ a.natAbs * d.natAbs := by rw [← Int.natAbs_mul]; exact Int.natAbs_dvd_natAbs.mpr h
  have c : Nat.Coprime b.natAbs a.natAbs := by
    have g' : Nat.gcd a.natAbs b.natAbs = 1 := g
    show Nat.gcd b.natAbs a.natAbs = 1
    rw [Nat.gcd_comm]; exact g'
  exact Int.natAbs_dvd_natAbs.mp (c.dvd_of_dvd_mul_left h1)
/-- a lowest form is told by its worth -/
theorem lowest_eq {a b c d : Int} (hb : 0 < b) (hd : 0 < d) (g1 : Int.gcd a b = 1) (g2 : Int.gcd c d = 1) (h : a * d = c * b) : a = c ∧ b = d := by
  have e1 : b ∣ d := by
    have : b ∣ a * d := by rw [h]; exact Int.dvd_mul_left c b
    exact dvd_of_mul g1 this
  have e2 : d ∣ b := by
    have : d ∣ c * b := by rw [← h]; exact Int.dvd_mul_left a d
    exact dvd_of_mul g2 this
  have e : b = d := Int.dvd_antisymm (by omega) (by omega) e1 e2
  subst e
  exact ⟨Int.eq_of_mul_eq_mul_right (by omega) h, rfl⟩
theorem low_unique {t b c d : Int} (hb : b ≠ 0) (hd : 0 < d) (g : Int.gcd c d = 1) (h : t * d = c * b) : lowT t b = c ∧ lowB t b = d := by
  refine lowest_eq (lowB_pos hb) hd (low_coprime hb) g ?_
  have n := shr_ne (t := t) hb
  have h1 := low_t (t := t) hb
  have h2 := low_b (t := t) hb
  apply Int.eq_of_mul_eq_mul_right n
  calc lowT t b * d * shr t b = (lowT t b * shr t b) * d := by rw [Int.mul_right_comm]
    _ = t * d := by rw [h1]
    _ = c * b := h
    _ = c * (lowB t b * shr t b) := by rw [h2]
    _ = c * lowB t b * shr t b := by rw [Int.mul_assoc]
theorem low_congr {t b c d : Int} (hb : b ≠ 0) (hd : d ≠ 0) (h : t * d = c * b) : lowT t b = lowT c d ∧ lowB t b = lowB c d := by
  refine low_unique hb (lowB_pos hd) (low_coprime hd) ?_
  have n := shr_ne (t := c) hd
  apply Int.eq_of_mul_eq_mul_right n
  have h1 := low_t (t := c) hd
  have h2 := low_b (t := c) hd
  calc t * lowB c d * shr c d = t * (lowB c d * shr c d) := Int.mul_assoc _ _ _
    _ = t * d := by rw [h2]
    _ = c * b := h
    _ = (lowT c d * shr c d) * b := by rw [h1]
    _ = lowT c d * b * shr c d := by rw [Int.mul_right_comm]
theorem low_id {t b : Int} (hb : 0 < b) (g : Int.gcd t b = 1) : lowT t b = t ∧ lowB t b = b := low_unique (by omega) hb g (by rw [])
end My

/-! ### bare parts and whole roots, in plain Lean -/
namespace My
/-- no square of 2 and more divides d -/
def SF (d : Nat) : Prop := ∀ p, 2 ≤ p → ¬ p * p ∣ d
def NoDiv (f r : Nat) : Prop := ∀ p, 2 ≤ p → p < f → ¬ p ∣ r
theorem sf_one : SF 1 := fun p hp h => by
  have := Nat.le_of_dvd (by decide) h
  have : 4 ≤ p * p := Nat.mul_le_mul hp hp
  omega
theorem sq_dvd_parts {p a b : Nat} (c : Nat.Coprime a b) (h : p * p ∣ a * b) : ∃ g k, p = g * k ∧ g * g ∣ a ∧ k * k ∣ b := by
  have h1 : p ∣ a * b := Nat.dvd_trans (Nat.dvd_mul_right p p) h
  have e : p = Nat.gcd p a * Nat.gcd p b := by
    rw [← Nat.Coprime.gcd_mul p c]
    exact (Nat.gcd_eq_left h1).symm
  refine ⟨Nat.gcd p a, Nat.gcd p b, e, ?_, ?_⟩
  · have c1 : Nat.Coprime (Nat.gcd p a * Nat.gcd p a) b := by
      have : Nat.Coprime (Nat.gcd p a) b := Nat.Coprime.coprime_dvd_left (Nat.gcd_dvd_right p a) c
      exact Nat.Coprime.mul_left this this
    have d1 : Nat.gcd p a * Nat.gcd p a ∣ a * b := Nat.dvd_trans (Nat.mul_dvd_mul (Nat.gcd_dvd_left p a) (Nat.gcd_dvd_left p a)) h
    exact c1.dvd_of_dvd_mul_right d1
  · have c1 : Nat.Coprime (Nat.gcd p b * Nat.gcd p b) a := by
      have : Nat.Coprime (Nat.gcd p b) a := Nat.Coprime.coprime_dvd_left (Nat.gcd_dvd_right p b) c.symm
      exact Nat.Coprime.mul_left this this
    have d1 : Nat.gcd p b * Nat.gcd p b ∣ a * b := Nat.dvd_trans (Nat.mul_dvd_mul (Nat.gcd_dvd_left p b) (Nat.gcd_dvd_left p b)) h
    exact c1.dvd_of_dvd_mul_left d1
theorem sf_mul {a b : Nat} (c : Nat.Coprime a b) (ha : SF a) (hb : SF b) : SF (a * b) := fun p hp h => by
  obtain ⟨g, k, e, hg, hk⟩ := sq_dvd_parts c h
  have g2 : g < 2 := Nat.lt_of_not_le fun z => ha g z hg
  have k2 : k < 2 := Nat.lt_of_not_le fun z => hb k z hk
  have : g * k ≤ 1 * 1 := Nat.mul_le_mul (by omega) (by omega)
  omega
/-- the state of the search: all below f is taken out of n -/
structure BI (n f found rest : Nat) : Prop where
  eq : ∃ k, n = found * rest * (k * k)
  sf : SF found
  co : Nat.Coprime found rest
  nd : NoDiv f rest
  r0 : 0 < rest
theorem bi_start {n : Nat} (h : 0 < n) : BI n 2 1 n := ⟨⟨1, by simp⟩, sf_one, Nat.coprime_one_left n, fun p h1 h2 => by omega, h⟩
theorem bi_sq {n f found rest : Nat} (hf : 2 ≤ f) (h : BI n f found rest) (d : f * f ∣ rest) : BI n f found (rest / (f * f)) := by
  obtain ⟨q, rfl⟩ := d
  have f0 : 0 < f * f := Nat.mul_pos (by omega) (by omega)
  rw [Nat.mul_div_cancel_left q f0]
  obtain ⟨k, hk⟩ := h.eq
  refine ⟨⟨k * f, ?_⟩, h.sf, Nat.Coprime.coprime_dvd_right (Nat.dvd_mul_left q (f * f)) h.co, fun p h1 h2 z => h.nd p h1 h2 (Nat.dvd_trans z (Nat.dvd_mul_left q (f * f))), ?_⟩
  · rw [hk]
    simp only [Nat.mul_assoc, Nat.mul_left_comm, Nat.mul_comm]
  · have := h.r0
    exact Nat.pos_of_mul_pos_left this
theorem nodiv_up {f r : Nat} (h : NoDiv f r) (d : ¬ f ∣ r) : NoDiv (f + 1) r := fun p h1 h2 => by
  by_cases e : p = f
  · rw [e]; exact d
  · exact h p h1 (by omega)
/-- what divides nothing below it has no square within -/
theorem sf_of_nodiv {f r : Nat} (_hf : 2 ≤ f) (h : NoDiv f r) (d : f ∣ r) : SF f := fun p hp z => by
  have p1 : p ∣ f := Nat.dvd_trans (Nat.dvd_mul_right p p) z
  have f0 : 0 < f := by omega
  have le : p * p ≤ f := Nat.le_of_dvd f0 z
  have lt : p < f := by
    have : p * 2 ≤ p * p := Nat.mul_le_mul_left p hp
    omega
  exact h p hp lt (Nat.dvd_trans p1 d)
theorem co_of_nodiv {f r q : Nat} (h : NoDiv f r) (hr : f ∣ r) (d : ¬ f ∣ q) (f0 : 0 < f) : Nat.Coprime f q := by
  have g1 : Nat.gcd f q ∣ f := Nat.gcd_dvd_left f q
  have g2 : Nat.gcd f q ∣ q := Nat.gcd_dvd_right f q
  have gp : 0 < Nat.gcd f q := Nat.gcd_pos_of_pos_left q f0
  show Nat.gcd f q = 1
  rcases Nat.lt_or_ge (Nat.gcd f q) 2 with l | l
  · omega
  · exfalso
    have le := Nat.le_of_dvd f0 g1
    rcases Nat.lt_or_ge (Nat.gcd f q) f with l2 | l2
    · exact h _ l l2 (Nat.dvd_trans g1 hr)
    · have : Nat.gcd f q = f := by omega
      exact d (this ▸ g2)
theorem bi_one {n f found rest : Nat} (hf : 2 ≤ f) (h : BI n f found rest) (d2 : ¬ f * f ∣ rest) (d : f ∣ rest) : BI n (f + 1) (found * f) (rest / f) := by
  obtain ⟨q, rfl⟩ := d
  have f0 : 0 < f := by omega
  rw [Nat.mul_div_cancel_left q f0]
  have nq : ¬ f ∣ q := fun z => d2 (Nat.mul_dvd_mul (Nat.dvd_refl f) z)
  obtain ⟨k, hk⟩ := h.eq
  have ndq : NoDiv f q := fun p h1 h2 z => h.nd p h1 h2 (Nat.dvd_trans z (Nat.dvd_mul_left q f))
  have cf : Nat.Coprime found f := Nat.Coprime.coprime_dvd_right (Nat.dvd_mul_right f q) h.co
  have cq : Nat.Coprime found q := Nat.Coprime.coprime_dvd_right (Nat.dvd_mul_left q f) h.co
  refine ⟨⟨k, ?_⟩, sf_mul cf h.sf (sf_of_nodiv hf h.nd (Nat.dvd_mul_right f q)), Nat.Coprime.mul_left cq (co_of_nodiv h.nd (Nat.dvd_mul_right f q) nq f0), nodiv_up ndq nq, ?_⟩
  · rw [hk]
    simp only [Nat.mul_assoc]
  · have := h.r0
    exact Nat.pos_of_mul_pos_left this
theorem bi_none {n f found rest : Nat} (h : BI n f found rest) (d : ¬ f ∣ rest) : BI n (f + 1) found rest := ⟨h.eq, h.sf, h.co, nodiv_up h.nd d, h.r0⟩
/-- the law's way: f is taken out one by one -/
structure BL (n f found many size : Nat) : Prop where
  eq : ∃ k, n = found * (if many % 2 = 1 then f else 1) * size * (k * k)
  sf : SF found
  co : Nat.Coprime found size
  nd : NoDiv f size
  r0 : 0 < size
  up : 0 < many → Nat.Coprime found f ∧ ∃ r, NoDiv f r ∧ f ∣ r
theorem bl_start {n f found rest : Nat} (h : BI n f found rest) : BL n f found 0 rest := by
  obtain ⟨k, hk⟩ := h.eq
  exact ⟨⟨k, by simpa using hk⟩, h.sf, h.co, h.nd, h.r0, fun z => absurd z (by decide)⟩
theorem bl_step {n f found many size : Nat} (hf : 2 ≤ f) (h : BL n f found many size) (d : f ∣ size) : BL n f found (many + 1) (size / f) := by
  obtain ⟨q, rfl⟩ := d
  have f0 : 0 < f := by omega
  rw [Nat.mul_div_cancel_left q f0]
  obtain ⟨k, hk⟩ := h.eq
  refine ⟨?_, h.sf, Nat.Coprime.coprime_dvd_right (Nat.dvd_mul_left q f) h.co, fun p h1 h2 z => h.nd p h1 h2 (Nat.dvd_trans z (Nat.dvd_mul_left q f)), Nat.pos_of_mul_pos_left h.r0, fun _ => ⟨Nat.Coprime.coprime_dvd_right (Nat.dvd_mul_right f q) h.co, f * q, h.nd, Nat.dvd_mul_right f q⟩⟩
  by_cases e : many % 2 = 1
  · refine ⟨k * f, ?_⟩
    rw [if_neg (by omega)]
    rw [if_pos e] at hk
    rw [hk]
    simp only [Nat.mul_assoc, Nat.mul_left_comm, Nat.mul_comm, Nat.mul_one, Nat.one_mul]
  · refine ⟨k, ?_⟩
    rw [if_pos (by omega)]
    rw [if_neg e] at hk
    rw [hk]
    simp only [Nat.mul_assoc, Nat.mul_one, Nat.one_mul]
theorem bl_end {n f found many size : Nat} (hf : 2 ≤ f) (h : BL n f found many size) (d : ¬ f ∣ size) : BI n (f + 1) (if many % 2 = 1 then found * f else found) size := by
  obtain ⟨k, hk⟩ := h.eq
  by_cases e : many % 2 = 1
  · rw [if_pos e]
    rw [if_pos e] at hk
    obtain ⟨cf, r, hr, hd⟩ := h.up (by omega)
    exact ⟨⟨k, hk⟩, sf_mul cf h.sf (sf_of_nodiv hf hr hd), Nat.Coprime.mul_left h.co (co_of_nodiv hr hd d (by omega)), nodiv_up h.nd d, h.r0⟩
  · rw [if_neg e]
    rw [if_neg e, Nat.mul_one] at hk
    exact ⟨⟨k, hk⟩, h.sf, h.co, nodiv_up h.nd d, h.r0⟩
theorem sf_rest {f r : Nat} (hf : 2 ≤ f) (nd : NoDiv f r) (r0 : 0 < r) (big : r < f * f * f) (ns : ¬ ∃ m, r = m * m) : SF r := fun p hp ⟨q, hq⟩ => by
  have p1 : p ∣ r := ⟨p * q, by rw [hq, Nat.mul_assoc]⟩
  have pf : f ≤ p := Nat.le_of_not_lt fun z => nd p hp z p1
  have q0 : 0 < q := by
    rcases Nat.eq_zero_or_pos q with z | z
    · rw [z] at hq; omega
    · exact z
  have qf : q < f := by
    refine Nat.lt_of_not_le fun z => ?_
    have a1 : f * f ≤ p * p := Nat.mul_le_mul pf pf
    have a2 : f * f * f ≤ p * p * q := Nat.mul_le_mul a1 z
    omega
  have q1 : q = 1 := by
    rcases Nat.lt_or_ge q 2 with l | l
    · omega
    · exact absurd ⟨p * p, by rw [hq, Nat.mul_comm]⟩ (nd q l qf)
  exact ns ⟨p, by rw [hq, q1, Nat.mul_one]⟩
/-- b is the bare part of n -/
def Bare (b n : Int) : Prop := b ≠ 0 ∧ SF b.natAbs ∧ ∃ k : Int, n = b * (k * k)
theorem bare_abs {n f found rest : Nat} (hf : 2 ≤ f) (h : BI n f found rest) (big : rest < f * f * f) : (∀ m, rest = m * m → SF found ∧ ∃ k, n = found * (k * k)) ∧ ((¬ ∃ m, rest = m * m) → SF (found * rest) ∧ ∃ k, n = found * rest * (k * k)) := by
  obtain ⟨k, hk⟩ := h.eq
  refine ⟨fun m hm => ⟨h.sf, m * k, ?_⟩, fun ns => ⟨sf_mul h.co h.sf (sf_rest hf h.nd h.r0 big ns), k, hk⟩⟩
  rw [hk, hm]
  simp only [Nat.mul_assoc, Nat.mul_left_comm, Nat.mul_comm]
theorem sq_abs (k : Int) : (k * k).natAbs = k.natAbs * k.natAbs := Int.natAbs_mul k k
theorem bare_unique {b c n : Int} (hn : n ≠ 0) (hb : Bare b n) (hc : Bare c n) : b = c := by
  obtain ⟨b0, sb, k, ek⟩ := hb
  obtain ⟨c0, sc, m, em⟩ := hc
  have hk : k ≠ 0 := fun z => hn (by rw [ek, z]; simp)
  have hm : m ≠ 0 := fun z => hn (by rw [em, z]; simp)
  have e : b.natAbs * (k.natAbs * k.natAbs) = c.natAbs * (m.natAbs * m.natAbs) := by
    rw [← sq_abs, ← sq_abs, ← Int.natAbs_mul, ← Int.natAbs_mul, ← ek, ← em]
  have abs_eq : b.natAbs = c.natAbs := by
    have g0 : 0 < Nat.gcd k.natAbs m.natAbs := Nat.gcd_pos_of_pos_left _ (Int.natAbs_pos.mpr hk)
    obtain ⟨k', m', co, e1, e2⟩ : ∃ k' m', Nat.Coprime k' m' ∧ k.natAbs = k' * Nat.gcd k.natAbs m.natAbs ∧ m.natAbs = m' * Nat.gcd k.natAbs m.natAbs :=
      ⟨k.natAbs / Nat.gcd k.natAbs m.natAbs, m.natAbs / Nat.gcd k.natAbs m.natAbs, Nat.coprime_div_gcd_div_gcd g0, (Nat.div_mul_cancel (Nat.gcd_dvd_left _ _)).symm, (Nat.div_mul_cancel (Nat.gcd_dvd_right _ _)).symm⟩
    generalize Nat.gcd k.natAbs m.natAbs = g at *
    rw [e1, e2] at e
    have e3 : b.natAbs * (k' * k') = c.natAbs * (m' * m') := by
      apply Nat.eq_of_mul_eq_mul_right (Nat.mul_pos g0 g0)
      calc b.natAbs * (k' * k') * (g * g) = b.natAbs * (k' * g * (k' * g)) := by simp only [Nat.mul_assoc, Nat.mul_left_comm, Nat.mul_comm]
        _ = c.natAbs * (m' * g * (m' * g)) := e
        _ = c.natAbs * (m' * m') * (g * g) := by simp only [Nat.mul_assoc, Nat.mul_left_comm, Nat.mul_comm]
    have cc : Nat.Coprime (k' * k') (m' * m') := Nat.Coprime.mul_left (Nat.Coprime.mul_right co co) (Nat.Coprime.mul_right co co)
    have d1 : k' * k' ∣ c.natAbs := cc.dvd_of_dvd_mul_right ⟨b.natAbs, by rw [← e3, Nat.mul_comm]⟩
    have d2 : m' * m' ∣ b.natAbs := cc.symm.dvd_of_dvd_mul_right ⟨c.natAbs, by rw [e3, Nat.mul_comm]⟩
    have k1 : k' < 2 := Nat.lt_of_not_le fun z => sc k' z d1
    have m1 : m' < 2 := Nat.lt_of_not_le fun z => sb m' z d2
    have k0 : k' ≠ 0 := fun z => by rw [z, Nat.zero_mul] at e1; omega
    have m0 : m' ≠ 0 := fun z => by rw [z, Nat.zero_mul] at e2; omega
    have : k' = 1 := by omega
    have : m' = 1 := by omega
    subst k' m'
    simpa using e3
  -- the signs
  have pk : 0 < k * k := by
    rcases Int.lt_or_gt_of_ne hk with z | z
    · exact Int.mul_pos_of_neg_of_neg z z
    · exact Int.mul_pos z z
  have pm : 0 < m * m := by
    rcases Int.lt_or_gt_of_ne hm with z | z
    · exact Int.mul_pos_of_neg_of_neg z z
    · exact Int.mul_pos z z
  rcases Int.lt_or_gt_of_ne b0 with zb | zb
  · rcases Int.lt_or_gt_of_ne c0 with zc | zc
    · omega
    · have h1 : n < 0 := by rw [ek]; exact Int.mul_neg_of_neg_of_pos zb pk
      have h2 : 0 < n := by rw [em]; exact Int.mul_pos zc pm
      omega
  · rcases Int.lt_or_gt_of_ne c0 with zc | zc
    · have h1 : 0 < n := by rw [ek]; exact Int.mul_pos zb pk
      have h2 : n < 0 := by rw [em]; exact Int.mul_neg_of_neg_of_pos zc pm
      omega
    · omega
theorem bare_self {b n : Int} (h : Bare b n) : Bare b b := ⟨h.1, h.2.1, 1, by simp⟩
theorem bare_nine {b n : Int} (h : Bare b n) : Bare b (b * 9) := ⟨h.1, h.2.1, 3, by simp⟩
theorem sq_add (x t : Nat) : (2 * x + t) * (2 * x + t) = 4 * (x * x) + 4 * (x * t) + t * t := by
  have a : 2 * x * (2 * x) = 4 * (x * x) := Nat.mul_mul_mul_comm 2 x 2 x
  have b : 2 * x * t = 2 * (x * t) := Nat.mul_assoc 2 x t
  have c : t * (2 * x) = 2 * (x * t) := by rw [Nat.mul_left_comm, Nat.mul_comm t x]
  rw [Nat.mul_add, Nat.add_mul, Nat.add_mul]
  omega
/-! Newton's way to a whole root, from above -/
theorem newton {n x : Nat} (hx : 0 < x) : n < ((x + n / x) / 2 + 1) * ((x + n / x) / 2 + 1) := by
  have h1 : n < x * (n / x + 1) := by
    have := Nat.lt_mul_div_succ n hx
    simpa [Nat.mul_comm] using this
  generalize n / x = q at *
  have h2 : x + q + 1 ≤ 2 * ((x + q) / 2 + 1) := by omega
  generalize (x + q) / 2 + 1 = y at *
  have h3 : (x + q + 1) * (x + q + 1) ≤ (2 * y) * (2 * y) := Nat.mul_le_mul h2 h2
  have h4 : 4 * (x * (q + 1)) ≤ (x + q + 1) * (x + q + 1) := by
    rcases Nat.le_total x (q + 1) with l | l
    · obtain ⟨t, ht⟩ := Nat.exists_eq_add_of_le l
      have : x + q + 1 = 2 * x + t := by omega
      rw [this, ht]
      have := sq_add x t
      have e2 : x * (x + t) = x * x + x * t := Nat.mul_add x x t
      omega
    · obtain ⟨t, ht⟩ := Nat.exists_eq_add_of_le l
      have e1 : x + q + 1 = 2 * (q + 1) + t := by omega
      rw [e1, ht]
      generalize q + 1 = z
      have := sq_add z t
      have e2 : (z + t) * z = z * z + z * t := by rw [Nat.add_mul, Nat.mul_comm t z]
      omega
  have h5 : (2 * y) * (2 * y) = 4 * (y * y) := by
    have := Nat.mul_mul_mul_comm 2 y 2 y
    omega
  omega
theorem newton_less {n x : Nat} (hx : 0 < x) (h : n < x * x) : (x + n / x) / 2 < x := by
  have : n / x < x := Nat.div_lt_of_lt_mul h
  omega
theorem root_is {n x m : Nat} (h1 : x * x ≤ n) (h2 : n < (x + 1) * (x + 1)) (e : n = m * m) : x = m := by
  subst e
  rcases Nat.lt_trichotomy x m with l | l | l
  · exfalso
    have : (x + 1) * (x + 1) ≤ m * m := Nat.mul_le_mul l l
    omega
  · exact l
  · exfalso
    have : (m + 1) * (m + 1) ≤ x * x := Nat.mul_le_mul l l
    have : m * m < (m + 1) * (m + 1) := Nat.mul_lt_mul_of_lt_of_le (by omega) (by omega) (by omega)
    omega
end My

/-! ### len(set(xs)), whole numbers -/
namespace My
open PySem PySem.Spec PyProof.Rows L2
def tLenSetD (K : PySem.W.Frag) (ta : TE) : TE := fun σ H Q => ta σ H fun x H1 => ∃ (l : Addr) (ns : List Int), x = .ref l ∧ SqL K H1 l (ns.map V.int) ∧ ns.length ≤ 4000 ∧ Q (.int ((PyProof.Rows.firstMet (fun i => ns.getD i 0) ns.length).length : Nat)) H1
theorem pe_lenSetD {X : Cx} {a : Expr} {ta : TE} {p p2 q pos : Pos} (hg : Gl X "len") (hm : X.mg "len" = none) (hg2 : Gl X "set") (hm2 : X.mg "set" = none) (ha : PE X a ta) (hc : X.calm = true := by rfl)
    (na : starEach [a] X.env = (false, eval a X.env) :: starEach [] X.env := by rfl) : PE X (.Call (.Name "len" p) [.Call (.Name "set" p2) [a] [] q] [] pos) (tLenSetD X.K ta) := by
  refine ⟨fun pins s σ H Q I h => ?_⟩
  refine Call_ (ld_blt I hg hm boot_len ?_)
  refine PyProof.Rows.callWith_builtin1 (PyProof.Rows.args_cons ?_ rfl) rfl rfl
  refine Call_ (ld_blt I hg2 hm2 boot_set ?_)
  refine PyProof.Rows.callWith_type1 (PyProof.Rows.args_cons (thn (ha.run pins s σ H _ I h) fun v s1 ⟨x, H1, I1, r1, q1⟩ => PyProof.Rows.args_nil ?_) na) na rfl
  obtain ⟨l, ns, rfl, hq, hl, q1⟩ := q1
  cases r1
  obtain ⟨its, r, pl, hz⟩ := I1.list hq
  have hlen : its.toArray.size = ns.length := by rw [List.size_toArray, ← r.length, List.length_map]
  have hfm := PyProof.Rows.firstMet_length_le (fun i => ns.getD i 0) ns.length
  refine call_set_list (I1.ok.hd hc) pl.isList (by simpa using RZ.intsAre_vals r) (by rw [hlen]; unfold scanBound; omega) fun h' tk hS hk => ?_
  refine PyProof.Rows.args_nil ?_
  rw [hlen] at hS
  obtain ⟨o, es, ep, t, ho, hex, hd, _, _, _, hf, hn⟩ := hS
  have I2 : Inv X pins σ H1 { s1 with heap := h', toks := tk } := I1.kept fun b o e => hk b o (Heap.lt_size e) e
  exact call_len_set ho hex hd hf (by rw [hn]; omega) ⟨.int _, H1, I2.tok _, ⟨_, by rw [hn]⟩, q1⟩
theorem fm0 : (PyProof.Rows.firstMet (fun i => ([] : List Int).getD i 0) 0).length = 0 := rfl
theorem fm1 (p : Int) : (PyProof.Rows.firstMet (fun i => [p].getD i 0) 1).length = 1 := rfl
theorem fm2 (p q : Int) : (PyProof.Rows.firstMet (fun i => [p, q].getD i 0) 2).length = if p = q then 1 else 2 := by
  rw [PyProof.Rows.firstMet_succ, PyProof.Rows.firstMet_succ, PyProof.Rows.firstMet_zero]
  show (if [p].any (· == q) = true then [p] else [p] ++ [q]).length = _
  by_cases e : p = q
  · subst e
    simp
  · have : ([p].any (· == q)) = false := by simpa using e
    rw [this, if_neg e]; rfl
end My

namespace My
open PySem PySem.Spec PyProof.Rows L2
open C8 (Cal pe_c pe_gc)
/-- a written fraction, its two whole numbers -/
def frV (q : Int × Int) : List V := [.int q.1, .int q.2]
def FrAt (K : PySem.W.Frag) (H : Hp) (v : V) (q : Int × Int) : Prop := ∃ p, v = .ref p ∧ H p = some (.tup (frV q))
def low (q : Int × Int) : Int × Int := (lowT q.1 q.2, lowB q.1 q.2)
def addQ (q r : Int × Int) : Int × Int := low (q.1 * r.2 + r.1 * q.2, q.2 * r.2)
def mulQ (q r : Int × Int) : Int × Int := low (q.1 * r.1, q.2 * r.2)
/-- sizes: below 2 ^ n -/
def Sz (n : Nat) (x : Int) : Prop := x.natAbs < 2 ^ n
theorem Sz.mono {n m : Nat} {x : Int} (h : Sz n x) (l : n ≤ m) : Sz m x := Nat.lt_of_lt_of_le h (Nat.pow_le_pow_right (by decide) l)
theorem Sz.mul {n m : Nat} {x y : Int} (h : Sz n x) (l : Sz m y) : Sz (n + m) (x * y) := wide_lt h l
theorem Sz.add {n : Nat} {x y : Int} (h : Sz n x) (l : Sz n y) : Sz (n + 1) (x + y) := by
  unfold Sz at *
  have : (x + y).natAbs ≤ x.natAbs + y.natAbs := Int.natAbs_add_le x y
  rw [Nat.pow_succ]
  omega
theorem Sz.le {n : Nat} {x y : Int} (h : Sz n x) (l : y.natAbs ≤ x.natAbs) : Sz n y := Nat.lt_of_le_of_lt l h
theorem Sz.cmul {n m : Nat} {x y : Int} (h : Sz n x) (l : Sz m y) (hn : 0 < n) (hm : 0 < m) (b : n + m ≤ 1000000) : CMulW x y := wide_mul h l hn hm b
theorem Sz.log {n : Nat} {x : Int} (h : Sz n x) (hn : 0 < n) (b : n ≤ 9000) : x.natAbs.log2 < 9000 := Nat.lt_of_lt_of_le (PySem.Flt.log2_lt_of hn h) b
theorem cmul_small {x y : Int} (h : x.natAbs < 2 ^ 60) (l : y.natAbs < 2 ^ 60) : CMulW x y := wide_mul h l (by decide) (by decide) (by decide)
/-- a lowest form: bottom above 0, sizes -/
structure OkQ (n : Nat) (q : Int × Int) : Prop where
  pos : 0 < q.2
  t : Sz n q.1
  b : Sz n q.2
theorem OkQ.mono {n m : Nat} {q : Int × Int} (h : OkQ n q) (l : n ≤ m) : OkQ m q := ⟨h.pos, h.t.mono l, h.b.mono l⟩
theorem low_ok {n : Nat} {q : Int × Int} (hb : q.2 ≠ 0) (ht : Sz n q.1) (hB : Sz n q.2) : OkQ n (low q) := ⟨lowB_pos hb, ht.le (lowT_abs hb), hB.le (lowB_abs hb)⟩
theorem add_ok {n m : Nat} {q r : Int × Int} (h : OkQ n q) (l : OkQ m r) : OkQ (n + m + 1) (addQ q r) := by
  refine low_ok ?_ ?_ ?_
  · exact Int.ne_of_gt (Int.mul_pos h.pos l.pos)
  · refine Sz.add (h.t.mul l.b) ?_
    have := l.t.mul h.b
    rwa [Nat.add_comm] at this
  · exact (h.b.mul l.b).mono (by omega)
theorem mul_ok {n m : Nat} {q r : Int × Int} (h : OkQ n q) (l : OkQ m r) : OkQ (n + m) (mulQ q r) := low_ok (Int.ne_of_gt (Int.mul_pos h.pos l.pos)) (h.t.mul l.t) (h.b.mul l.b)

theorem sz2 {a b : V} : [a, b].length ≤ sizeLine := by show 2 ≤ sizeLine; decide
theorem sz4 {a b c d : V} : [a, b, c, d].length ≤ sizeLine := by show 4 ≤ sizeLine; decide
theorem sz5 {a b c d e : V} : [a, b, c, d, e].length ≤ sizeLine := by show 5 ≤ sizeLine; decide
theorem sz3 {a b c : V} : [a, b, c].length ≤ sizeLine := by show 3 ≤ sizeLine; decide
/-- small whole numbers -/
def Bd (n : Nat) (x : Int) : Prop := x.natAbs ≤ n
theorem Bd.mul {n m : Nat} {x y : Int} (h : Bd n x) (l : Bd m y) : Bd (n * m) (x * y) := by
  unfold Bd at *
  rw [Int.natAbs_mul]
  exact Nat.mul_le_mul h l
theorem Bd.add {n m : Nat} {x y : Int} (h : Bd n x) (l : Bd m y) : Bd (n + m) (x + y) := by
  unfold Bd at *
  omega
theorem Bd.sub {n m : Nat} {x y : Int} (h : Bd n x) (l : Bd m y) : Bd (n + m) (x - y) := by
  unfold Bd at *
  omega
theorem Bd.cm {n m : Nat} {x y : Int} (h : Bd n x) (l : Bd m y) (hn : n < 2 ^ 60 := by decide) (hm : m < 2 ^ 60 := by decide) : CMulW x y := cmul_small (Nat.lt_of_le_of_lt h hn) (Nat.lt_of_le_of_lt l hm)
theorem bd_lit {n : Nat} {x : Int} (h : x.natAbs ≤ n := by decide) : Bd n x := h
/-- what tells by being 0 that two roots are alike -/
def toldOf : List Int → Int
  | [_, _] => 1
  | [c, b, _] => b * b - 4 * c
  | [c, b, a, _] => 18 * a * b * c - 4 * a * a * a * c + a * a * b * b - 4 * b * b * b - 27 * c * c
  | [c, _, a, _, _] => c * (a * a - 4 * c)
  | _ => 0
/-- a polynomial that is good -/
structure GoodP (ns : List Int) : Prop where
  l2 : 2 ≤ ns.length
  l5 : ns.length ≤ 5
  sm : ∀ x ∈ ns, Bd 100 x
  last : atI ns (-1) = some 1
  mid1 : ns.length = 5 → ns[1]? = some 0
  mid3 : ns.length = 5 → ns[3]? = some 0
  told : toldOf ns ≠ 0
theorem gcd_fmod (x y : Int) : Int.gcd y (x.fmod y) = Int.gcd x y := by
  have : x.fmod y = x - y * x.fdiv y := Int.fmod_def x y
  rw [this, Int.gcd_comm x y]
  have e : x - y * x.fdiv y = x + y * (- x.fdiv y) := by rw [Int.mul_neg]; rfl
  rw [e, Int.gcd_add_mul_left_right]
theorem fmod_lt {x y : Int} (hy : y ≠ 0) : (x.fmod y).natAbs < y.natAbs := by
  rcases Int.lt_or_gt_of_ne hy with h | h
  · have h1 : x.fmod y = -((-x).fmod (-y)) := by rw [Int.neg_fmod_neg]; simp
    have a := Int.fmod_nonneg_of_pos (-x) (show 0 < -y by omega)
    have b := Int.fmod_lt_of_pos (-x) (show 0 < -y by omega)
    omega
  · have a := Int.fmod_nonneg_of_pos x h
    have b := Int.fmod_lt_of_pos x h
    omega
theorem same_new {H : Hp} {p : Addr} {o : HO} (hp : H p = none) : Same H (upd H p o) := fun b u q => by rw [upd_ne (ne_of_none q hp)]; exact q
theorem item_of {ns : List Int} {i : Nat} {y : V} (hi : (ns.map V.int)[i]? = some y) : ∃ z, ns[i]? = some z ∧ y = V.int z := by
  rw [List.getElem?_map] at hi
  cases e : ns[i]? with
  | none => rw [e] at hi; cases hi
  | some z => rw [e] at hi; exact ⟨z, rfl, (Option.some.inj hi).symm⟩
theorem atI_map {ns : List Int} {i : Int} {z : Int} (h : atI ns i = some z) : atI (ns.map V.int) i = some (V.int z) := by
  unfold atI at *
  rw [List.length_map]
  cases e : ixN ns.length i with
  | none => rw [e] at h; cases h
  | some j =>
    rw [e] at h
    show (ns.map V.int)[j]? = _
    have h' : ns[j]? = some z := h
    rw [List.getElem?_map, h']
    rfl
theorem Same.seqT {K : PySem.W.Frag} {H H' : Hp} {a : Addr} {xs : List V} (e : Same H H') (h : SqT K H a xs) : SqT K H' a xs := by
  rcases h with (h | ⟨o, h⟩) | h
  · exact .inl (.inl (e _ _ h))
  · exact .inl (.inr ⟨o, e _ _ h⟩)
  · exact .inr h
theorem FrAt.mono {K : PySem.W.Frag} {H H' : Hp} {v : V} {q : Int × Int} (h : FrAt K H v q) (e : Same H H') : FrAt K H' v q := by
  obtain ⟨p, rfl, hp⟩ := h
  exact ⟨p, rfl, e _ _ hp⟩
theorem FrAt.new {K : PySem.W.Frag} {H : Hp} {p : Addr} {q : Int × Int} (h : H p = some (.tup (frV q))) : FrAt K H (.ref p) q := ⟨p, rfl, h⟩
theorem take_more {α : Type} : ∀ {l : List α} {i : Nat} {x : α}, l[i]? = some x → l.take (i + 1) = l.take i ++ [x]
  | [], i, x, h => by simp at h
  | a :: l, 0, x, h => by
    have e : a = x := Option.some.inj h
    subst e
    rfl
  | a :: l, i + 1, x, h => by
    have ih := take_more (l := l) (i := i) (x := x) h
    show a :: l.take (i + 1) = a :: l.take i ++ [x]
    rw [ih]
    rfl
theorem ok_01 : OkQ 1 (0, 1) := ⟨by decide, (by decide : (0 : Int).natAbs < 2 ^ 1), (by decide : (1 : Int).natAbs < 2 ^ 1)⟩
theorem ok_n1 {n : Int} {b : Nat} (h : Bd 100 n) (hb : 10 ≤ b) : OkQ b (n, 1) := OkQ.mono (n := 10) ⟨(by decide : (0 : Int) < 1), (by unfold Sz; unfold Bd at h; show n.natAbs < 2 ^ 10; omega), (by show (1 : Int).natAbs < 2 ^ 10; decide)⟩ hb
theorem abs_int (x : Int) : (if x < 0 then -x else x) = (x.natAbs : Int) := by split <;> omega
end My

/-! ### own exceptions made as values: C(), C(v), C(k=v) of classes with an own __init__; a class over KeyError -/
namespace My
open PySem PySem.W PySem.Calls PyProof.Rows PySem.HandSPX
abbrev keTail : List Value := [.type "KeyError", .type "LookupError", .type "Exception", .type "BaseException", .type "object"]
theorem ke_has {C : Addr} {x : String} (h : keTail.contains (.type x) = true) : (Value.ref C :: keTail).contains (.type x) = true := by rw [List.contains_cons, h, Bool.or_true]
theorem ke_not {C : Addr} {x : String} (h : keTail.contains (.type x) = false) : (Value.ref C :: keTail).contains (.type x) = false := by rw [List.contains_cons, h]; rfl
section
variable {M : Model} {A : Around} {E : Value → Shared → Prop} {h : Heap} {g : Array GenState} {d : Drawn} {t : Nat} {os : OsState}
variable {nm q : Str} {C N : Addr} {bs : List Value} {hdct : Bool} {sn : List Str} {sub : List Value} {ab : Bool} {col : Option Bool} {dd : Option Addr} {k0 k1 k2 k3 k5 : Option Value} {kn : Str} {kv : Value}
theorem ke_check0 {rest : List Value} {Q : Unit → Shared → Prop}
    (hC : h.get? C = some (excClassObj nm q C N bs keTail hdct sn sub ab col dd k0 k1 k2 k3 k5 "LookupError.__new__")) (hq : Q () ⟨h, g, d, t, os⟩) : wpAny M A (checkBuiltinCall "LookupError.__new__" ⟨.ref C :: rest, []⟩) Q E ⟨h, g, d, t, os⟩ := by
  have F := PySem.F.excBase_LookupError
  have hcont := ke_has (C := C) (x := "LookupError") (by decide +kernel)
  have hstar := F.noStar
  simp only [checkBuiltinCall, F.newKind, F.newSplit, F.newRow]
  repeat (first
    | refine wpAny_loadPart_at hC ?_
    | (refine wpAny_isSubtype_exc hC ?_; rw [hcont])
    | refine wpAny_staticBase_exc hC ?_
    | refine wpAny_madeBy_exc hC ?_
    | simp only [bne_self_eq_false, Bool.false_eq_true, if_false]
    | wp_step)
  exact hq
theorem ke_checkK {rest : List Value} {Q : Unit → Shared → Prop}
    (hC : h.get? C = some (excClassObj nm q C N bs keTail hdct sn sub ab col dd k0 k1 k2 k3 k5 "LookupError.__new__")) (hq : Q () ⟨h, g, d, t, os⟩) : wpAny M A (checkBuiltinCall "LookupError.__new__" ⟨.ref C :: rest, [(kn, kv)]⟩) Q E ⟨h, g, d, t, os⟩ := by
  have F := PySem.F.excBase_LookupError
  have hcont := ke_has (C := C) (x := "LookupError") (by decide +kernel)
  have hstar := F.noStar
  simp only [checkBuiltinCall, F.newKind, F.newSplit, F.newRow]
  repeat (first
    | refine wpAny_loadPart_at hC ?_
    | (refine wpAny_isSubtype_exc hC ?_; rw [hcont])
    | refine wpAny_staticBase_exc hC ?_
    | refine wpAny_madeBy_exc hC ?_
    | simp only [bne_self_eq_false, Bool.false_eq_true, if_false]
    | wp_step)
  exact hq
end
section
variable {prog : Program} {w : World} {A : Around} {E : Value → Shared → Prop} {R : Result → Shared → Prop} {h : Heap} {g : Array GenState} {d : Drawn} {t : Nat} {os : OsState}
variable {nm q : Str} {C N : Addr} {bs : List Value} {hdct : Bool} {sn : List Str} {sub : List Value} {ab : Bool} {col : Option Bool} {dd : Option Addr} {k0 k1 k2 k3 k5 : Option Value} {kn : Str} {kv : Value}
theorem ke_new0 {rest : List Value} (hC : h.get? C = some (excClassObj nm q C N bs keTail hdct sn sub ab col dd k0 k1 k2 k3 k5 "LookupError.__new__"))
    (hq : R (.ok (.ret (.ref (h.objs.size + 1)))) ⟨(h.push { cls := .type "tuple", data := .seq rest.toArray }).push
      { cls := .ref C, data := .fields #[.ref h.objs.size, .none, .none, .none, .bool false, .none] }, g, d, t, os⟩) (hrest : rest.length ≤ sizeLine) :
    codeAny (model prog w) A (.builtin "LookupError.__new__" ⟨.ref C :: rest, []⟩) R ⟨h, g, d, t, os⟩ := by
  have F := PySem.F.excBase_LookupError
  have hends := F.ends
  have hcB := ke_has (C := C) (x := "LookupError") (by decide +kernel)
  have hcA := ke_not (C := C) (x := "AttributeError") (by decide +kernel)
  have hcN := ke_not (C := C) (x := "NameError") (by decide +kernel)
  refine codeAny_builtinAt F.entry ?_
  unfold Builtin.«BaseException.__new__»
  refine PySem.wpAt_bind ?_
  show PySem.wpAt _ _ _ (stack >>= _) _ _ _
  refine PySem.wpAt_bind (PySem.wpAt_stack fun p below => PySem.wpAt_of_wpAny ?_)
  wp_walk
  refine PySem.wpAt_of_wpAny ?_
  rw [F.owner]
  repeat (first
    | with_reducible refine wpAny_madeHere_exc F.canon hC ?_
    | with_reducible refine wpAny_loadPart_at hC ?_
    | (with_reducible refine wpAny_isSubtype_exc hC ?_; first | rw [hcB] | rw [hcA] | rw [hcN])
    | wp_step)
  show R _ _
  rw [Heap.size_push]
  exact hq
theorem ke_type0 {rest : List Value} {fI : Addr} {Q : Fin → Shared → Prop} (hC : h.get? C = some (excClassObj nm q C N bs keTail hdct sn sub ab col dd k0 k1 k2 k3 k5 "LookupError.__new__"))
    (hi : W.Looks (model prog w) h (typeLookup (.ref C) "__init__") (some (.ref fI))) (hb : ∀ self, W.Looks (model prog w) h (bindSpecial (.ref fI) self) (.ref fI, [self])) (hrest : rest.length ≤ sizeLine)
    (hq : codeAny (model prog w) A (.call (.ref fI) ⟨.ref (h.objs.size + 1) :: rest, []⟩)
      (fun r s' => match r with | .ok (.ret v) => v = .none ∧ Q (.done (.ret (.ref (h.objs.size + 1)))) s' | .ok _ => False | .error e => E e s')
      ⟨(h.push (W.kdv_tup rest)).push (excO C h.objs.size), g, d, t, os⟩) :
    wpAny (model prog w) A (Builtin.«type.__call__» ⟨.ref C :: rest, []⟩) Q E ⟨h, g, d, t, os⟩ := by
  have F := PySem.F.excBase_LookupError
  repeat (first | with_reducible refine wpAny_loadPart_at hC ?_ | with_reducible refine wpAny_madeBy_exc hC ?_ | wp_step)
  refine codeAny_call_builtin_code (Code.quiet_builtin _ F.quiet) (ke_check0 hC ?_)
  refine ke_new0 hC ?_ hrest
  show wpAny _ _ _ _ _ _
  have k : ∀ b o, h.get? b = some o → ((h.push (W.kdv_tup rest)).push (excO C h.objs.size)).get? b = some o := fun b o e => Heap.get?_push_of_some _ (Heap.get?_push_of_some _ e)
  have hC₁ := k _ _ hC
  have hget : ((h.push (W.kdv_tup rest)).push (excO C h.objs.size)).get? (h.objs.size + 1) = some (excO C h.objs.size) := by heap_get
  have hcC : (Value.ref C :: keTail).contains (.ref C) = true := by simp
  have i1 := hi.keeps k
  have b1 := (hb (.ref (h.objs.size + 1))).keeps k
  unfold isInstance
  repeat (first | with_reducible refine wpAny_loadPart_at hget ?_ | (with_reducible refine wpAny_isSubtype_exc hC₁ ?_; rw [hcC]) | wp_step)
  show wpAny _ _ (typeLookup (.ref C) _) _ _ _
  refine i1.at ?_
  refine wpAny_holding (wpAny_bind (b1.at ?_))
  refine wpAny_bind (wpAny_call (codeAny_mono hq fun r s' z => ?_))
  rcases r with e | (v | _ | _ | _) <;> first | exact z | exact z.elim | skip
  obtain ⟨rfl, z⟩ := z
  first
    | exact wpAny_pure (wpAny_pure z)
    | (wp_walk; exact z)
theorem ke_call0 {rest : List Value} {fI : Addr} (hC : h.get? C = some (excClassObj nm q C N bs keTail hdct sn sub ab col dd k0 k1 k2 k3 k5 "LookupError.__new__"))
    (hi : W.Looks (model prog w) h (typeLookup (.ref C) "__init__") (some (.ref fI))) (hb : ∀ self, W.Looks (model prog w) h (bindSpecial (.ref fI) self) (.ref fI, [self])) (hrest : rest.length ≤ sizeLine)
    (hq : codeAny (model prog w) (A.under (.builtin "type.__call__" ⟨.ref C :: rest, []⟩)) (.call (.ref fI) ⟨.ref (h.objs.size + 1) :: rest, []⟩) (W.InitBack (h.objs.size + 1) R)
      ⟨(h.push (W.kdv_tup rest)).push (excO C h.objs.size), g, d, t, os⟩) :
    codeAny (model prog w) A (.call (.ref C) ⟨rest, []⟩) R ⟨h, g, d, t, os⟩ := by
  have f1 := tc_lookup
  have f2 := tc_bind (.ref C)
  have hTy : (⟨h, g, d, t, os⟩ : Shared).TypeIs (.ref C) "type" := ⟨_, hC, rfl⟩
  refine codeAny_of_tree ?_
  show wpAny _ _ (callAny (.ref C) _) _ _ _
  repeat (any_goals (first | assumption | with_reducible refine wpAny_loadPart_at hC ?_ | wp_step))
  refine ⟨rfl, ?_⟩
  refine codeAny_call_builtin_at (Code.quiet_builtin _ (by decide +kernel)) entry_typeCall (wpAny_check_type_call_sub hC (ke_type0 hC hi hb hrest ?_))
  refine codeAny_mono hq fun r s' z => ?_
  rcases r with e | (v | _ | _ | _) <;> exact z
theorem ke_newK {rest : List Value} (hC : h.get? C = some (excClassObj nm q C N bs keTail hdct sn sub ab col dd k0 k1 k2 k3 k5 "LookupError.__new__"))
    (hq : R (.ok (.ret (.ref (h.objs.size + 1)))) ⟨(h.push { cls := .type "tuple", data := .seq rest.toArray }).push
      { cls := .ref C, data := .fields #[.ref h.objs.size, .none, .none, .none, .bool false, .none] }, g, d, t, os⟩) (hrest : rest.length ≤ sizeLine) :
    codeAny (model prog w) A (.builtin "LookupError.__new__" ⟨.ref C :: rest, [(kn, kv)]⟩) R ⟨h, g, d, t, os⟩ := by
  have F := PySem.F.excBase_LookupError
  have hends := F.ends
  have hcB := ke_has (C := C) (x := "LookupError") (by decide +kernel)
  have hcA := ke_not (C := C) (x := "AttributeError") (by decide +kernel)
  have hcN := ke_not (C := C) (x := "NameError") (by decide +kernel)
  refine codeAny_builtinAt F.entry ?_
  unfold Builtin.«BaseException.__new__»
  refine PySem.wpAt_bind ?_
  show PySem.wpAt _ _ _ (stack >>= _) _ _ _
  refine PySem.wpAt_bind (PySem.wpAt_stack fun p below => PySem.wpAt_of_wpAny ?_)
  wp_walk
  refine PySem.wpAt_of_wpAny ?_
  rw [F.owner]
  repeat (first
    | with_reducible refine wpAny_madeHere_exc F.canon hC ?_
    | with_reducible refine wpAny_loadPart_at hC ?_
    | (with_reducible refine wpAny_isSubtype_exc hC ?_; first | rw [hcB] | rw [hcA] | rw [hcN])
    | wp_step)
  show R _ _
  rw [Heap.size_push]
  exact hq
theorem ke_typeK {rest : List Value} {fI : Addr} {Q : Fin → Shared → Prop} (hC : h.get? C = some (excClassObj nm q C N bs keTail hdct sn sub ab col dd k0 k1 k2 k3 k5 "LookupError.__new__"))
    (hi : W.Looks (model prog w) h (typeLookup (.ref C) "__init__") (some (.ref fI))) (hb : ∀ self, W.Looks (model prog w) h (bindSpecial (.ref fI) self) (.ref fI, [self])) (hrest : rest.length ≤ sizeLine)
    (hq : codeAny (model prog w) A (.call (.ref fI) ⟨.ref (h.objs.size + 1) :: rest, [(kn, kv)]⟩)
      (fun r s' => match r with | .ok (.ret v) => v = .none ∧ Q (.done (.ret (.ref (h.objs.size + 1)))) s' | .ok _ => False | .error e => E e s')
      ⟨(h.push (W.kdv_tup rest)).push (excO C h.objs.size), g, d, t, os⟩) :
    wpAny (model prog w) A (Builtin.«type.__call__» ⟨.ref C :: rest, [(kn, kv)]⟩) Q E ⟨h, g, d, t, os⟩ := by
  have F := PySem.F.excBase_LookupError
  repeat (first | with_reducible refine wpAny_loadPart_at hC ?_ | with_reducible refine wpAny_madeBy_exc hC ?_ | wp_step)
  refine codeAny_call_builtin_code (Code.quiet_builtin _ F.quiet) (ke_checkK hC ?_)
  refine ke_newK hC ?_ hrest
  show wpAny _ _ _ _ _ _
  have k : ∀ b o, h.get? b = some o → ((h.push (W.kdv_tup rest)).push (excO C h.objs.size)).get? b = some o := fun b o e => Heap.get?_push_of_some _ (Heap.get?_push_of_some _ e)
  have hC₁ := k _ _ hC
  have hget : ((h.push (W.kdv_tup rest)).push (excO C h.objs.size)).get? (h.objs.size + 1) = some (excO C h.objs.size) := by heap_get
  have hcC : (Value.ref C :: keTail).contains (.ref C) = true := by simp
  have i1 := hi.keeps k
  have b1 := (hb (.ref (h.objs.size + 1))).keeps k
  unfold isInstance
  repeat (first | with_reducible refine wpAny_loadPart_at hget ?_ | (with_reducible refine wpAny_isSubtype_exc hC₁ ?_; rw [hcC]) | wp_step)
  show wpAny _ _ (typeLookup (.ref C) _) _ _ _
  refine i1.at ?_
  refine wpAny_holding (wpAny_bind (b1.at ?_))
  refine wpAny_bind (wpAny_call (codeAny_mono hq fun r s' z => ?_))
  rcases r with e | (v | _ | _ | _) <;> first | exact z | exact z.elim | skip
  obtain ⟨rfl, z⟩ := z
  first
    | exact wpAny_pure (wpAny_pure z)
    | (wp_walk; exact z)
theorem ke_callK {rest : List Value} {fI : Addr} (hC : h.get? C = some (excClassObj nm q C N bs keTail hdct sn sub ab col dd k0 k1 k2 k3 k5 "LookupError.__new__"))
    (hi : W.Looks (model prog w) h (typeLookup (.ref C) "__init__") (some (.ref fI))) (hb : ∀ self, W.Looks (model prog w) h (bindSpecial (.ref fI) self) (.ref fI, [self])) (hrest : rest.length ≤ sizeLine)
    (hq : codeAny (model prog w) (A.under (.builtin "type.__call__" ⟨.ref C :: rest, [(kn, kv)]⟩)) (.call (.ref fI) ⟨.ref (h.objs.size + 1) :: rest, [(kn, kv)]⟩) (W.InitBack (h.objs.size + 1) R)
      ⟨(h.push (W.kdv_tup rest)).push (excO C h.objs.size), g, d, t, os⟩) :
    codeAny (model prog w) A (.call (.ref C) ⟨rest, [(kn, kv)]⟩) R ⟨h, g, d, t, os⟩ := by
  have f1 := tc_lookup
  have f2 := tc_bind (.ref C)
  have hTy : (⟨h, g, d, t, os⟩ : Shared).TypeIs (.ref C) "type" := ⟨_, hC, rfl⟩
  refine codeAny_of_tree ?_
  show wpAny _ _ (callAny (.ref C) _) _ _ _
  repeat (any_goals (first | assumption | with_reducible refine wpAny_loadPart_at hC ?_ | wp_step))
  refine ⟨rfl, ?_⟩
  refine codeAny_call_builtin_at (Code.quiet_builtin _ (by decide +kernel)) entry_typeCall (check_type_call_subK hC (ke_typeK hC hi hb hrest ?_))
  refine codeAny_mono hq fun r s' z => ?_
  rcases r with e | (v | _ | _ | _) <;> exact z
/-- KeyError.__init__(e, ..) -/
theorem ke_initc {M : Model} {e : Addr} {oe : Obj} {rest : List Value} {Q : Unit → Shared → Prop} {E : Value → Shared → Prop} (hC : h.get? C = some (excClassObj nm q C N bs keTail hdct sn sub ab col dd k0 k1 k2 k3 k5 "LookupError.__new__"))
    (he : h.get? e = some oe) (hcls : oe.cls = .ref C) (hq : Q () ⟨h, g, d, t, os⟩) : wpAny M A (checkBuiltinCall "KeyError.__init__" ⟨.ref e :: rest, []⟩) Q E ⟨h, g, d, t, os⟩ := by
  have F := excClass_KeyError
  have hcB := ke_has (C := C) (x := "KeyError") (by decide +kernel)
  have hshort := F.notStar
  simp only [checkBuiltinCall, F.initKind, F.initSplit, F.initSig]
  repeat (first
    | (with_reducible refine wpAny_loadPart_at he ?_; rw [hcls])
    | with_reducible refine wpAny_loadPart_at hC ?_
    | (with_reducible refine wpAny_isSubtype_exc hC ?_; rw [hcB])
    | wp_step)
  refine wpAny_onRaise ?_
  rw [show ∀ (a b : String) (n : Nat), Bind.check ⟨.positional, "*", "KeyError", .self, [⟨"args", .varPos, false⟩]⟩ a b n (List.map (fun x => x.fst) ({ pos := Value.ref e :: rest } : Args).kw) = pure () from
    fun a b n => check_star_args _ _ _ _ _ _]
  exact wpAny_pure hq
theorem ke_init {e t0 : Addr} {rest : List Value} (hC : h.get? C = some (excClassObj nm q C N bs keTail hdct sn sub ab col dd k0 k1 k2 k3 k5 "LookupError.__new__")) (he : h.get? e = some (excO C t0)) (hrest : rest.length ≤ sizeLine)
    (hq : ∀ h' t1, (∀ b o, b ≠ e → h.get? b = some o → h'.get? b = some o) → h'.get? e = some (excO C t1) → R (.ok (.ret .none)) ⟨h', g, d, t, os⟩) :
    codeAny (model prog w) A (.call (.builtin "KeyError.__init__") ⟨.ref e :: rest, []⟩) R ⟨h, g, d, t, os⟩ := by
  have F := excClass_KeyError
  refine codeAny_call_builtin F.init.plain F.initEntry (ke_initc hC he rfl ?_)
  wp_walk
  refine hq _ h.objs.size (fun b o hb ho => ?_) ?_
  · rw [Heap.get?_update_other _ _ (Ne.symm hb)]
    exact Heap.get?_push_of_some _ ho
  · rw [Heap.get?_update_self _ (Heap.get?_push_of_some _ he) rfl]
    rfl
theorem ke_passes (C : Addr) (self : Value) : refuseLoop self "__setattr__" (.ref C :: keTail) = pure () := by
  rw [refuseLoop_ref]
  kernel_rfl
/-- e.name = v, e of a class over KeyError that has no dict yet -/
theorem ke_osa {K : W.Frag} {name : Str} {tk : Tok} {v : Value} {x C : Addr} {fv : Array Value} {cd : ClassData}
    (X : K.In h) (hx : h.get? x = some { cls := .ref C, data := .fields fv }) (hcd : W.clsIn K C = some cd) (hm : cd.mro = .ref C :: keTail) (hh : cd.hasDict = true) (ha : W.findIn K (.ref C) name = some none)
    (hq : ∀ h' tk' dx, (∀ b o, b ≠ x → h.get? b = some o → h'.get? b = some o) → h.objs.size ≤ dx → dx ≠ x → h'.get? x = some { cls := .ref C, dict := some dx, data := .fields fv } →
      h'.Ns1 dx (fun y => if y = name then some v else none) → R (.ok (.ret .none)) ⟨h', g, d, tk', os⟩) :
    codeAny (model prog w) A (.call (.builtin "object.__setattr__") ⟨[.ref x, .str name tk, v], []⟩) R ⟨h, g, d, t, os⟩ := by
  have I : W.InstAt h x { cls := .ref C, data := .fields fv } C none := ⟨hx, rfl, rfl, trivial⟩
  have SF := F.store_object
  have ne : cd.mro.isEmpty = false := by rw [hm]; rfl
  have hob : cd.mro.contains (.type "object") = true := by rw [hm]; exact ke_has (by decide +kernel)
  have hxs : x ≠ h.objs.size := Nat.ne_of_lt (Heap.lt_size hx)
  have sub : W.Looks (model prog w) h (isInstance (.ref x) (.type "object")) true := I.type.andThen (W.looks_mroIn X (by unfold W.mroIn; rw [hcd, Option.bind_some, if_neg (by rw [ne]; decide), hob]))
  refine codeAny_call_builtin SF.slot.plain SF.entry (@W.check_slot (model prog w) _ _ ⟨h, g, d, t, os⟩ "object.__setattr__" "object" "__setattr__" (.ref x) [.str name tk, v] [] _ SF.kind SF.split sub (SF.args (.ref x) (.str name tk) v) ?_)
  have hmr : W.Looks (model prog w) h (mroOf (.ref C)) cd.mro := (W.looks_clsIn X hcd).andThen .now
  have L3 : W.Looks (model prog w) h (Builtin.ObjectAttr.storeTaker? none) none := .now
  have hcls : W.Looks (model prog w) h (classData C) cd := W.looks_clsIn X hcd
  rw [W.osa_eq, refuse_eq]
  refine wpAny_bind (wpAny_bind (I.type.at (wpAny_bind (hmr.at ?_))))
  rw [hm, ke_passes]
  refine wpAny_pure (wpAny_bind (I.type.at (wpAny_bind ((W.looks_findIn X ha).at (wpAny_bind (L3.at ?_))))))
  show wpAny _ _ (Builtin.ObjectAttr.storeInOwnDict (.ref x) (.ref C) (.str name tk) name v false) _ _ _
  obtain ⟨nm, bs, mro, ns, qn, hd, sn, sb, ab, col, del⟩ := cd
  dsimp only at hh
  subst hh
  unfold Builtin.ObjectAttr.storeInOwnDict Builtin.ObjectAttr.ownDictForStores
  repeat (first
    | with_reducible refine store_in_new ?_ ?_
    | with_reducible refine wpAny_loadPart_at hx ?_
    | with_reducible refine hcls.at ?_
    | wp_step)
  · exact ⟨_, #[], _, (Heap.get?_update_ne _ _ _ _ hxs.symm).trans (Heap.get?_push_at rfl rfl), rfl, fun e he => absurd he (by simp), fun _ => rfl⟩
  · intro h' tk' hn' hs
    have hx₁ : (h.push { cls := .type "dict", data := .dict #[] }).get? x = some { cls := .ref C, data := .fields fv } := Heap.get?_push_of_some _ hx
    refine hq h' tk' h.objs.size (fun b o hb ho => ?_) (Nat.le_refl _) hxs.symm ?_ hn'
    · exact (hs.2 b (Nat.ne_of_lt (Heap.lt_size ho))).trans ((Heap.get?_update_ne _ _ _ _ hb).trans (Heap.get?_push_of_some _ ho))
    · exact (hs.2 x hxs).trans (Heap.get?_update_self _ hx₁ rfl)
end
end My

namespace My
open PySem PySem.Spec PyProof.Rows L2
/-- a class over KeyError: what the written part says of it -/
structure OexK (K : PySem.W.Frag) (C : Addr) : Prop where
  cls : ∃ nm q N bs sn sub ab col dd k0 k1 k2 k3 k5, K.lookup C = some (excClassObj nm q C N bs keTail true sn sub ab col dd k0 k1 k2 k3 k5 "LookupError.__new__")
  sa : PySem.W.findIn K (.ref C) "__setattr__" = some (some (.builtin "object.__setattr__"))
/-- a call of the class lays an exception and runs the class's own __init__ on it -/
def CallNew (K : PySem.W.Frag) (C : Addr) (kw : List (Str × Value)) : Prop :=
  ∀ {prog : Program} {w : World} {A : Around} {R : Result → Shared → Prop} {h : Heap} {g : Array GenState} {d : Drawn} {t : Nat} {os : OsState} {rest : List Value} {fI : Addr}, K.In h → PySem.W.findIn K (.ref C) "__init__" = some (some (.ref fI)) →
    PySem.W.typeIn K (.ref fI) = some (.type "function") → rest.length ≤ sizeLine →
    codeAny (model prog w) (A.under (.builtin "type.__call__" ⟨.ref C :: rest, kw⟩)) (.call (.ref fI) ⟨.ref (h.objs.size + 1) :: rest, kw⟩) (PySem.W.InitBack (h.objs.size + 1) R) ⟨(h.push (PySem.W.kdv_tup rest)).push (PySem.HandSPX.excO C h.objs.size), g, d, t, os⟩ →
    codeAny (model prog w) A (.call (.ref C) ⟨rest, kw⟩) R ⟨h, g, d, t, os⟩
section
variable {K : PySem.W.Frag} {C : Addr} {kn : Str} {kv : Value}
theorem new_ve (T : OexC K C) : CallNew K C [] := fun X i t hl hq => by
  obtain ⟨nm, q, N, bs, bm, sn, sub, ab, col, dd, k0, k1, k2, k3, k5, hC, hbm⟩ := T.cls
  exact PySem.HandSPX.call_own F.excBase_ValueError (fun Y => PySem.HandSPX.refsVE_contains Y bm hbm) (X _ _ hC) (PySem.W.looks_findIn X i) (fun self => PySem.W.bind_fn X self t) hl hq
theorem new_veK (T : OexC K C) : CallNew K C [(kn, kv)] := fun X i t hl hq => by
  obtain ⟨nm, q, N, bs, bm, sn, sub, ab, col, dd, k0, k1, k2, k3, k5, hC, hbm⟩ := T.cls
  exact call_ownK F.excBase_ValueError (fun Y => PySem.HandSPX.refsVE_contains Y bm hbm) (X _ _ hC) (PySem.W.looks_findIn X i) (fun self => PySem.W.bind_fn X self t) hl hq
theorem new_ke (T : OexK K C) : CallNew K C [] := fun X i t hl hq => by
  obtain ⟨nm, q, N, bs, sn, sub, ab, col, dd, k0, k1, k2, k3, k5, hC⟩ := T.cls
  exact ke_call0 (X _ _ hC) (PySem.W.looks_findIn X i) (fun self => PySem.W.bind_fn X self t) hl hq
theorem new_keK (T : OexK K C) : CallNew K C [(kn, kv)] := fun X i t hl hq => by
  obtain ⟨nm, q, N, bs, sn, sub, ab, col, dd, k0, k1, k2, k3, k5, hC⟩ := T.cls
  exact ke_callK (X _ _ hC) (PySem.W.looks_findIn X i) (fun self => PySem.W.bind_fn X self t) hl hq
end
section
variable {X : Cx} {pins : List (Addr × Obj)} {σ : L2.St} {H : Hp} {s : Shared}
theorem retrack {a : Addr} {o o' : HO} {ob : Obj} (I : Inv X pins σ H s) (e : H a = some o) (mu : Mut (some o)) (hg : s.heap.get? a = some ob) (ok : ObjOk X.prog X.w (upd H a o') s.heap a o') : Inv X pins σ (upd H a o') s := by
  have J := I.write (t' := s.toks) (h' := s.heap) (x := a) (e := a) (o := o') (by rw [e]; exact mu) (.inl rfl) (fun _ _ _ q => q) ⟨_, hg⟩ ok
  obtain ⟨hp, g, d, t, os⟩ := s
  exact J
/-- what was made stands as a kept exception -/
theorem made_val {a C d : Addr} {fs : List (Str × V)} (I : Inv X pins σ H s) (ea : H a = some (exo a C (some d))) (ed : H d = some (exd d fs)) (ne : d ≠ a) : Inv X pins σ (upd (upd H a (ExV (.ref C) (some d) a)) d (.xd fs)) s := by
  obtain ⟨t1, ho⟩ := exo_at I.hok ea
  obtain ⟨mA, hns, rel⟩ := exd_at I.hok ed
  have I1 : Inv X pins σ (upd H a (ExV (.ref C) (some d) a)) s := retrack I ea True.intro ho ⟨⟨_, _, ho, rfl, rfl, rfl⟩, ⟨_, ho⟩, fun _ _ ⟨o, v, q1, q2⟩ k => ⟨o, v, k o q1, q2⟩⟩
  have ed1 : upd H a (ExV (.ref C) (some d) a) d = some (exd d fs) := by rw [upd_ne ne]; exact ed
  obtain ⟨o, es, ep, hod, r⟩ := id hns
  exact retrack I1 ed1 True.intro hod ⟨mA, ⟨o, es, ep, hod, r⟩, rel⟩
end
/-- an own class whose __init__ keeps its one argument in the field kn -/
structure MkCal (P : Program) (w : World) (K : PySem.W.Frag) (mg : Str → Option Value) (base : Heap) (k : Nat) (x : Str) (C : Addr) (kn : Str) (dv : V) : Prop where
  hm : mg x = some (.ref C)
  kC : PySem.W.keepIn K (.ref C) = true
  n0 : CallNew K C []
  nK : ∀ v, CallNew K C [(kn, v)]
  ex : ∃ (fI : Addr) (fd : FuncData) (ps : List Str) (ds : List Value) (sp : Sp), FnOk P w K mg base CX0 k fI fd ps sp ∧ PySem.W.findIn K (.ref C) "__init__" = some (some (.ref fI)) ∧ PySem.W.typeIn K (.ref fI) = some (.type "function") ∧ Binds K fd ps ds ∧ Vals [dv] ds ∧ Binds K fd ps [] ∧
    (∀ (s : Shared) (u v : Value), K.In s.heap → BindsTo s fd ⟨[u], [(kn, v)]⟩ (ps.zip [u, v])) ∧
    ∀ (H1 : Hp) (a : Addr) (z : V) (Q : VK) (E : XK), H1 a = none → (∀ d, H1 d = none → d ≠ a → Q .non (upd (upd (upd H1 a (exo a C none)) d (exd d [(kn, z)])) a (exo a C (some d)))) → sp [.ref a, z] (upd H1 a (exo a C none)) Q E
/-- a new exception with the field kn -/
def tNewE (C : Addr) (kn : Str) (z : V) (H : Hp) (Q : VK) : Prop := ∀ a d H', Same H H' → H a = none → H d = none → d ≠ a → H' a = some (ExV (.ref C) (some d) a) → H' d = some (.xd [(kn, z)]) → Q (.ref a) H'
section
variable {X : Cx} {pins : List (Addr × Obj)} {σ : L2.St} {H : Hp} {s : Shared} {C : Addr} {kn x : Str} {k j : Nat} {dv : V} {kw : List (Str × Value)} {p pos : Pos} {es : List Expr} {kws : List Keyword} {ta tk : TA} {e : Expr}
theorem mk_run {fI : Addr} {fd : FuncData} {ps : List Str} {sp : Sp} {us : List Value} {z : V} {zv : Value} {Q : VK} (n : CallNew X.K C kw) (F1 : FnOk X.prog X.w X.K X.mg X.base CX0 k fI fd ps sp) (i : PySem.W.findIn X.K (.ref C) "__init__" = some (some (.ref fI)))
    (t : PySem.W.typeIn X.K (.ref fI) = some (.type "function")) (hr : Room (k + 1) X.A) (hb : ∀ (s : Shared) (u : Value), X.K.In s.heap → BindsTo s fd ⟨u :: us, kw⟩ (ps.zip [u, zv])) (rz : RelV z zv) (hl : us.length ≤ sizeLine)
    (law : ∀ (H1 : Hp) (a : Addr) (z : V) (Q : VK) (E : XK), H1 a = none → (∀ d, H1 d = none → d ≠ a → Q .non (upd (upd (upd H1 a (exo a C none)) d (exd d [(kn, z)])) a (exo a C (some d)))) → sp [.ref a, z] (upd H1 a (exo a C none)) Q E)
    (I : Inv X pins σ H s) (q : tNewE C kn z H Q) : wpAny (model X.prog X.w) X.A (call (.ref C) us kw) (EP X pins σ Q) X.xe s := by
  obtain ⟨hp, g, dr, tk, os⟩ := s
  have hsz : hp.objs.size ≤ hp.objs.size + 1 := Nat.le_succ _
  have hn : H (hp.objs.size + 1) = none := I.hok.fresh hsz
  have kk : ∀ b o, hp.get? b = some o → ((hp.push (PySem.W.kdv_tup us)).push (PySem.HandSPX.excO C hp.objs.size)).get? b = some o := fun b o e => Heap.get?_push_of_some _ (Heap.get?_push_of_some _ e)
  have hget : ((hp.push (PySem.W.kdv_tup us)).push (PySem.HandSPX.excO C hp.objs.size)).get? (hp.objs.size + 1) = some (PySem.HandSPX.excO C hp.objs.size) := by heap_get
  have I2 : Inv X pins σ (upd H (hp.objs.size + 1) (exo (hp.objs.size + 1) C none)) ⟨(hp.push (PySem.W.kdv_tup us)).push (PySem.HandSPX.excO C hp.objs.size), g, dr, tk, os⟩ :=
    I.laid (t' := tk) (a := hp.objs.size + 1) (o := exo (hp.objs.size + 1) C none) (h' := (hp.push (PySem.W.kdv_tup us)).push (PySem.HandSPX.excO C hp.objs.size)) kk hsz (exo_ok hget)
  have hq := law H (hp.objs.size + 1) z (fun v H2 => v = .non ∧ ∃ d, H d = none ∧ d ≠ hp.objs.size + 1 ∧ H2 = upd (upd (upd H (hp.objs.size + 1) (exo (hp.objs.size + 1) C none)) d (exd d [(kn, z)])) (hp.objs.size + 1) (exo (hp.objs.size + 1) C (some d))) (fun _ _ _ => False) hn
    (fun d n1 n2 => ⟨rfl, d, n1, n2, rfl⟩)
  have r2 : Vals [V.ref (hp.objs.size + 1), z] [Value.ref (hp.objs.size + 1), zv] := .cons rfl (.cons rz .nil)
  refine wpAny_call (n I.kIn i t hl
    (codeAny_mono (F1.run _ X.stack _ _ ⟨Value.ref (hp.objs.size + 1) :: us, kw⟩ [Value.ref (hp.objs.size + 1), zv] _ _ (fun _ _ _ => False) (hr.make C us kw) (I2.env0.make C us kw) (hb _ _ I2.kIn) r2 hq) fun r s' hq' => ?_))
  cases r with
  | error er => exact pass0 pins σ _ _ er s' I2 hq'
  | ok fl =>
    cases fl with
    | ret u =>
      obtain ⟨v, H2, J, rv, ev, d, hd, nd, eH⟩ := I2.after hq'
      subst ev eH
      have J2 := made_val (C := C) (d := d) (fs := [(kn, z)]) J upd_same (by rw [upd_ne nd]; exact upd_same) nd
      refine ⟨rv, .ref (hp.objs.size + 1), _, J2, rfl, q _ d _ (fun b u hb => ?_) hn hd nd ?_ upd_same⟩
      · have b1 := ne_of_none hb hd
        have b2 := ne_of_none hb hn
        rw [upd_ne b1, upd_ne b2, upd_ne b2, upd_ne b1, upd_ne b2]; exact hb
      · rw [upd_ne nd.symm]; exact upd_same
    | next => exact False.elim hq'
    | brk => exact False.elim hq'
    | cont => exact False.elim hq'
/-- C() -/
theorem pe_mk0E (c : MkCal X.prog X.w X.K X.mg X.base k x C kn dv) (hr : Room j X.A) (hk : k + 1 ≤ j) (hg : Gl X x) (hdb : (x == ("__debug__" : Str)) = false := by decide) : PE X (.Call (.Name x p) [] [] pos) (fun _ H Q => tNewE C kn dv H Q) := by
  obtain ⟨fI, fd, ps, ds, sp, F, i, t, b, v, _, _, law⟩ := c.ex
  refine ⟨fun pins s σ H Q I q => ?_⟩
  refine wpAny_Call_Name_kw (ld_glob I hg c.hm ?_ hdb)
  refine PySem.W.callWith_K0 I.kIn c.kC ?_
  show wpAny _ _ (call (.ref C) []) _ _ _
  cases v with
  | @cons _ u _ ur ru rn =>
  cases rn
  exact mk_run c.n0 F i t (hr.mono hk) (fun s u1 X1 => b s [u1] X1 (F.len _ _ _ _ (law (fun _ => none) 0 dv (fun _ _ => True) (fun _ _ _ => True) rfl fun _ _ _ => trivial))) ru (Nat.zero_le _) law I q
/-- C(v) -/
theorem pe_mk1E (c : MkCal X.prog X.w X.K X.mg X.base k x C kn dv) (hr : Room j X.A) (hk : k + 1 ≤ j) (hg : Gl X x) (ha : PA X (e :: es) ta) (hdb : (x == ("__debug__" : Str)) = false := by decide)
    (he : starEach (e :: es) X.env = (false, eval e X.env) :: starEach es X.env := by rfl) (hpl : (backTo pos (starEach es X.env)).any (·.1) = false := by rfl) :
    PE X (.Call (.Name x p) (e :: es) [] pos) (fun σ H Q => ta σ H fun vs H1 => ∃ z, vs = [z] ∧ tNewE C kn z H1 Q) := by
  obtain ⟨fI, fd, ps, ds, sp, F, i, t, _, _, b, _, law⟩ := c.ex
  refine ⟨fun pins s σ H Q I h => ?_⟩
  refine wpAny_Call_Name_kw (ld_glob I hg c.hm ?_ hdb)
  refine PySem.W.callWith_K (h₀ := X.base) I.ok.mod.kin c.kC (thn (ha.run pos pins s σ H _ I h) fun us s1 ⟨vs, H1, I1, r, z, ev, q⟩ => ⟨I1.kIn, ?_⟩) he hpl
  subst ev
  cases r with
  | @cons _ u _ ur ru rn =>
  cases rn
  exact mk_run c.n0 F i t (hr.mono hk) (fun s u1 X1 => by
    have := b s [u1, u] X1 (F.len _ _ _ _ (law (fun _ => none) 0 z (fun _ _ => True) (fun _ _ _ => True) rfl fun _ _ _ => trivial))
    simpa using this) ru (by show 1 ≤ sizeLine; decide) law I1 q
/-- C(k=v) -/
theorem pe_mkKE (c : MkCal X.prog X.w X.K X.mg X.base k x C kn dv) (hr : Room j X.A) (hk : k + 1 ≤ j) (hg : Gl X x) (hkw : PK X kws tk)
    (hall : (backToKw pos (keywordEach kws X.env)).all (·.1.isSome) = true := by rfl) (hks : (backToKw pos (keywordEach kws X.env)).filterMap (·.1) = [kn] := by rfl) (hdb : (x == ("__debug__" : Str)) = false := by decide)
    (hpl : ((backTo pos (starEach [] X.env)).any (·.1) || (backToKw pos (keywordEach kws X.env)).any (·.1.isNone)) = false := by rfl) :
    PE X (.Call (.Name x p) [] kws pos) (fun σ H Q => tk σ H fun vs H1 => ∃ z, vs = [z] ∧ tNewE C kn z H1 Q) := by
  obtain ⟨fI, fd, ps, ds, sp, F, i, t, _, _, _, b, law⟩ := c.ex
  refine ⟨fun pins s σ H Q I h => ?_⟩
  refine wpAny_Call_Name_kw (ld_glob I hg c.hm ?_ hdb)
  refine PySem.W.callWith_KW0 (h₀ := X.base) I.ok.mod.kin c.kC hall ?_ hpl
  refine thn (hkw.run pos pins s σ H _ I h) fun ws s1 ⟨zs, H1, I1, r, z, ez, q⟩ => ⟨I1.kIn, ?_⟩
  subst ez
  cases r with
  | @cons _ u _ ur ru rn =>
  cases rn
  rw [hks]
  exact mk_run (c.nK u) F i t (hr.mono hk) (fun s u1 X1 => b s u1 u X1) ru (Nat.zero_le _) law I1 q
/-- C() of a class without own __init__ -/
theorem pe_mkP {bmB : List Value} {B newId initId : String} (F : ExcBaseFacts B newId initId bmB) (q : PySem.W.excIn X.K C bmB newId = true) (gC : X.mg x = some (.ref C)) (kC : PySem.W.keepIn X.K (.ref C) = true) (hg : Gl X x) (hdb : (x == ("__debug__" : Str)) = false := by decide) :
    PE X (.Call (.Name x p) [] [] pos) (fun _ H Q => ∀ a, H a = none → Q (.ref a) (upd H a (ExV (.ref C) none a))) := by
  refine ⟨fun pins s σ H Q I h => ?_⟩
  refine wpAny_Call_Name_kw (ld_glob I hg gC ?_ hdb)
  refine PySem.W.callWith_K0 I.kIn kC ?_
  show wpAny _ _ (call (.ref C) []) _ _ _
  obtain ⟨bm, N, nm, qn, bs, hdct, sn, sub, ab, col, dd, k0, k1, k2, k3, k5, mN, hC, hN, hni, T⟩ := exc_obj I.kIn q
  refine wpAny_call_exc_subT F T hC hN hni (fun h' a hm => ?_) (Nat.zero_le _)
  have hn : H a = none := I.hok.gone hm.new
  obtain ⟨t, ht, _, _⟩ := hm.there
  exact ⟨.ref a, upd H a (ExV (.ref C) none a), I.laidN hm.keeps hm.new hn ⟨⟨_, _, ht, rfl, rfl, rfl⟩, ⟨_, ht⟩, fun _ _ ⟨o, v, q1, q2⟩ k => ⟨o, v, k o q1, q2⟩⟩, rfl, h a hn⟩
end
/-! the __init__ of a class over KeyError -/
def sp_IniK (K : PySem.W.Frag) (kn : Str) : Sp := fun vs H Q _ => ∃ (a C : Addr) (v : V), vs = [.ref a, v] ∧ OexK K C ∧ PySem.W.findIn K (.ref C) kn = some none ∧ H a = some (exo a C none) ∧
  ∀ dx, H dx = none → dx ≠ a → Q .non (upd (upd H dx (exd dx [(kn, v)])) a (exo a C (some dx)))
def tKeI (K : PySem.W.Frag) (ta : TA) : TE := fun σ H Q => ta σ H fun vs H1 => ∃ (a C : Addr) (ws : List V), vs = .ref a :: ws ∧ ws.length ≤ 1000 ∧ OexK K C ∧ H1 a = some (exo a C none) ∧ Q .non H1
def tOstK (K : PySem.W.Frag) (f : Str) (to te : TE) : TS := fun D σ H => te σ H fun y H1 => to σ H1 fun x H2 => ∃ a C : Addr, x = .ref a ∧ OexK K C ∧ PySem.W.findIn K (.ref C) f = some none ∧
  H2 a = some (exo a C none) ∧ ∀ dx, H2 dx = none → dx ≠ a → D.nx σ (upd (upd H2 dx (exd dx [(f, y)])) a (exo a C (some dx)))
theorem typ_KE : typeOf (.type "KeyError") = pure (.type "type") := by kernel_rfl
section
variable {X : Cx} {pins : List (Addr × Obj)} {σ : L2.St} {H : Hp} {s : Shared} {a C dx : Addr} {f : Str} {y : V} {u : Value} {Q : Unit → Shared → Prop} {E : Value → Shared → Prop} {A : Around} {o e : Expr} {es : List Expr} {to te : TE} {ta : TA} {p p' p1 p2 pos : Pos}
theorem ost_ke (T : OexK X.K C) (I : Inv X pins σ H s) (e : H a = some (exo a C none)) (hno : PySem.W.findIn X.K (.ref C) f = some none) (ry : RelV y u)
    (h : ∀ dx s', H dx = none → dx ≠ a → Inv X pins σ (upd (upd H dx (exd dx [(f, y)])) a (exo a C (some dx))) s' → Q () s') : wpAny (model X.prog X.w) A (setAttr (.ref a) f u) Q E s := by
  obtain ⟨nm, q, N, bs, sn, sub, ab, col, dd, k0, k1, k2, k3, k5, hC⟩ := T.cls
  have hcl : PySem.W.clsIn X.K C = some { name := nm, bases := bs, mro := .ref C :: keTail, ns := N, qualname := q, hasDict := true, slotNames := sn, subclasses := sub, abstract := ab, collection := col, hasDel := false } := by unfold PySem.W.clsIn; rw [hC] <;> rfl
  obtain ⟨t1, ho⟩ := exo_at I.hok e
  obtain ⟨hp, g, d, t, os⟩ := s
  refine PySem.W.set_plain I.kIn (ox := { cls := .ref C, dict := none, data := .fields #[.ref t1, .none, .none, .none, .bool false, .none] }) (od := none) ⟨ho, rfl, rfl, trivial⟩ T.sa ?_
  refine ke_osa I.kIn ho hcl rfl rfl hno (fun h' tk' dx k dn dne hx hn => ?_)
  have hnd : H dx = none := I.hok.fresh dn
  have nd : ∀ {b : Addr} {o : Obj}, hp.get? b = some o → b ≠ dx := fun {b o} q => Nat.ne_of_lt (Nat.lt_of_lt_of_le (Heap.lt_size q) dn)
  have na : ∀ {b : Addr}, H b = none → b ≠ a := fun {b} n z => by
    rw [z, e] at n
    cases n
  have Un1 : Un X.fs [] H (upd (upd H dx (exd dx [(f, y)])) a (exo a C (some dx))) hp h' := {
    keep := fun b o q n _ _ => k b o (na n) q
    slot := fun b o q n _ _ => ⟨o.slots, k b o (na n) q⟩
    free := fun b o q n _ => by rw [upd_ne (na n), upd_ne (nd q)]; exact n
    there := fun b o q _ => by
      by_cases hb : b = a
      · exact ⟨_, by rw [hb]; exact hx⟩
      · exact ⟨o, k b o hb q⟩
    tups := fun b xs q => by rw [upd_ne (at_ne e q exo_tup), upd_ne (ne_of_none q hnd)]; exact q
    frzs := fun b o v q => by rw [upd_ne (at_ne e q exo_frz), upd_ne (ne_of_none q hnd)]; exact q
    tbls := fun b ps q => ⟨#[], by rw [upd_ne (at_ne e q exo_tbl), upd_ne (ne_of_none q hnd), q]; simp⟩ }
  refine h dx _ hnd dne (I.un (t' := tk') Un1 fun b o q => ?_)
  by_cases hb : b = a
  · subst hb
    rw [upd_same] at q
    cases q
    exact exo_ok hx
  · rw [upd_ne hb] at q
    by_cases hd : b = dx
    · subst hd
      rw [upd_same] at q
      cases q
      exact exd_ok hn (relO_put (fs := []) ry fun g => True.intro)
    · rw [upd_ne hd] at q
      exact (I.hok b o q).stay (fun c v hc z => k c v (by
          rcases hc with hc | hc
          · rw [hc]; exact hb
          · exact at_ne e hc exo_own) z)
        (fun c hc => by rw [upd_ne (at_ne e hc exo_own), upd_ne (ne_of_none hc hnd)]; exact hc) (fun c xs hc => by rw [upd_ne (at_ne e hc exo_tup), upd_ne (ne_of_none hc hnd)]; exact hc)
theorem pe_keinit {pl : Sem Bool} (hg : Gl X "KeyError") (hm : X.mg "KeyError" = none) (vV : PySem.W.findCls X.K (.type "KeyError") (.type "type") "__init__" = some (.val (.builtin "KeyError.__init__"))) (ha : PA X (e :: es) ta)
    (hc : eval (.Call (.Attribute (.Name "KeyError" p1) "__init__" p2) (e :: es) [] pos) X.env = (do
      let ov ← eval (.Name "KeyError" p1) X.env
      standAt p2.atName
      let (f, first) ← holding [ov] (getMethod ov "__init__" pl)
      callWith pos f first (backTo pos (starEach (e :: es) X.env)) (backToKw pos (keywordEach [] X.env))) := by rfl)
    (he : starEach (e :: es) X.env = (false, eval e X.env) :: starEach es X.env := by rfl) (hpl : (backTo pos (starEach es X.env)).any (·.1) = false := by rfl) :
    PE X (.Call (.Attribute (.Name "KeyError" p1) "__init__" p2) (e :: es) [] pos) (tKeI X.K ta) := by
  refine ⟨fun pins s σ H Q I h => ?_⟩
  refine PySem.W.methodCall_KW (ld_blt I hg hm PyProof.Rows.Boot.«KeyError» ?_ (by decide) (by decide)) hc
  obtain ⟨m, fr⟩ := I.fr
  refine PySem.W.method_type fr I.ok.mod.kin typ_KE (by decide +kernel) vV (by decide +kernel) ?_
  show wpAny _ _ (callWith pos (Value.builtin "KeyError.__init__") [] (backTo pos (starEach (e :: es) X.env)) []) _ _ _
  refine PyProof.Rows.callWith_method1 (thn (ha.run pos pins _ σ H _ (I.tok _) h) fun us s1 ⟨vs, H1, I1, r1, a, C, ws, ev, hl, T, ea, q⟩ => ?_) he hpl
  subst ev
  cases r1 with
  | @cons _ u0 _ ur ra rw' =>
    obtain rfl : u0 = Value.ref a := ra
    have hlen : ur.length ≤ sizeLine := by
      rw [← Paired.length rw', sizeLine_eq]
      omega
    obtain ⟨nm, q', N, bs, sn, sub, ab, col, dd, k0, k1, k2, k3, k5, hC⟩ := T.cls
    obtain ⟨t1, ho⟩ := exo_at I1.hok ea
    obtain ⟨hp, g, d, t, os⟩ := s1
    refine wpAny_call (ke_init (I1.kIn _ _ hC) ho hlen fun h' t2 k hx => ?_)
    have J := I1.write (t' := t) (x := a) (e := a) (o := exo a C none) (by rw [ea]; exact True.intro) (.inl rfl) k ⟨_, hx⟩ (exo_ok hx)
    have eu : upd H1 a (exo a C none) = H1 := by
      funext b
      by_cases hb : b = a
      · rw [hb, upd_same, ea]
      · rw [upd_ne hb]
    rw [eu] at J
    exact ⟨.non, H1, J, rfl, q⟩
theorem ps_ostK (ho : PE X o to) (he : PE X e te) (hs : swapsWith e (some (.Attribute o f p')) pos.line X.env = pure false := by rfl) : PS X (.Assign [.Attribute o f p'] e pos) (tOstK X.K f to te) := by
  refine ⟨fun pins s σ H D I h => ?_⟩
  refine plainObj_wpAny_Assign_Attribute (thn (he.run pins s σ H _ I h) fun v s1 ⟨y, H1, I1, r1, q1⟩ => thn (ho.run pins s1 σ H1 _ I1 q1) fun u s2 ⟨x, H2, I2, r2, a, C, ex, T, hno, ea, q⟩ => ?_) hs
  subst ex
  obtain rfl : u = Value.ref a := r2
  exact ost_ke T I2 ea hno r1 fun dx s' n ne J => ⟨σ, _, J, q dx n ne⟩
end
/-! what sp_Ini gives -/
theorem ini_law {K : PySem.W.Frag} {C : Addr} {kn : Str} (o : OexC K C) (no : PySem.W.findIn K (.ref C) kn = some none) (H1 : Hp) (a : Addr) (z : V) (Q : VK) (E : XK) (_ : H1 a = none)
    (q : ∀ d, H1 d = none → d ≠ a → Q .non (upd (upd (upd H1 a (exo a C none)) d (exd d [(kn, z)])) a (exo a C (some d)))) : sp_Ini K kn [.ref a, z] (upd H1 a (exo a C none)) Q E :=
  ⟨a, C, z, rfl, o, no, upd_same, fun dx n ne => q dx (by rw [upd_ne ne] at n; exact n) ne⟩
theorem ini_lawK {K : PySem.W.Frag} {C : Addr} {kn : Str} (o : OexK K C) (no : PySem.W.findIn K (.ref C) kn = some none) (H1 : Hp) (a : Addr) (z : V) (Q : VK) (E : XK) (_ : H1 a = none)
    (q : ∀ d, H1 d = none → d ≠ a → Q .non (upd (upd (upd H1 a (exo a C none)) d (exd d [(kn, z)])) a (exo a C (some d)))) : sp_IniK K kn [.ref a, z] (upd H1 a (exo a C none)) Q E :=
  ⟨a, C, z, rfl, o, no, upd_same, fun dx n ne => q dx (by rw [upd_ne ne] at n; exact n) ne⟩
end My

namespace My
open PySem PySem.Spec PyProof.Rows L2
/-- where the classes of errors stand -/
structure Cs where
  RootError : Addr
  NoPoly : Addr
  NoHouse : Addr
  NoLetter : Addr
  NoCount : Addr
  NoMove : Addr
  NoWord : Addr
  Full : Addr
  NoDeed : Addr
  NoText : Addr
  NoLine : Addr
  NoOver : Addr
  NoName : Addr
  Twice : Addr
  NoNumber : Addr
structure Txt (K : PySem.W.Frag) (mg : Str → Option Value) (c : Cs) : Prop where
  z_set : mg "set" = none
  z_abs : mg "abs" = none
  z_len : mg "len" = none
  z_range : mg "range" = none
  z_max : mg "max" = none
  z_enumerate : mg "enumerate" = none
  z_isinstance : mg "isinstance" = none
  z_int : mg "int" = none
  z_bool : mg "bool" = none
  z_tuple : mg "tuple" = none
  z_list : mg "list" = none
  z_ValueError : mg "ValueError" = none
  z_ZeroDivisionError : mg "ZeroDivisionError" = none
  z_KeyError : mg "KeyError" = none
  g_RootError : mg "RootError" = some (.ref c.RootError)
  g_NoPoly : mg "NoPoly" = some (.ref c.NoPoly)
  g_NoHouse : mg "NoHouse" = some (.ref c.NoHouse)
  g_NoLetter : mg "NoLetter" = some (.ref c.NoLetter)
  g_NoCount : mg "NoCount" = some (.ref c.NoCount)
  g_NoMove : mg "NoMove" = some (.ref c.NoMove)
  g_NoWord : mg "NoWord" = some (.ref c.NoWord)
  g_Full : mg "Full" = some (.ref c.Full)
  g_NoDeed : mg "NoDeed" = some (.ref c.NoDeed)
  g_NoText : mg "NoText" = some (.ref c.NoText)
  g_NoLine : mg "NoLine" = some (.ref c.NoLine)
  g_NoOver : mg "NoOver" = some (.ref c.NoOver)
  g_NoName : mg "NoName" = some (.ref c.NoName)
  g_Twice : mg "Twice" = some (.ref c.Twice)
  g_NoNumber : mg "NoNumber" = some (.ref c.NoNumber)
end My
namespace My
open PySem PySem.Spec PyProof.Rows L2
open C8 (Cal pe_c pe_gc)
/-- all but a stand as they stood -/
def Xt (a : Addr) (H H' : Hp) : Prop := ∀ b o, b ≠ a → H b = some o → H' b = some o
theorem Xt.refl (a : Addr) (H : Hp) : Xt a H H := fun _ _ _ h => h
theorem Xt.trans {a : Addr} {H H1 H2 : Hp} (x : Xt a H H1) (y : Xt a H1 H2) : Xt a H H2 := fun b o n h => y b o n (x b o n h)
theorem Xt.of {a : Addr} {H H' : Hp} (x : Same H H') : Xt a H H' := fun b o _ h => x b o h
theorem Xt.upd {a : Addr} {H : Hp} {o : HO} : Xt a H (upd H a o) := fun b u n h => by rw [upd_ne n]; exact h
/-- a purse at a, drawn from less than m times -/
def Pur (H : Hp) (a : Addr) (m : Nat) : Prop := ∃ d c k : Int, H a = some (.lst [.int d, .int c, .int k]) ∧ 0 ≤ d ∧ 0 ≤ c ∧ c < 2147483647 ∧ 0 ≤ k ∧ k ≤ m
theorem Pur.mono {H : Hp} {a : Addr} {m n : Nat} (h : Pur H a m) (l : m ≤ n) : Pur H a n := by
  obtain ⟨d, c, k, h1, h2, h3, h4, h5, h6⟩ := h
  exact ⟨d, c, k, h1, h2, h3, h4, h5, by omega⟩
theorem Pur.same {H H' : Hp} {a : Addr} {m : Nat} (h : Pur H a m) (s : Same H H') : Pur H' a m := by
  obtain ⟨d, c, k, h1, h2⟩ := h
  exact ⟨d, c, k, s _ _ h1, h2⟩
theorem Pur.at {H : Hp} {a : Addr} {m : Nat} (h : Pur H a m) : ∃ o, H a = some o := by
  obtain ⟨d, c, k, h1, h2⟩ := h
  exact ⟨_, h1⟩
theorem Xt.same1 {a : Addr} {H H1 H2 : Hp} (x : Xt a H H1) (y : Same H1 H2) : Xt a H H2 := x.trans (Xt.of y)
theorem Xt.updNew {a D : Addr} {H H1 : Hp} {o : HO} (x : Xt a H H1) (h : H D = none) : Xt a H (L2.upd H1 D o) := fun b u nb hb => by
  rw [upd_ne (ne_of_none hb h)]
  exact x b u nb hb
theorem Xt.free {a D : Addr} {H H1 : Hp} (x : Xt a H H1) (n : D ≠ a) (h : H1 D = none) : H D = none := by
  cases e : H D with
  | none => rfl
  | some o => rw [x D o n e] at h; cases h
theorem Xt.back {a : Addr} {H H1 H2 : Hp} (s : Same H H1) (x : Xt a H1 H2) (h : H a = none) : Same H H2 := fun b o hb => x b o (ne_of_none hb h) (s b o hb)
theorem Pur.updNe {H : Hp} {a D : Addr} {m : Nat} {o : HO} (p : Pur H a m) (h : D ≠ a) : Pur (L2.upd H D o) a m := by
  obtain ⟨d, c, k, h1, h2⟩ := p
  exact ⟨d, c, k, by rw [upd_ne h.symm]; exact h1, h2⟩
theorem fmod_bd {x j : Int} (h : 0 < j) : 0 ≤ x.fmod j ∧ x.fmod j < j := ⟨Int.fmod_nonneg_of_pos x h, Int.fmod_lt_of_pos x h⟩
section
variable {c : Cs} {P : Program} {w : World} {K : PySem.W.Frag} {mg : Str → Option Value} {base : Heap}

abbrev s_Lcell : Stmt := top 17
abbrev N_Lcell : List Str := ["_law_script", "_law_k"]
abbrev P_Lcell : List Str := ["_law_script", "_law_k"]
theorem sc_Lcell : FnScope N_Lcell ["_law_script", "_law_k"] (defScope s_Lcell) := ⟨rfl, rfl, rfl, by decide +kernel, rfl, by decide +kernel, by decide +kernel⟩

def sp_Lcell (K : PySem.W.Frag) : Sp := fun vs H Q _ => ∃ (a : Addr) (ns : List Int) (j : Nat), vs = [.ref a, .int (j : Nat)] ∧ SqL K H a (ns.map V.int) ∧ ∀ z : Int, Q (.int z) H
theorem ok_Lcell (T : Txt K mg c) {f : Addr} {fd : FuncData} (F : L2.Fun K "_law_cell" "_law_cell" s_Lcell f fd) : FnOk P w K mg base CX0 1 f fd P_Lcell (sp_Lcell K) := by
  refine F.ok sc_Lcell (fun vs H Q E h => ?_) (fun cdv A outer s H vs Q E hr h => ?_)
  · obtain ⟨a, ns, j, rfl, _⟩ := h
    rfl
  · obtain ⟨a, ns, j, rfl, hS, k⟩ := h
    refine ⟨_, (pss_cons (ps_if (pt_cmpR op_lt (pv 1) (pe_callB call_len_seq (by rfl) T.z_len (by decide +kernel) (pa_cons (pv 0) pa_nil)) (nomark _)) (pss_one (ps_ret (pe_ix ix_list (pv 0) (pv 1) (fun _ _ => rfl)))) pss_nil)
      (pss_one (ps_ret pe_int))), ?_⟩
    refine ⟨_, rfl, _, rfl, a, _, rfl, .inl hS, _, _, rfl, rfl, _, rfl, ?_⟩
    refine ite2 (fun hc => ?_) (fun hc => ?_)
    · have hj : j < ns.length := by
        have := of_decide_eq_true hc
        rw [List.length_map] at this
        omega
      refine ⟨_, rfl, _, rfl, a, _, _, _, rfl, rfl, hS, atI_map (atI_nat (List.getElem?_eq_getElem hj)), k _⟩
    · exact k _

abbrev s_Lmixed : Stmt := top 18
abbrev N_Lmixed : List Str := ["_law_cell_here", "_law_k", "_law_number"]
abbrev P_Lmixed : List Str := ["_law_cell_here", "_law_k"]
theorem sc_Lmixed : FnScope N_Lmixed ["_law_cell_here", "_law_k"] (defScope s_Lmixed) := ⟨rfl, rfl, rfl, by decide +kernel, rfl, by decide +kernel, by decide +kernel⟩

def sp_Lmixed : Sp := fun vs H Q _ => ∃ c k : Int, vs = [.int c, .int k] ∧ Bd (2 ^ 31) c ∧ Bd (2 ^ 40) k ∧ ∀ z : Int, 0 ≤ z → z < 2147483587 → Q (.int z) H
theorem ok_Lmixed (T : Txt K mg c) {f : Addr} {fd : FuncData} (F : L2.Fun K "_law_mixed" "_law_mixed" s_Lmixed f fd) : FnOk P w K mg base CX0 1 f fd P_Lmixed sp_Lmixed := by
  refine F.ok sc_Lmixed (fun vs H Q E h => ?_) (fun cdv A outer s H vs Q E hr h => ?_)
  · obtain ⟨c, k, rfl, _⟩ := h
    rfl
  · obtain ⟨c, k, rfl, hc, hk, q⟩ := h
    refine ⟨_, (pss_cons (ps_set (i := 2) sc_Lmixed.nd rfl (by first | exact Or.inl rfl | exact Or.inr rfl) (pe_op op_modN (pe_op op_add (pe_op op_add (pe_op op_add (pe_op op_mulW (pv 0) pe_int) (pe_op op_mulW (pe_op op_mulW pe_int (pv 1)) (pv 1))) (pv 1)) pe_int) pe_int))
      (pss_cons (ps_set (i := 2) sc_Lmixed.nd rfl (by first | exact Or.inl rfl | exact Or.inr rfl) (pe_op op_modN (pe_op op_add (pe_op op_mulW (pv 2) (pv 2)) pe_int) pe_int))
      (pss_one (ps_ret (pe_op op_modN (pe_op op_mulW (pv 2) pe_int) pe_int))))), ?_⟩
    have m1 : ∀ x : Int, Bd 2147483647 (x.fmod 2147483647) := fun x => by
      have := fmod_bd (x := x) (j := 2147483647) (by decide)
      unfold Bd; omega
    have m2 : ∀ x : Int, Bd 2147483629 (x.fmod 2147483629) := fun x => by
      have := fmod_bd (x := x) (j := 2147483629) (by decide)
      unfold Bd; omega
    refine ⟨_, rfl, _, _, rfl, rfl, hc.cm (bd_lit (n := 1103515245)), _, rfl, _, _, rfl, rfl, (bd_lit (n := 7919)).cm hk, _, rfl, _, _, rfl, rfl, ((bd_lit (n := 7919)).mul hk).cm hk, _, _, rfl, rfl, _, rfl, _, _, rfl, rfl, _, _, rfl, rfl, _, _, rfl, rfl, (show (2147483647 : Int) ≠ 0 by decide), ?_⟩
    refine ⟨_, rfl, _, rfl, _, _, rfl, rfl, (m1 _).cm (m1 _), _, _, rfl, rfl, _, _, rfl, rfl, (show (2147483629 : Int) ≠ 0 by decide), ?_⟩
    refine ⟨_, rfl, _, _, rfl, rfl, (m2 _).cm (bd_lit (n := 48271)), _, _, rfl, rfl, (show (2147483587 : Int) ≠ 0 by decide), ?_⟩
    have := fmod_bd (x := (Int.fmod (Int.fmod (c * 1103515245 + 7919 * k * k + k + 1) 2147483647 * Int.fmod (c * 1103515245 + 7919 * k * k + k + 1) 2147483647 + 69621) 2147483629) * 48271) (j := 2147483587) (by decide)
    exact q _ this.1 this.2

abbrev s_Lpurse : Stmt := top 19
abbrev N_Lpurse : List Str := ["_law_script", "_law_spot", "_law_cell_here"]
abbrev P_Lpurse : List Str := ["_law_script", "_law_spot"]
theorem sc_Lpurse : FnScope N_Lpurse ["_law_script", "_law_spot"] (defScope s_Lpurse) := ⟨rfl, rfl, rfl, by decide +kernel, rfl, by decide +kernel, by decide +kernel⟩

def sp_Lpurse (K : PySem.W.Frag) : Sp := fun vs H Q _ => ∃ (a : Addr) (ns : List Int) (j : Nat), vs = [.ref a, .int (j : Nat)] ∧ SqL K H a (ns.map V.int) ∧ j ≤ 100 ∧
  ∀ H' p, Same H H' → H p = none → Pur H' p (1000 * j) → Q (.ref p) H'
theorem ok_Lpurse (T : Txt K mg c) {f : Addr} {fd : FuncData} (F : L2.Fun K "_law_purse" "_law_purse" s_Lpurse f fd) (h_Lcell : Cal P w K mg base 1 "_law_cell" (sp_Lcell K) []) : FnOk P w K mg base CX0 2 f fd P_Lpurse (sp_Lpurse K) := by
  refine F.ok sc_Lpurse (fun vs H Q E h => ?_) (fun cdv A outer s H vs Q E hr h => ?_)
  · obtain ⟨a, ns, j, rfl, _⟩ := h
    rfl
  · obtain ⟨a, ns, j, rfl, hS, hj, k⟩ := h
    refine ⟨_, (pss_cons (ps_set (i := 2) sc_Lpurse.nd rfl (by first | exact Or.inl rfl | exact Or.inr rfl) (pe_c h_Lcell hr (by decide) rfl (pa_cons (pv 0) (pa_cons (pv 1) pa_nil))))
      (pss_one (ps_ret (pe_lst (pa_cons (pe_op op_modN (pe_callB (call_max2 rfl) (by rfl) T.z_max (by decide +kernel) (pa_cons (pe_op op_sub (pv 2) (pe_op op_powW pe_int pe_int)) (pa_cons pe_int pa_nil))) (pe_op op_powW (pe_op op_powW pe_int pe_int) pe_int)) (pa_cons (pe_op op_modN (pv 2) pe_int) (pa_cons (pe_op op_mulW pe_int (pv 1)) pa_nil))))))), ?_⟩
    refine ⟨_, rfl, _, rfl, a, ns, j, rfl, hS, fun z => ?_⟩
    have bj : Bd 100 (j : Int) := by unfold Bd; omega
    refine ⟨_, rfl, _, _, rfl, rfl, ⟨by decide, by decide +kernel⟩, _, _, rfl, rfl, _, _, rfl, _, _, rfl, rfl, ⟨by decide, by decide +kernel⟩, _, _, rfl, rfl, ⟨by decide, by decide +kernel⟩, _, _, rfl, rfl, (show ((10 : Int) ^ (60 : Int).toNat) ^ (40 : Int).toNat ≠ 0 by decide +kernel), _, rfl, _, _, rfl, rfl, (show (2147483647 : Int) ≠ 0 by decide), _, rfl, _, _, rfl, rfl, (bd_lit (n := 1000)).cm bj, sz3, fun p hp => ?_⟩
    refine k _ p (same_new hp) hp ⟨_, _, _, upd_same, ?_, ?_, ?_, ?_, ?_⟩
    · exact (fmod_bd (by decide +kernel)).1
    · exact (fmod_bd (j := 2147483647) (by decide)).1
    · exact (fmod_bd (j := 2147483647) (by decide)).2
    · omega
    · omega

abbrev s_Ldraw : Stmt := top 20
abbrev N_Ldraw : List Str := ["_law_purse_here", "_law_out_of", "_law_number", "_law_k", "_law_drawn"]
abbrev P_Ldraw : List Str := ["_law_purse_here", "_law_out_of"]
theorem sc_Ldraw : FnScope N_Ldraw ["_law_purse_here", "_law_out_of"] (defScope s_Ldraw) := ⟨rfl, rfl, rfl, by decide +kernel, rfl, by decide +kernel, by decide +kernel⟩

def sp_Ldraw : Sp := fun vs H Q _ => ∃ (a : Addr) (n : Int) (m : Nat), vs = [.ref a, .int n] ∧ 0 < n ∧ n < 2 ^ 200 ∧ Pur H a m ∧ m ≤ 2 ^ 30 ∧
  ∀ H' (z : Int), Xt a H H' → Pur H' a (m + 20) → 0 ≤ z → z < n → Q (.int z) H'
theorem bits_le {n : Int} (h0 : 0 < n) (h : n < 2 ^ 200) : Builtin.Int.intBits n ≤ 200 := by
  have h1 : n.natAbs < 2 ^ 200 := by
    have : (n.natAbs : Int) < ((2 ^ 200 : Nat) : Int) := by
      have e : ((2 ^ 200 : Nat) : Int) = 2 ^ 200 := by decide
      rw [e]; omega
    exact Int.ofNat_lt.mp this
  have h2 := PySem.Flt.log2_lt_of (by decide : 0 < 200) h1
  unfold Builtin.Int.intBits
  split <;> omega
theorem ok_Ldraw (T : Txt K mg c) {f : Addr} {fd : FuncData} (F : L2.Fun K "_law_draw" "_law_draw" s_Ldraw f fd) (h_Lmixed : Cal P w K mg base 1 "_law_mixed" sp_Lmixed []) : FnOk P w K mg base CX0 2 f fd P_Ldraw sp_Ldraw := by
  refine F.ok sc_Ldraw (fun vs H Q E h => ?_) (fun cdv A outer s H vs Q E hr h => ?_)
  · obtain ⟨a, n, m, rfl, _⟩ := h
    rfl
  · obtain ⟨a, n, m, rfl, hn, hn2, ⟨d, c, k0, ha, hd, hc, hc2, hk, hk2⟩, hm, k⟩ := h
    refine ⟨_, (pss_cons (ps_if (pt_cmpR op_gt (pe_ix ix_list (pv 0) pe_int (fun _ _ => rfl)) pe_int (nomark _)) (pss_cons (ps_set (i := 4) sc_Ldraw.nd rfl (by first | exact Or.inl rfl | exact Or.inr rfl) (pe_op op_modN (pe_ix ix_list (pv 0) pe_int (fun _ _ => rfl)) (pv 1)))
      (pss_cons (ps_asg (pe_op op_fdivA (pe_ix ix_list (pv 0) pe_int (fun _ _ => rfl)) (pv 1)) (pg_sub (pv 0) pe_int set_list))
      (pss_one (ps_ret (pv 4))))) pss_nil)
      (pss_cons (ps_set (i := 2) sc_Ldraw.nd rfl (by first | exact Or.inl rfl | exact Or.inr rfl) pe_int)
      (pss_cons (ps_for PassesOwn.never rfl (pi_range1 rfl T.z_range (pa_cons (pe_op op_add pe_int (pe_op op_fdivA (pe_bits (pv 1)) pe_int)) pa_nil)) (pg_name (i := 3) sc_Ldraw.nd rfl (by first | exact Or.inl rfl | exact Or.inr rfl)) (pss_cons (ps_asg (pe_op op_add (pe_ix ix_list (pv 0) pe_int (fun _ _ => rfl)) pe_int) (pg_sub (pv 0) pe_int set_list))
      (pss_one (ps_set (i := 2) sc_Ldraw.nd rfl (by first | exact Or.inl rfl | exact Or.inr rfl) (pe_op op_add (pe_op op_mulW (pv 2) pe_int) (pe_c h_Lmixed hr (by decide) rfl (pa_cons (pe_ix ix_list (pv 0) pe_int (fun _ _ => rfl)) (pa_cons (pe_ix ix_list (pv 0) pe_int (fun _ _ => rfl)) pa_nil))))))))
      (pss_one (ps_ret (pe_op op_modN (pv 2) (pv 1))))))), ?_⟩
    refine ⟨_, rfl, a, _, _, _, rfl, rfl, SqL.of ha, rfl, _, _, rfl, rfl, _, rfl, ?_⟩
    have szn : Sz 200 n := by
      unfold Sz
      have : (n.natAbs : Int) < ((2 ^ 200 : Nat) : Int) := by
        have e : ((2 ^ 200 : Nat) : Int) = 2 ^ 200 := by decide
        rw [e]; omega
      exact Int.ofNat_lt.mp this
    refine ite2 (fun hc0 => ?_) (fun hc0 => ?_)
    · have hd0 : 0 < d := of_decide_eq_true hc0
      refine ⟨_, rfl, a, _, _, _, rfl, rfl, SqL.of ha, rfl, _, rfl, _, _, rfl, rfl, Int.ne_of_gt hn, ?_⟩
      refine ⟨_, rfl, a, _, _, _, rfl, rfl, SqL.of ha, rfl, _, rfl, _, _, rfl, rfl, ⟨Int.ne_of_gt hn, szn.log (by decide) (by decide)⟩, _, rfl, a, _, _, _, rfl, rfl, ha, rfl, ?_⟩
      refine ⟨_, rfl, k _ _ Xt.upd ⟨_, _, _, upd_same, ?_, hc, hc2, hk, by omega⟩ (fmod_bd hn).1 (fmod_bd hn).2⟩
      rw [Int.fdiv_eq_ediv_of_nonneg d (by omega)]
      exact Int.ediv_nonneg hd (by omega)
    · refine ⟨_, rfl, _, rfl, _, _, rfl, rfl, ⟨(show (30 : Int) ≠ 0 by decide), (show (30 : Int).natAbs.log2 < 9000 by decide +kernel)⟩, _, _, rfl, rfl, ?_⟩
      have hb := bits_le hn hn2
      have hq : 0 ≤ Int.fdiv ((Builtin.Int.intBits n : Nat) : Int) 30 ∧ Int.fdiv ((Builtin.Int.intBits n : Nat) : Int) 30 ≤ 6 := by
        rw [Int.fdiv_eq_ediv_of_nonneg _ (by decide)]
        omega
      generalize Int.fdiv ((Builtin.Int.intBits n : Nat) : Int) 30 = e at hq ⊢
      refine ⟨1 + e, rfl, (show -(2 ^ 62 : Int) ≤ 1 + e by omega), (show 1 + e < (2 ^ 62 : Int) by omega), for_range (lo := 0) (n := (1 + e).toNat) (fun i σ H' => ∃ (fig : Int) (o1 o2 : Option V), σ = [some (.ref a), some (.int n), some (.int fig), o1, o2] ∧ Xt a H H' ∧ Pur H' a (m + i) ∧ Sz (40 * i + 1) fig ∧ 0 ≤ fig) ⟨0, none, none, rfl, Xt.refl _ _, ⟨d, c, k0, ha, hd, hc, hc2, hk, hk2⟩, (by decide : (0 : Int).natAbs < 2 ^ 1), by decide⟩ ?_ ?_⟩
      · rintro i σ H' hi ⟨fig, o1, o2, rfl, x1, ⟨d', c', k', ha', hd', hc', hc2', hk', hk2'⟩, sf, f0⟩
        have hi7 : i < 7 := by omega
        refine ⟨_, rfl, a, _, _, _, rfl, rfl, SqL.of ha', rfl, _, _, rfl, rfl, _, rfl, a, _, _, _, rfl, rfl, ha', rfl, ?_⟩
        refine ⟨_, rfl, _, _, rfl, rfl, sf.cmul (show Sz 40 2147483587 by unfold Sz; decide) (by omega) (by decide) (by omega), ?_⟩
        refine ⟨_, rfl, a, _, _, _, rfl, rfl, SqL.of upd_same, rfl, _, rfl, a, _, _, _, rfl, rfl, SqL.of upd_same, rfl, c', k' + 1, rfl, ?_, ?_, fun z z0 z1 => ?_⟩
        · unfold Bd; omega
        · unfold Bd; omega
        · refine ⟨_, _, rfl, rfl, ?_⟩
          refine ⟨fig * 2147483587 + z, _, _, rfl, x1.trans Xt.upd, ⟨d', c', k' + 1, upd_same, hd', hc', hc2', by omega, by omega⟩, ?_, ?_⟩
          · have s1 : Sz (40 * i + 1 + 39) (fig * 2147483587) := sf.mul (show Sz 39 2147483587 by unfold Sz; decide)
            have s2 : Sz (40 * i + 1 + 39) z := Sz.mono (n := 39) (by unfold Sz; omega) (by omega)
            exact (s1.add s2).mono (by omega)
          · have : 0 ≤ fig * 2147483587 := Int.mul_nonneg f0 (by decide)
            show 0 ≤ fig * 2147483587 + z
            omega
      · rintro σ H' ⟨fig, o1, o2, rfl, x1, hp, sf, f0⟩
        refine ⟨_, rfl, _, rfl, _, _, rfl, rfl, Int.ne_of_gt hn, ?_⟩
        exact k _ _ x1 (hp.mono (by omega)) (fmod_bd hn).1 (fmod_bd hn).2
end
end My

/-! ### zip(a, b, strict=True) of two lists of one length (the library carries zip without strict) -/
namespace PySem
section
variable {prog : Program} {w : World} {A : Around} {E : Value → Shared → Prop} {s : Shared}
/-- the record of a strict zip -/
abbrev ZipS (h : Heap) (z TI TO : Addr) (f0 : Value) : Prop :=
  h.get? z = some { cls := .type "zip", dict := none, data := .fields #[f0, .bool false, .bool true, .ref TI, .ref TO], slots := #[] }
theorem nextOrEnd_item {it l : Addr} {i : Nat} {items : Array Value} {x : Value} {Q : Option Value → Shared → Prop} (hit : s.heap.IsListIter it l i) (hl : s.heap.IsList l items) (hx : items[i]? = some x)
    (hQ : ∀ h', h'.IsListIter it l (i + 1) → Heap.SameBut it s.heap h' → Q (some x) { s with heap := h' }) : wpAny (model prog w) A (Builtin.SmallTypes.nextOrEnd (.ref it)) Q E s := by
  unfold Builtin.SmallTypes.nextOrEnd
  exact wpAny_bind (wpAny_attempt (wpAny_nextOf_list_item hit hl hx fun h' q1 q2 => wpAny_pure (hQ h' q1 q2)))
theorem nextOrEnd_end {it l : Addr} {i : Nat} {items : Array Value} {Q : Option Value → Shared → Prop} (hh : A.handled = none) (hit : s.heap.IsListIter it l i) (hl : s.heap.IsList l items) (hx : items[i]? = none)
    (hQ : ∀ h', Heap.ExtBut it s.heap h' → Q none { s with heap := h' }) : wpAny (model prog w) A (Builtin.SmallTypes.nextOrEnd (.ref it)) Q E s := by
  unfold Builtin.SmallTypes.nextOrEnd
  refine wpAny_bind (wpAny_attempt (wpAny_nextOf_list_end hh hit hl hx fun h' e q1 ⟨o, ho, hc⟩ => ?_))
  exact wpAny_bind (wpAny_isInstance (T := "StopIteration") (b := true) ⟨o, ho, hc⟩ isSubtype_stop (wpAny_pure (hQ h' q1)))
/-- what stays of a turn -/
abbrev ZKeep (z TO i1 i2 : Addr) (h h' : Heap) : Prop := ∀ c o, c ≠ z → c ≠ TO → c ≠ i1 → c ≠ i2 → h.get? c = some o → h'.get? c = some o
theorem zipS_item {z TI TO i1 i2 l1 l2 : Addr} {k1 k2 : Nat} {xs ys : Array Value} {x y a b : Value} {Q : Value → Shared → Prop} (D : ZipApart z TI TO i1 i2 l1 l2)
    (hz : ZipS s.heap z TI TO .none) (hTI : IsPair s.heap TI (.ref i1) (.ref i2)) (hTO : IsPair s.heap TO a b) (h1 : s.heap.IsListIter i1 l1 k1) (h2 : s.heap.IsListIter i2 l2 k2) (hl1 : s.heap.IsList l1 xs) (hl2 : s.heap.IsList l2 ys) (hx : xs[k1]? = some x) (hy : ys[k2]? = some y)
    (hQ : ∀ h', ZipS h' z TI TO (rawInt s.heap.objs.size) → IsPair h' TO x y → h'.IsListIter i1 l1 (k1 + 1) → h'.IsListIter i2 l2 (k2 + 1) → IsPair h' s.heap.objs.size x y → h'.objs.size = s.heap.objs.size + 1 → ZKeep z TO i1 i2 s.heap h' → Q (.ref s.heap.objs.size) { s with heap := h' }) :
    wpAny (model prog w) A (Builtin.«zip.__next__» ⟨[.ref z], []⟩) (fun fin s' => ∃ v, fin = .done (.ret v) ∧ Q v s') E s := by
  show wpAny _ _ (field (.ref z) 2 >>= _) _ _ _
  refine wpAny_bind (wpAny_field hz rfl (x := .bool true) rfl ?_)
  show wpAny _ _ (field (.ref z) 3 >>= _) _ _ _
  refine wpAny_bind (wpAny_field hz rfl (x := .ref TI) rfl (wpAny_bind (wpAny_seqItems hTI rfl ?_)))
  show wpAny _ _ (Builtin.SmallTypes.ownedTupleIsFree (.ref z) >>= _) _ _ _
  refine wpAny_bind ?_
  unfold Builtin.SmallTypes.ownedTupleIsFree
  refine wpAny_bind (wpAny_field hz rfl (x := .none) rfl (wpAny_pure ?_))
  simp only [if_true]
  refine wpAny_bind (wpAny_rule (wpAny_bind (wpAny_field hz rfl (x := .ref TO) rfl (wpAny_bind (wpAny_setField_rec hz (by simp) fun g1 gz g1s => ?_)))))
  have hz1 : ZipS g1 z TI TO .ellipsis := gz
  refine wpAny_bind ?_
  simp only [List.zipIdx_cons, List.zipIdx_nil, List.forIn_cons, List.forIn_nil]
  refine wpAny_bind (wpAny_bind (wpAny_onRaise ?_))
  show wpAny _ _ (Builtin.SmallTypes.nextOrEnd (.ref i1)) _ _ _
  refine nextOrEnd_item (h1.extBut g1s.extBut D.i1z) (hl1.extBut g1s.extBut D.l1z) hx fun g2 i12 g2s => ?_
  have hTO2 : IsPair g2 TO a b := g2s.extBut _ _ D.TOi1 (g1s.extBut _ _ D.TOz hTO)
  refine wpAny_bind (wpAny_seqItems hTO2 rfl (wpAny_bind (wpAny_updateSeq_pair hTO2 fun g3 t3 g3s => ?_)))
  have hTO3 : IsPair g3 TO x b := t3
  refine wpAny_bind (wpAny_letGo (wpAny_pure ?_))
  refine wpAny_bind (wpAny_bind (wpAny_onRaise ?_))
  show wpAny _ _ (Builtin.SmallTypes.nextOrEnd (.ref i2)) _ _ _
  refine nextOrEnd_item (((h2.extBut g1s.extBut D.i2z).extBut g2s.extBut D.i12.symm).extBut g3s.extBut D.TOi2.symm) (((hl2.extBut g1s.extBut D.l2z).extBut g2s.extBut D.l2i1).extBut g3s.extBut D.l2TO) hy fun g4 i24 g4s => ?_
  have hTO4 : IsPair g4 TO x b := g4s.extBut _ _ D.TOi2 hTO3
  refine wpAny_bind (wpAny_seqItems hTO4 rfl (wpAny_bind (wpAny_updateSeq_pair hTO4 fun g5 t5 g5s => ?_)))
  have hTO5 : IsPair g5 TO x y := t5
  refine wpAny_bind (wpAny_letGo (wpAny_pure (wpAny_pure (wpAny_bind (wpAny_seqItems hTO5 rfl (wpAny_bind (wpAny_newTuple ?_)))))))
  have sz : g5.objs.size = s.heap.objs.size := by rw [g5s.1, g4s.1, g3s.1, g2s.1, g1s.1]
  have kp : ZKeep z TO i1 i2 s.heap g5 := fun c o c1 c2 c3 c4 e => g5s.extBut _ _ c2 (g4s.extBut _ _ c4 (g3s.extBut _ _ c2 (g2s.extBut _ _ c3 (g1s.extBut _ _ c1 e))))
  have hz5 : ZipS g5 z TI TO .ellipsis := g5s.extBut _ _ D.TOz.symm (g4s.extBut _ _ D.i2z.symm (g3s.extBut _ _ D.TOz.symm (g2s.extBut _ _ D.i1z.symm hz1)))
  have i15 : g5.IsListIter i1 l1 (k1 + 1) := ((i12.extBut g3s.extBut D.TOi1.symm).extBut g4s.extBut D.i12).extBut g5s.extBut D.TOi1.symm
  have i25 : g5.IsListIter i2 l2 (k2 + 1) := i24.extBut g5s.extBut D.TOi2.symm
  have zlt : z < g5.objs.size := Heap.lt_size hz5
  show wpAny _ _ (Builtin.SmallTypes.ownedTupleHandOut (.ref z) (.ref g5.objs.size) >>= _) _ _ _
  refine wpAny_bind ?_
  unfold Builtin.SmallTypes.ownedTupleHandOut
  have hz6 : ZipS (g5.push { cls := .type "tuple", data := .seq #[x, y] }) z TI TO .ellipsis := Heap.get?_push_of_some _ hz5
  refine wpAny_bind (wpAny_setField_rec hz6 (by simp) fun g7 z7 g7s => ?_)
  have hz7 : ZipS g7 z TI TO (rawInt g5.objs.size) := z7
  refine wpAny_setField_rec hz7 (by simp) fun g8 z8 g8s => ?_
  have hz8 : ZipS g8 z TI TO (rawInt g5.objs.size) := z8
  have up : ∀ c o, c ≠ z → g5.get? c = some o → g8.get? c = some o := fun c o c1 e => g8s.extBut _ _ c1 (g7s.extBut _ _ c1 (Heap.get?_push_of_some _ e))
  have T8 : IsPair g8 g5.objs.size x y := g8s.extBut _ _ (Nat.ne_of_gt zlt) (g7s.extBut _ _ (Nat.ne_of_gt zlt) (Heap.get?_push_size _ rfl))
  have s8 : g8.objs.size = g5.objs.size + 1 := by rw [g8s.1, g7s.1, Heap.size_push]
  rw [sz] at hz8 T8 s8
  refine wpAny_pure ⟨_, rfl, ?_⟩
  show Q (.ref g5.objs.size) _
  rw [sz]
  exact hQ g8 hz8 (up _ _ D.TOz hTO5) (i15.at fun o e => up _ o D.i1z e) (i25.at fun o e => up _ o D.i2z e) T8 s8 fun c o c1 c2 c3 c4 e => up c o c1 (kp c o c1 c2 c3 c4 e)
theorem zipS_end {z TI TO i1 i2 l1 l2 : Addr} {k1 k2 : Nat} {xs ys : Array Value} {a b : Value} {Q : Fin → Shared → Prop} (hh : A.handled = none) (D : ZipApart z TI TO i1 i2 l1 l2)
    (hz : ZipS s.heap z TI TO .none) (hTI : IsPair s.heap TI (.ref i1) (.ref i2)) (hTO : IsPair s.heap TO a b) (h1 : s.heap.IsListIter i1 l1 k1) (h2 : s.heap.IsListIter i2 l2 k2) (hl1 : s.heap.IsList l1 xs) (hl2 : s.heap.IsList l2 ys) (hx : xs[k1]? = none) (hy : ys[k2]? = none)
    (hE : ∀ h' e, ZKeep z TO i1 i2 s.heap h' → (∃ o, h'.get? e = some o ∧ o.cls = .type "StopIteration") → E (.ref e) { s with heap := h' }) :
    wpAny (model prog w) A (Builtin.«zip.__next__» ⟨[.ref z], []⟩) Q E s := by
  show wpAny _ _ (field (.ref z) 2 >>= _) _ _ _
  refine wpAny_bind (wpAny_field hz rfl (x := .bool true) rfl ?_)
  show wpAny _ _ (field (.ref z) 3 >>= _) _ _ _
  refine wpAny_bind (wpAny_field hz rfl (x := .ref TI) rfl (wpAny_bind (wpAny_seqItems hTI rfl ?_)))
  show wpAny _ _ (Builtin.SmallTypes.ownedTupleIsFree (.ref z) >>= _) _ _ _
  refine wpAny_bind ?_
  unfold Builtin.SmallTypes.ownedTupleIsFree
  refine wpAny_bind (wpAny_field hz rfl (x := .none) rfl (wpAny_pure ?_))
  simp only [if_true]
  refine wpAny_bind (wpAny_rule (wpAny_bind (wpAny_field hz rfl (x := .ref TO) rfl (wpAny_bind (wpAny_setField_rec hz (by simp) fun g1 gz g1s => ?_)))))
  have hz1 : ZipS g1 z TI TO .ellipsis := gz
  refine wpAny_bind ?_
  simp only [List.zipIdx_cons, List.zipIdx_nil, List.forIn_cons, List.forIn_nil]
  refine wpAny_bind (wpAny_bind (wpAny_onRaise ?_))
  show wpAny _ _ (Builtin.SmallTypes.nextOrEnd (.ref i1)) _ _ _
  refine nextOrEnd_end hh (h1.extBut g1s.extBut D.i1z) (hl1.extBut g1s.extBut D.l1z) hx fun g2 g2s => ?_
  have hz2 : ZipS g2 z TI TO .ellipsis := g2s _ _ D.i1z.symm hz1
  have h2x : ∀ {g3 : Heap}, Heap.ExtBut i1 g1 g2 → Heap.SameBut z g2 g3 → g3.IsListIter i2 l2 k2 := fun q1 q2 => ((h2.extBut g1s.extBut D.i2z).extBut q1 D.i12.symm).extBut q2.extBut D.i2z
  have hl2x : ∀ {g3 : Heap}, Heap.ExtBut i1 g1 g2 → Heap.SameBut z g2 g3 → g3.IsList l2 ys := fun q1 q2 => ((hl2.extBut g1s.extBut D.l2z).extBut q1 D.l2i1).extBut q2.extBut D.l2z
  refine wpAny_bind (wpAny_setField_rec hz2 (by simp) fun g3 _ g3s => ?_)
  refine wpAny_bind ?_
  show wpAny _ _ (((Builtin.SmallTypes.nextOrEnd (.ref i2) >>= _) >>= _) >>= _) _ _ _
  refine wpAny_bind (wpAny_bind (wpAny_bind (nextOrEnd_end hh (h2x g2s g3s) (hl2x g2s g3s) hy fun g4 g4s => ?_)))
  refine wpAny_pure ?_
  refine wpAny_pure ?_
  refine wpAny_bind (wpAny_rule ?_)
  unfold Builtin.SmallTypes.stopIteration
  refine wpAny_bind ?_
  simp only [newExc, newTuple]
  refine wpAny_bind (wpAny_newObj_type (wpAny_bind (m := firstArgMember _ _) (wpAny_of_eq (a := Value.none) (by first | rfl | (simp only [firstArgMember]; rfl)) (wpAny_newObj_type ?_ (by size_fits)))) (by size_fits))
  simp only [raiseNew]
  refine wpAny_bind (wpAny_handled ?_)
  first | rw [show A.in1.handled = none from hh] | rw [hh]
  exact wpAny_bind (wpAny_pure (wpAny_throw (hE _ _ (fun c o c1 c2 c3 c4 q => Heap.get?_push_of_some _ (Heap.get?_push_of_some _ (g4s _ _ c4 (g3s.extBut _ _ c1 (g2s _ _ c3 (g1s.extBut _ _ c1 q)))))) ⟨_, Heap.get?_push_size _ rfl, rfl⟩)))
end
end PySem
namespace PySem
section
variable {prog : Program} {w : World} {A : Around} {E : Value → Shared → Prop} {s : Shared}
theorem pyNext_zipS_item {z TI TO i1 i2 l1 l2 : Addr} {k1 k2 : Nat} {xs ys : Array Value} {x y a b : Value} {Q : Option Value → Shared → Prop} (D : ZipApart z TI TO i1 i2 l1 l2)
    (hz : ZipS s.heap z TI TO .none) (hTI : IsPair s.heap TI (.ref i1) (.ref i2)) (hTO : IsPair s.heap TO a b) (h1 : s.heap.IsListIter i1 l1 k1) (h2 : s.heap.IsListIter i2 l2 k2) (hl1 : s.heap.IsList l1 xs) (hl2 : s.heap.IsList l2 ys) (hx : xs[k1]? = some x) (hy : ys[k2]? = some y)
    (hQ : ∀ h', ZipS h' z TI TO (rawInt s.heap.objs.size) → IsPair h' TO x y → h'.IsListIter i1 l1 (k1 + 1) → h'.IsListIter i2 l2 (k2 + 1) → IsPair h' s.heap.objs.size x y → h'.objs.size = s.heap.objs.size + 1 → ZKeep z TO i1 i2 s.heap h' → Q (some (.ref s.heap.objs.size)) { s with heap := h' }) :
    wpAny (model prog w) A (pyNext (.ref z)) Q E s := by
  have ty : s.TypeIs (.ref z) "zip" := ⟨_, hz, rfl⟩
  have step := zipS_item (prog := prog) (w := w) (A := A.in1) (E := fun e s' => E e s') (Q := fun v s' => Q (some v) s') D hz hTI hTO h1 h2 hl1 hl2 hx hy hQ
  unfold pyNext
  exact wpAny_bind (wpAny_attempt (wpAny_callSpecial?_slot (name := Str.ofString "__next__") ty F.slot_zip_next (wpAny_call_entry F.slot_zip_next ty F.entry_zip_next
    (zipS_item D hz hTI hTO h1 h2 hl1 hl2 hx hy fun h' q1 q2 q3 q4 q5 q6 q7 => wpAny_pure (hQ h' q1 q2 q3 q4 q5 q6 q7)) (F.args_zip_next_1 _))))
theorem pyNext_zipS_end {z TI TO i1 i2 l1 l2 : Addr} {k1 k2 : Nat} {xs ys : Array Value} {a b : Value} {Q : Option Value → Shared → Prop} (hh : A.handled = none) (D : ZipApart z TI TO i1 i2 l1 l2)
    (hz : ZipS s.heap z TI TO .none) (hTI : IsPair s.heap TI (.ref i1) (.ref i2)) (hTO : IsPair s.heap TO a b) (h1 : s.heap.IsListIter i1 l1 k1) (h2 : s.heap.IsListIter i2 l2 k2) (hl1 : s.heap.IsList l1 xs) (hl2 : s.heap.IsList l2 ys) (hx : xs[k1]? = none) (hy : ys[k2]? = none)
    (hQ : ∀ h', ZKeep z TO i1 i2 s.heap h' → Q none { s with heap := h' }) : wpAny (model prog w) A (pyNext (.ref z)) Q E s := by
  have ty : s.TypeIs (.ref z) "zip" := ⟨_, hz, rfl⟩
  unfold pyNext
  refine wpAny_bind (wpAny_attempt (wpAny_callSpecial?_slot (name := Str.ofString "__next__") ty F.slot_zip_next (wpAny_call_entry F.slot_zip_next ty F.entry_zip_next
    (zipS_end hh D hz hTI hTO h1 h2 hl1 hl2 hx hy fun h' e hk ⟨o, ho, hc⟩ => ?_) (F.args_zip_next_1 _))))
  exact wpAny_bind (wpAny_isInstance (T := "StopIteration") (b := true) ⟨o, ho, hc⟩ isSubtype_stop (wpAny_pure (hQ _ hk)))
theorem goZipS {elts : List Expr} {x1} {pos : Pos} {z TI TO T : Addr} {Q : Unit → Shared → Prop} (hz : ZipS s.heap z TI TO (rawInt T)) (hQ : ∀ h', ZipS h' z TI TO .none → Heap.SameBut z s.heap h' → Q () { s with heap := h' }) :
    wpAny (model prog w) A (letOwnedTupleGo (.Tuple elts x1 pos) (.ref z) (.ref T)) Q E s := by
  unfold letOwnedTupleGo
  refine wpAny_bind (wpAny_load hz ?_)
  show wpAny _ _ (if (["enumerate", "zip", "dict_itemiterator", "dict_reverseitemiterator", "odict_iterator", "itertools.zip_longest", "itertools.pairwise"].contains "zip" && (#[rawInt T, .bool false, .bool true, .ref TI, .ref TO] : Array Value)[0]? == some (rawInt T)) = true then _ else _) Q E s
  rw [if_pos (by simp)]
  refine wpAny_bind (wpAny_rule ?_)
  show wpAny _ _ (setField (.ref z) 0 .none) Q E s
  exact wpAny_setField_rec hz (by simp) fun h' q1 q2 => hQ h' q1 q2
theorem pyIter_zipS {z TI TO : Addr} {f0 : Value} {Q : Value → Shared → Prop} (hz : ZipS s.heap z TI TO f0) (h : Q (.ref z) s) : wpAny (model prog w) A (pyIter (.ref z)) Q E s := by
  have ty : s.TypeIs (.ref z) "zip" := ⟨_, hz, rfl⟩
  refine wpAny_pyIter_slot ty F.slot_zip_iter (wpAny_call_entry F.slot_zip_iter ty F.entry_zip_iter (show wpAny _ _ (ret (.ref z)) _ _ s from ?_) (F.args_zip_iter_1 _))
  exact wpAny_pure ⟨_, rfl, "zip", _, ty, F.slot_zip_next.lookup, h⟩
/-! the making, by a built-in class called with keywords -/
theorem callType_kw {T newId initId : String} {Bn Bi : Builtin} {args : List Value} {kw : List (Str × Value)} {S : Spec} {Q Q₁ : Value → Shared → Prop} (ft : TypeCalled T newId initId)
    (hct : checkTypeCall T ⟨args, kw⟩ = pure ()) (hcn : checkBuiltinCall newId ⟨.type T :: args, kw⟩ = pure ()) (eN : entryFor table newId = some Bn) (eI : entryFor table initId = some Bi) (g : Meets (Bn ⟨.type T :: args, kw⟩) S) (h : S A.in1 (wants Q₁ E) s)
    (nx : ∀ obj s₁, Q₁ obj s₁ → s₁.TypeIs obj T ∧ argsOk initId ⟨obj :: args, kw⟩ ∧ ∃ Si, Meets (Bi ⟨obj :: args, kw⟩) Si ∧ Si A.in1 (wants (fun r s₂ => r = .none ∧ Q obj s₂) E) s₁) :
    wpAny (model prog w) A (call (.type T) args kw) Q E s := by
  obtain ⟨c, tl, hmro⟩ := ft.mro
  have hmade := ft.made; have hsub := ft.sub
  refine wpAny_call (codeAny_of_tree (show wpAny _ _ (callAny (.type T) _) _ _ _ from ?_))
  refine wpAny_pure ⟨Code.quiet_builtin _ (by decide +kernel), codeAny_builtin F.entry_type_call ?_⟩
  rw [Around.under_plain (weight_type_call_type T args kw) (units_type_call_type T args kw)]
  have h1 := ft.notType; have h2 := ft.canCreate
  repeat any_goals (first | assumption | wp_step)
  refine codeAny_mono (codeAny_call_builtin ft.plain eN (wpAny_of_eq hcn (g prog w A.in1 _ s h))) fun r s₁ hr => ?_
  cases r with
  | error e => exact hr
  | ok fl =>
    cases fl with
    | ret obj =>
      obtain ⟨hT, hok, Si, gi, hsi⟩ := nx _ _ hr
      have hli := ft.init.lookup; have hbi := ft.init.bind obj
      repeat any_goals (first | assumption | wp_step)
      refine codeAny_mono (codeAny_call_builtin ft.init.plain eI (ft.init.check _ _ _ _ _ _ _ _ hT hok (gi prog w A.in1 _ s₁ hsi))) fun r₂ s₂ hr₂ => ?_
      cases r₂ with
      | error e => exact hr₂
      | ok fl₂ =>
        cases fl₂ with
        | ret r =>
          obtain ⟨rfl, hq⟩ := hr₂
          repeat any_goals (first | assumption | wp_step)
        | _ => exact hr₂.elim
    | _ => exact hr.elim
theorem object_init_kw {T newId : String} {self a : Value} {rest : List Value} {kw : List (Str × Value)} (hl : typeLookup (.type T) "__init__" = pure (some (.builtin "object.__init__"))) (hm : Bind.madeBy (.type T) = pure (some newId)) (hne : (some newId != some "object.__new__") = true) :
    Meets (Builtin.«object.__init__» ⟨self :: a :: rest, kw⟩) (fun _ R s => s.TypeIs self T ∧ R (.ok (.ret .none)) s) := by
  refine Meets.of_wp fun prog w A R s ⟨hT, hq⟩ => ?_
  repeat any_goals (first | assumption | wp_step)
  exact ⟨_, rfl, hq⟩
/-- strict=True -/
abbrev kwS : List (Str × Value) := [("strict", .bool true)]
abbrev zsH (h : Heap) (l1 l2 : Addr) : Heap := (zipH4 h l1 l2).push { cls := .type "zip", data := .fields #[.none, .bool false, .bool true, .ref (zipH2 h l1 l2).objs.size, .ref (zipH3 h l1 l2).objs.size] }
theorem meets_zipS_new (l1 l2 : Addr) (xs ys : Array Value) :
    Meets (Builtin.«zip.__new__» ⟨[.type "zip", .ref l1, .ref l2], kwS⟩) (fun _ R s => s.heap.IsList l1 xs ∧ s.heap.IsList l2 ys ∧ R (.ok (.ret (.ref (zipH4 s.heap l1 l2).objs.size))) { s with heap := zsH s.heap l1 l2 }) :=
  .of_wp fun prog w A R s h => by
    obtain ⟨hp, g, d, tk, os⟩ := s; obtain ⟨q1, q2, h⟩ := h
    have hsub := sub_zip
    have hL1 : Heap.IsList (Shared.heap ⟨hp, g, d, tk, os⟩) l1 xs := q1
    have hL2 : Heap.IsList (Shared.heap ⟨hp.push { cls := .type "list_iterator", data := .fields #[.ref l1, .int 0 0] }, g, d, tk, os⟩) l2 ys := Heap.IsList.push q2 _
    wp_walk using wpAny_pyIter_list hL1, wpAny_pyIter_list hL2
    exact ⟨_, rfl, h⟩
theorem call_zipS {l1 l2 : Addr} {xs ys : Array Value} {Q : Value → Shared → Prop} (hl1 : s.heap.IsList l1 xs) (hl2 : s.heap.IsList l2 ys)
    (h : ∀ h', ZipS h' (s.heap.objs.size + 4) (s.heap.objs.size + 2) (s.heap.objs.size + 3) .none → IsPair h' (s.heap.objs.size + 2) (.ref s.heap.objs.size) (.ref (s.heap.objs.size + 1)) → IsPair h' (s.heap.objs.size + 3) .none .none →
      h'.IsListIter s.heap.objs.size l1 0 → h'.IsListIter (s.heap.objs.size + 1) l2 0 → h'.objs.size = s.heap.objs.size + 5 → (∀ c o, s.heap.get? c = some o → h'.get? c = some o) → Q (.ref (s.heap.objs.size + 4)) { s with heap := h' }) :
    wpAny (model prog w) A (call (.type "zip") [.ref l1, .ref l2] kwS) Q E s := by
  have ok : ∀ obj : Value, argsOk "object.__init__" ⟨[obj, .ref l1, .ref l2], kwS⟩ := fun obj => by
    unfold argsOk; rw [signature?_of (id := "object.__init__") (n := ['_', '_', 't', 'i', 'n', 'i', '_', '_']) (o := ['t', 'c', 'e', 'j', 'b', 'o']) (by kernel_rfl) F.owner_object]; kernel_rfl
  refine callType_kw F.called_zip (by kernel_rfl) (by kernel_rfl) F.entry_zip_new F.entry_object_init (meets_zipS_new l1 l2 xs ys) (Q₁ := fun obj s₁ => s₁.TypeIs obj "zip" ∧ Q obj s₁) ⟨hl1, hl2, ?_⟩ fun obj s₁ hq => ⟨hq.1, ok obj, _, object_init_kw F.called_zip.init.lookup F.called_zip.made (by decide), hq.1, rfl, hq.2⟩
  obtain ⟨z1, z2, z3, z4, z5⟩ : (zipH1 s.heap l1).objs.size = s.heap.objs.size + 1 ∧ (zipH2 s.heap l1 l2).objs.size = s.heap.objs.size + 2 ∧ (zipH3 s.heap l1 l2).objs.size = s.heap.objs.size + 3 ∧ (zipH4 s.heap l1 l2).objs.size = s.heap.objs.size + 4 ∧ (zsH s.heap l1 l2).objs.size = s.heap.objs.size + 5 := by
    refine ⟨?_, ?_, ?_, ?_, ?_⟩ <;> simp only [Heap.size_push]
  have up : ∀ {h : Heap} {c : Addr} {o o' : Obj}, h.get? c = some o → (h.push o').get? c = some o := fun e => Heap.get?_push_of_some _ e
  have g5 : (zsH s.heap l1 l2).get? (zipH4 s.heap l1 l2).objs.size = some _ := Heap.get?_push_size _ rfl
  have g4 : (zsH s.heap l1 l2).get? (zipH3 s.heap l1 l2).objs.size = some _ := up (Heap.get?_push_size _ rfl)
  have g3 : (zsH s.heap l1 l2).get? (zipH2 s.heap l1 l2).objs.size = some _ := up (up (Heap.get?_push_size _ rfl))
  have g2 : (zsH s.heap l1 l2).get? (zipH1 s.heap l1).objs.size = some _ := up (up (up (Heap.get?_push_size _ rfl)))
  have g1 : (zsH s.heap l1 l2).get? s.heap.objs.size = some _ := up (up (up (up (Heap.get?_push_size _ rfl))))
  show _ ∧ _
  rw [z2, z3, z4] at g5
  rw [z1, z2] at g3
  rw [z3] at g4
  rw [z1] at g2
  rw [z4]
  exact ⟨⟨_, g5, rfl⟩, h _ g5 g3 g4 ⟨_, g1, rfl, rfl⟩ ⟨_, g2, rfl, rfl⟩ z5 fun c o x => up (up (up (up (up x))))⟩
end
end PySem

/-! ### the walk over a strict zip of two lists of one length -/
namespace My
open PySem PySem.Spec PyProof.Rows L2
/-- as the library's walk over zip; it ends where both end -/
def ItzS (K : PySem.W.Frag) (a b : Addr) : It :=
  ⟨(Itz K a b).go, (Itz K a b).yld, fun i H => ∃ xs ys : List V, SqL K H a xs ∧ SqL K H b ys ∧ xs.length ≤ i ∧ ys.length ≤ i⟩
theorem turn_zipS {P : Program} {w : World} {K : PySem.W.Frag} {elts : List Expr} {kk : Nat} {tpos : Pos} {a b z TI TO i1 i2 : Addr} (D : ZipApart z TI TO i1 i2 a b) :
    Turn P w K (.Tuple elts kk tpos) (ItzS K a b) [z, TI, TO, i1, i2] z (fun i h => ZipS h z TI TO .none ∧ IsPair h TI (.ref i1) (.ref i2) ∧ (∃ x y, IsPair h TO x y) ∧ h.IsListIter i1 a i ∧ h.IsListIter i2 b i) := by
  have five : ∀ {c : Addr}, c ∈ [z, TI, TO, i1, i2] → c = z ∨ c = TI ∨ c = TO ∨ c = i1 ∨ c = i2 := fun h => by simpa using h
  refine ⟨by simp, fun i h ⟨hz, hTI, ⟨x, y, hTO⟩, ⟨o1, e1, _, d1⟩, ⟨o2, e2, _, d2⟩⟩ c hc => ?_, fun i h h' ⟨hz, hTI, ⟨x, y, hTO⟩, h1, h2⟩ k => ⟨k z (by simp) _ hz, k TI (by simp) _ hTI, ⟨x, y, k TO (by simp) _ hTO⟩, h1.at fun o q => k i1 (by simp) o q, h2.at fun o q => k i2 (by simp) o q⟩, ?_, ?_, fun A i s Q E st h => pyIter_zipS st.1 h⟩
  · rcases five hc with q | q | q | q | q <;> subst q
    · exact ⟨_, hz, fun v q => nomatch q⟩
    · exact ⟨_, hTI, fun v q => nomatch q⟩
    · exact ⟨_, hTO, fun v q => nomatch q⟩
    · exact ⟨o1, e1, fun v q => by rw [d1] at q; cases q⟩
    · exact ⟨o2, e2, fun v q => by rw [d2] at q; cases q⟩
  · intro X hP hw hK hc i pins s σ H E I hf ⟨hz, hTI, ⟨x0, y0, hTO⟩, h1, h2⟩ hg
    subst hP hw hK
    obtain ⟨xs, ys, x, y, hqx, hqy, hx, hy⟩ := hg
    obtain ⟨its, rv, p, _⟩ := I.list hqx
    obtain ⟨its2, rv2, p2, _⟩ := I.list hqy
    obtain ⟨u, hu, ru⟩ := rv.get hx
    obtain ⟨u2, hu2, ru2⟩ := rv2.get hy
    have zl : z < s.heap.objs.size := Heap.lt_size hz
    refine pyNext_zipS_item D hz hTI hTO h1 h2 p.isList p2.isList (x := u) (y := u2) (by simpa using hu) (by simpa using hu2) fun h' z' TO' a1 a2 hT hsz hk => ?_
    refine ⟨_, rfl, goZipS (s := { s with heap := h' }) z' fun h'' z'' sb => ?_⟩
    have hT2 : h''.get? s.heap.objs.size = some { cls := .type "tuple", data := .seq #[u, u2] } := (sb.2 _ (Nat.ne_of_gt zl)).trans hT
    have new : ObjOk X.prog X.w (upd H s.heap.objs.size (.tup [x, y])) h'' s.heap.objs.size (.tup [x, y]) := ⟨by show 2 ≤ sizeLine; decide, [u, u2], .cons ru (.cons ru2 .nil), ⟨_, hT2, rfl, _, rfl⟩⟩
    have I1 : Inv X pins σ (upd H s.heap.objs.size (.tup [x, y])) { s with heap := h'' } :=
      I.turnedNew (t' := s.toks) (ch := [z, TI, TO, i1, i2]) (fun c o hb q => (sb.2 c (fun q' => hb (by simp [q']))).trans (hk c o (fun q' => hb (by simp [q'])) (fun q' => hb (by simp [q'])) (fun q' => hb (by simp [q'])) (fun q' => hb (by simp [q'])) q)) hf (Nat.le_refl _) new
    refine ⟨.ref s.heap.objs.size, _, I1, rfl, ⟨_, x, y, rfl, I.hok.fresh (Nat.le_refl _), rfl, fun l hl => by rw [I.list_inj hl hqx]; exact hx, fun l hl => by rw [I.list_inj hl hqy]; exact hy⟩, ⟨z'', (sb.2 _ D.TIz).trans (hk _ _ D.TIz D.TITO D.TIi1 D.TIi2 hTI), ⟨u, u2, (sb.2 _ D.TOz).trans TO'⟩, a1.at fun o q => (sb.2 _ D.i1z).trans q, a2.at fun o q => (sb.2 _ D.i2z).trans q⟩, fun c hcm => ?_⟩
    have hlt : c < s.heap.objs.size := by
      rcases five hcm with q | q | q | q | q <;> subst q
      · exact zl
      · exact Heap.lt_size hTI
      · exact Heap.lt_size hTO
      · obtain ⟨_, e1, _⟩ := h1; exact Heap.lt_size e1
      · obtain ⟨_, e2, _⟩ := h2; exact Heap.lt_size e2
    rw [upd_ne (Nat.ne_of_lt hlt)]
    exact (hf c hcm).1
  · intro X hP hw hK hc i pins s σ H E I hf ⟨hz, hTI, ⟨x0, y0, hTO⟩, h1, h2⟩ hg
    subst hP hw hK
    obtain ⟨xs, ys, hqx, hqy, le1, le2⟩ := hg
    obtain ⟨its, rv, p, _⟩ := I.list hqx
    obtain ⟨its2, rv2, p2, _⟩ := I.list hqy
    have l1 := rv.length
    have l2 := rv2.length
    exact pyNext_zipS_end (I.ok.hd hc) D hz hTI hTO h1 h2 p.isList p2.isList (by simp; omega) (by simp; omega) fun h' hk => ⟨rfl, I.turnedL (t' := s.toks) (ch := [z, TI, TO, i1, i2]) (fun c o hb q =>
      hk c o (fun q' => hb (by simp [q'])) (fun q' => hb (by simp [q'])) (fun q' => hb (by simp [q'])) (fun q' => hb (by simp [q'])) q) hf⟩
theorem callWith_typeK {M : Model} {A : Around} {E : Value → Shared → Prop} {s : Shared} {env : Env} {pos : Pos} {T : String} {e : Expr} {rest : List Expr} {kws : List Keyword} {Q : Value → Shared → Prop}
    (h : wpAny M A (spliced (backTo pos (starEach (e :: rest) env))) (fun vs s₁ => wpAny M A (evalAll ((backToKw pos (keywordEach kws env)).map (·.2))) (fun ks s₂ => wpAny M A (call (.type T) vs (((backToKw pos (keywordEach kws env)).filterMap (·.1)).zip ks)) Q E s₂) E s₁) E s)
    (he : backTo pos (starEach (e :: rest) env) = (false, eval e env) :: backTo pos (starEach rest env)) (hpl : (backTo pos (starEach (e :: rest) env)).any (·.1) = false) (hall : (backToKw pos (keywordEach kws env)).all (·.1.isSome) = true) (hkw : (backToKw pos (keywordEach kws env)).any (·.1.isNone) = false) :
    wpAny M A (callWith pos (.type T) [] (backTo pos (starEach (e :: rest) env)) (backToKw pos (keywordEach kws env))) Q E s := by
  have ev : wpAny M A (evalArgs (.type T) true (backTo pos (starEach (e :: rest) env)) (backToKw pos (keywordEach kws env))) (fun a s₁ => wpAny M A (call (.type T) ([] ++ a.pos) a.kw) Q E s₁) E s := by
    rw [he] at h ⊢
    exact evalArgs_kwB hall h
  unfold callWith
  refine wpAny_bind (wpAny_holding (wpAny_mono ev (fun a s₁ h₁ => wpAny_bind (wpAny_standAt ?_)) fun _ _ x => x))
  rw [hpl, hkw]
  exact wpAny_bind (wpAny_pure (wpAny_bind (wpAny_mono h₁ (fun r s₂ hr => wpAny_bind (wpAny_holding (wpAny_point (wpAny_pure hr)))) fun _ _ x => x)))
def iZipS (K : PySem.W.Frag) (ta : TA) : TI := fun σ H R => ta σ H fun vs H1 => ∃ a b xs ys, vs = [.ref a, .ref b] ∧ SqL K H1 a xs ∧ SqL K H1 b ys ∧ R (ItzS K a b) H1
theorem pi_zipS {X : Cx} {e e2 : Expr} {ta : TA} {p pos tpos : Pos} {elts : List Expr} {kk : Nat} {kws : List Keyword} (hg : Gl X "zip") (hm : X.mg "zip" = none) (ha : PA X [e, e2] ta) (hk : PK X kws (tCons (tC (.bl true)) tNil))
    (he : backTo pos (starEach [e, e2] X.env) = (false, eval e X.env) :: backTo pos (starEach [e2] X.env) := by rfl) (hpl : (backTo pos (starEach [e, e2] X.env)).any (·.1) = false := by rfl)
    (hall : (backToKw pos (keywordEach kws X.env)).all (·.1.isSome) = true := by rfl) (hnone : (backToKw pos (keywordEach kws X.env)).any (·.1.isNone) = false := by rfl) (hks : (backToKw pos (keywordEach kws X.env)).filterMap (·.1) = [Str.ofString "strict"] := by rfl) :
    PI X (.Tuple elts kk tpos) (.Call (.Name "zip" p) [e, e2] kws pos) (iZipS X.K ta) := by
  refine ⟨fun pins s σ H R I h => ?_⟩
  refine wpAny_Call_Name_kw (ld_blt I hg hm PyProof.Rows.boot_zip ?_ (by decide) (by decide))
  refine callWith_typeK (thn (ha.run pos pins s σ H _ I h) fun us s1 ⟨vs, H1, I1, r1, q1⟩ => thn (hk.run pos pins s1 σ H1 (fun zs H2 => zs = [.bl true] ∧ H2 = H1) I1 ⟨rfl, rfl⟩) fun ws s2 ⟨zs, H2, I2, r2, e1, e2⟩ => ?_) he hpl hall hnone
  subst e1 e2
  rw [hks]
  obtain ⟨w1, rfl, rw1⟩ := vals1 r2
  cases rw1
  obtain ⟨a, b, xs, ys, ex, hqx, hqy, q⟩ := q1
  subst ex
  obtain ⟨u1, u2, rfl, ra, rb⟩ := vals2 r1
  cases ra
  cases rb
  obtain ⟨its, rv, p1, _⟩ := I2.list hqx
  obtain ⟨its2, rv2, p2, _⟩ := I2.list hqy
  refine call_zipS p1.isList p2.isList fun h' hz hTI hTO h1 h2 hsz hk => pyIter_zipS hz ?_
  have I3 : Inv X pins σ H2 { s2 with heap := h' } := I2.kept (t' := s2.toks) hk
  refine ⟨s2.heap.objs.size + 4, [s2.heap.objs.size + 4, s2.heap.objs.size + 2, s2.heap.objs.size + 3, s2.heap.objs.size, s2.heap.objs.size + 1], _, _, H2, rfl, I3, turn_zipS (PySem.W.ktu_apart s2.heap.objs.size a b p1.lt p2.lt), ⟨hz, hTI, ⟨_, _, hTO⟩, h1, h2⟩, fun c hcm => ?_, q⟩
  have hle : s2.heap.objs.size ≤ c := by
    have : c = s2.heap.objs.size + 4 ∨ c = s2.heap.objs.size + 2 ∨ c = s2.heap.objs.size + 3 ∨ c = s2.heap.objs.size ∨ c = s2.heap.objs.size + 1 := by simpa using hcm
    rcases this with q | q | q | q | q <;> subst q
    · exact Nat.le_add_right _ _
    · exact Nat.le_add_right _ _
    · exact Nat.le_add_right _ _
    · exact Nat.le_refl _
    · exact Nat.le_add_right _ _
  exact I2.fpOk hle (I2.hok.fresh hle)
end My

/-! ### a layer of data over the hand layer: what a def does, told without the heap -/
namespace My
open PySem PySem.Spec PyProof.Rows L2
open C8 (Cal pe_c pe_gc)
/-- data -/
inductive Dat where
  | non | bl (b : Bool) | int (i : Int) | str (x : Str) | lst (ds : List Dat) | tup (ds : List Dat) | ins (C : Addr) (fs : List (Str × Dat)) | exc (C : Addr) (fs : List (Str × Dat))
/-- a field that may be filled later -/
def cachF (f : Str) : Bool := f == "known" || f == "moved"
mutual
inductive Rp (H : Hp) : V → Dat → Prop
  | non : Rp H .non .non
  | bl (b : Bool) : Rp H (.bl b) (.bl b)
  | int (i : Int) : Rp H (.int i) (.int i)
  | str (x : Str) : Rp H (.str x) (.str x)
  | lst {a : Addr} {xs : List V} {ds : List Dat} : H a = some (.lst xs) → RpL H xs ds → Rp H (.ref a) (.lst ds)
  | tup {a : Addr} {xs : List V} {ds : List Dat} : H a = some (.tup xs) → RpL H xs ds → Rp H (.ref a) (.tup ds)
  | ins {a C dx : Addr} {fvs : List (Str × V)} {fs : List (Str × Dat)} : H a = some (.ins C dx fvs) → RpF H fvs fs → (∀ f, cachF f = false → fs.lookup f = none → fvs.lookup f = none) → Rp H (.ref a) (.ins C fs)
  | exc0 {a C : Addr} : H a = some (ExV (.ref C) none a) → Rp H (.ref a) (.exc C [])
  | exc1 {a C d : Addr} {fvs : List (Str × V)} {fs : List (Str × Dat)} : H a = some (ExV (.ref C) (some d) a) → H d = some (.xd fvs) → RpF H fvs fs → Rp H (.ref a) (.exc C fs)
inductive RpL (H : Hp) : List V → List Dat → Prop
  | nil : RpL H [] []
  | cons {v : V} {d : Dat} {vs : List V} {ds : List Dat} : Rp H v d → RpL H vs ds → RpL H (v :: vs) (d :: ds)
inductive RpF (H : Hp) : List (Str × V) → List (Str × Dat) → Prop
  | nil {fvs : List (Str × V)} : RpF H fvs []
  | cons {fvs : List (Str × V)} {f : Str} {v : V} {d : Dat} {fs : List (Str × Dat)} : cachF f = false → fvs.lookup f = some v → Rp H v d → RpF H fvs fs → RpF H fvs ((f, d) :: fs)
end
/-- what becomes of an object: it stays, but for the fields that may be filled -/
structure Kp (fs fs' : List (Str × V)) : Prop where
  look : ∀ f, cachF f = false → fs'.lookup f = fs.lookup f
  keys : fs'.map Prod.fst = fs.map Prod.fst
def Lo (o : HO) (o' : Option HO) : Prop := o' = some o ∨ ∃ C dx fs fs', o = .ins C dx fs ∧ o' = some (.ins C dx fs') ∧ Kp fs fs'
theorem Lo.trans {o o' : HO} {x : Option HO} (a : Lo o (some o')) (b : Lo o' x) : Lo o x := by
  rcases a with a | ⟨C, dx, fs, fs', rfl, a, h⟩
  · cases a; exact b
  · cases a
    rcases b with b | ⟨C', dx', gs, gs', e, b, h'⟩
    · exact .inr ⟨C, dx, fs, fs', rfl, b, h⟩
    · cases e; exact .inr ⟨C, dx, fs, gs', rfl, b, ⟨fun f hf => (h'.look f hf).trans (h.look f hf), h'.keys.trans h.keys⟩⟩
def Le (H H' : Hp) : Prop := ∀ b o, H b = some o → Lo o (H' b)
def LeX (P : List Addr) (H H' : Hp) : Prop := ∀ b o, b ∉ P → H b = some o → Lo o (H' b)
theorem Lo.refl (o : HO) : Lo o (some o) := .inl rfl
theorem Lo.get {o : HO} {x : Option HO} (h : Lo o x) : ∃ o', x = some o' := by
  rcases h with h | ⟨C, dx, fs, fs', _, h, _⟩ <;> exact ⟨_, h⟩
theorem Le.refl (H : Hp) : Le H H := fun b o h => .inl h
theorem LeX.refl (P : List Addr) (H : Hp) : LeX P H H := fun b o _ h => .inl h
theorem Le.trans {H H1 H2 : Hp} (a : Le H H1) (b : Le H1 H2) : Le H H2 := fun c o h => by
  obtain ⟨o', h1⟩ := (a c o h).get
  have := a c o h
  rw [h1] at this
  exact this.trans (b c o' h1)
theorem LeX.trans {P : List Addr} {H H1 H2 : Hp} (a : LeX P H H1) (b : LeX P H1 H2) : LeX P H H2 := fun c o n h => by
  obtain ⟨o', h1⟩ := (a c o n h).get
  have := a c o n h
  rw [h1] at this
  exact this.trans (b c o' n h1)
theorem Le.of {H H' : Hp} (s : Same H H') : Le H H' := fun b o h => .inl (s b o h)
theorem Le.x {P : List Addr} {H H' : Hp} (a : Le H H') : LeX P H H' := fun b o _ h => a b o h
theorem LeX.le {H H' : Hp} (a : LeX [] H H') : Le H H' := fun b o h => a b o (by simp) h
theorem Le.lst {H H' : Hp} (a : Le H H') {p : Addr} {xs : List V} (h : H p = some (.lst xs)) : H' p = some (.lst xs) := by
  rcases a p _ h with h | ⟨_, _, _, _, e, _⟩
  · exact h
  · cases e
theorem Le.tup {H H' : Hp} (a : Le H H') {p : Addr} {xs : List V} (h : H p = some (.tup xs)) : H' p = some (.tup xs) := by
  rcases a p _ h with h | ⟨_, _, _, _, e, _⟩
  · exact h
  · cases e
theorem LeX.lst {P : List Addr} {H H' : Hp} (a : LeX P H H') {p : Addr} {xs : List V} (n : p ∉ P) (h : H p = some (.lst xs)) : H' p = some (.lst xs) := by
  rcases a p _ n h with h | ⟨_, _, _, _, e, _⟩
  · exact h
  · cases e
theorem Le.ext {H H' : Hp} (a : Le H H') {p : Addr} {φ : Heap → Prop} (h : H p = some (.ext φ)) : H' p = some (.ext φ) := by
  rcases a p _ h with h | ⟨_, _, _, _, e, _⟩
  · exact h
  · cases e
theorem Le.xd {H H' : Hp} (a : Le H H') {p : Addr} {fs : List (Str × V)} (h : H p = some (.xd fs)) : H' p = some (.xd fs) := by
  rcases a p _ h with h | ⟨_, _, _, _, e, _⟩
  · exact h
  · cases e
theorem Le.new {H : Hp} {p : Addr} {o : HO} (h : H p = none) : Le H (upd H p o) := .of (same_new h)
theorem Le.free {H H' : Hp} (a : Le H H') {p : Addr} (h : H' p = none) : H p = none := by
  cases e : H p with
  | none => rfl
  | some o => obtain ⟨o', h'⟩ := (a p o e).get; rw [h] at h'; cases h'
mutual
theorem Rp.mono {H H' : Hp} (s : Le H H') : ∀ {v : V} {d : Dat}, Rp H v d → Rp H' v d
  | _, _, .non => .non
  | _, _, .bl b => .bl b
  | _, _, .int i => .int i
  | _, _, .str x => .str x
  | _, _, .lst h r => .lst (s.lst h) (RpL.mono s r)
  | _, _, .tup h r => .tup (by
      rcases s _ _ h with h | ⟨_, _, _, _, e, _⟩
      · exact h
      · cases e) (RpL.mono s r)
  | _, _, .ins (fvs := fvs) h r n => by
      have r' := RpF.mono s r
      rcases s _ _ h with h | ⟨C, dx, fs, fs', e, h', k⟩
      · exact .ins h r' n
      · cases e; exact .ins h' (RpF.re k.look r') fun f c e => (k.look f c).trans (n f c e)
  | _, _, .exc0 h => .exc0 (s.ext h)
  | _, _, .exc1 h h2 r => .exc1 (s.ext h) (s.xd h2) (RpF.mono s r)
theorem RpL.mono {H H' : Hp} (s : Le H H') : ∀ {vs : List V} {ds : List Dat}, RpL H vs ds → RpL H' vs ds
  | _, _, .nil => .nil
  | _, _, .cons r t => .cons (Rp.mono s r) (RpL.mono s t)
theorem RpF.mono {H H' : Hp} (s : Le H H') : ∀ {fvs : List (Str × V)} {fs : List (Str × Dat)}, RpF H fvs fs → RpF H' fvs fs
  | _, _, .nil => .nil
  | _, _, .cons c l r t => .cons c l (Rp.mono s r) (RpF.mono s t)
theorem RpF.re {H : Hp} {fvs fvs' : List (Str × V)} (k : ∀ f, cachF f = false → fvs'.lookup f = fvs.lookup f) : ∀ {fs : List (Str × Dat)}, RpF H fvs fs → RpF H fvs' fs
  | _, .nil => .nil
  | _, .cons c l r t => .cons c ((k _ c).trans l) r (RpF.re k t)
end
end My

namespace My
open PySem PySem.Spec PyProof.Rows L2
open C8 (Cal pe_c pe_gc)
/-- the heap without some -/
def hid (O : List Addr) (H : Hp) : Hp := fun b => if b ∈ O then none else H b
theorem hid_in {O : List Addr} {H : Hp} {b : Addr} (h : b ∈ O) : hid O H b = none := if_pos h
theorem hid_out {O : List Addr} {H : Hp} {b : Addr} (h : b ∉ O) : hid O H b = H b := if_neg h
theorem hid_some {O : List Addr} {H : Hp} {b : Addr} {o : HO} (h : hid O H b = some o) : b ∉ O ∧ H b = some o := by
  unfold hid at h
  by_cases e : b ∈ O
  · rw [if_pos e] at h; cases h
  · rw [if_neg e] at h; exact ⟨e, h⟩
theorem hid_le (O : List Addr) (H : Hp) : Le (hid O H) H := fun b o h => .inl (hid_some h).2
theorem LeX.hid {P O : List Addr} {H H' : Hp} (a : LeX P H H') (p : ∀ b ∈ P, b ∈ O) : Le (hid O H) (My.hid O H') := fun b o h => by
  obtain ⟨n, h⟩ := hid_some h
  rw [hid_out n]
  exact a b o (fun z => n (p b z)) h
theorem Le.hid {O : List Addr} {H H' : Hp} (a : Le H H') : Le (hid O H) (My.hid O H') := LeX.hid (P := []) a.x (by simp)
/-- one more hidden that was not there -/
theorem hid_more {O : List Addr} {H H' : Hp} {p : Addr} (a : Le (hid O H) (hid O H')) (h : H p = none) : Le (hid O H) (hid (p :: O) H') := fun b o hb => by
  have n : b ≠ p := fun e => by subst e; rw [(hid_some hb).2] at h; cases h
  have := a b o hb
  have e : hid (p :: O) H' b = hid O H' b := by
    unfold My.hid
    by_cases z : b ∈ O
    · rw [if_pos z, if_pos (List.mem_cons_of_mem _ z)]
    · rw [if_neg z, if_neg (fun y => (List.mem_cons.mp y).elim n z)]
  rw [e]; exact this
theorem hid_sub {O O' : List Addr} {H : Hp} (h : ∀ p ∈ O', p ∈ O) : Le (hid O H) (hid O' H) := fun b o hb => by
  obtain ⟨n, hb⟩ := hid_some hb
  exact .inl (by rw [hid_out fun z => n (h b z)]; exact hb)
theorem hid_upd {O : List Addr} {H : Hp} {p : Addr} {o : HO} (h : p ∈ O) : hid O (upd H p o) = hid O H := by
  funext b
  unfold hid
  by_cases z : b ∈ O
  · rw [if_pos z, if_pos z]
  · rw [if_neg z, if_neg z, upd_ne (fun e => z (by rw [e]; exact h))]
/-- what a slot holds: nothing known, data, a list of the def's own, the purse -/
inductive Sl where
  | un | dt (d : Dat) | ow (ds : List Dat) | pu | raw (v : V)
/-- what does not change: G hidden from the def's data, P the purses, B the heap as the def was entered -/
structure Cz where
  G : List Addr
  P : List Addr
  B : Hp
def SlOk (z : Cz) (O : List Addr) (H : Hp) (o : Option (Option V)) : Sl → Prop
  | .un => True
  | .dt d => ∃ v, o = some (some v) ∧ Rp (hid O H) v d
  | .ow ds => ∃ p vs, o = some (some (.ref p)) ∧ p ∈ O ∧ p ∉ z.G ∧ H p = some (.lst vs) ∧ RpL (hid O H) vs ds
  | .pu => ∃ a, z.P = [a] ∧ o = some (some (.ref a))
  | .raw v => o = some (some v)
structure Real (z : Cz) (O : List Addr) (g : List Sl) (m : Nat) (σ : L2.St) (H : Hp) : Prop where
  dom : ∀ p ∈ O, ∃ o, H p = some o
  sub : ∀ p ∈ z.G, p ∈ O
  new : ∀ p ∈ O, p ∈ z.G ∨ z.B p = none
  pg : ∀ p ∈ z.P, p ∈ z.G
  pur : ∀ b ∈ z.P, Pur H b m
  le : LeX z.P z.B H
  len : σ.length = g.length
  sl : ∀ (i : Nat) (x : Sl), g[i]? = some x → SlOk z O H σ[i]? x
  inj : ∀ (i j : Nat) (p : Addr) (ds es : List Dat), g[i]? = some (.ow ds) → g[j]? = some (.ow es) → σ[i]? = some (some (.ref p)) → σ[j]? = some (some (.ref p)) → i = j
section
variable {z : Cz} {O : List Addr} {g : List Sl} {m m' : Nat} {σ : L2.St} {H H' : Hp}
theorem Real.po (r : Real z O g m σ H) : ∀ p ∈ z.P, p ∈ O := fun p h => r.sub p (r.pg p h)
/-- the heap grows, the purses are drawn from -/
theorem Real.lift (r : Real z O g m σ H) (a : LeX z.P H H') (hp : ∀ b ∈ z.P, Pur H' b m') : Real z O g m' σ H' where
  dom := fun p h => by
    by_cases e : p ∈ z.P
    · exact (hp p e).at
    · obtain ⟨o, ho⟩ := r.dom p h
      exact (a p o e ho).get
  sub := r.sub
  new := r.new
  pg := r.pg
  pur := hp
  le := r.le.trans a
  len := r.len
  sl := fun i x h => by
    have q := r.sl i x h
    have lh := a.hid r.po
    cases x with
    | un => trivial
    | dt d => obtain ⟨v, e, q⟩ := q; exact ⟨v, e, q.mono lh⟩
    | ow ds =>
      obtain ⟨p, vs, e, po, pg, hp', q⟩ := q
      exact ⟨p, vs, e, po, pg, a.lst (fun n => pg (r.pg p n)) hp', q.mono lh⟩
    | pu => exact q
    | raw v => exact q
  inj := r.inj
theorem Real.up (r : Real z O g m σ H) (a : Le H H') : Real z O g m σ H' := r.lift a.x fun b hb => by
  obtain ⟨d, c, k, h, q⟩ := r.pur b hb
  exact ⟨d, c, k, a.lst h, q⟩
/-- a slot gets data -/
theorem Real.set (r : Real z O g m σ H) {v : V} {d : Dat} (i : Nat) (h : Rp (hid O H) v d) : Real z O (g.set i (.dt d)) m (σ.set i (some v)) H where
  dom := r.dom
  sub := r.sub
  new := r.new
  pg := r.pg
  pur := r.pur
  le := r.le
  len := by rw [List.length_set, List.length_set]; exact r.len
  sl := fun j x hj => by
    by_cases e : i = j
    · subst e
      by_cases l : i < g.length
      · rw [List.getElem?_set_self l] at hj
        cases hj
        exact ⟨v, by rw [List.getElem?_set_self (by rw [r.len]; exact l)], h⟩
      · rw [List.getElem?_eq_none (by rw [List.length_set]; omega)] at hj; cases hj
    · rw [List.getElem?_set_ne e] at hj
      rw [List.getElem?_set_ne e]
      exact r.sl j x hj
  inj := fun j k p ds es hj hk sj sk => by
    have f : ∀ {n : Nat} {ds : List Dat}, (g.set i (.dt d))[n]? = some (.ow ds) → i ≠ n ∧ g[n]? = some (.ow ds) := fun {n ds} h => by
      by_cases e : i = n
      · subst e
        by_cases l : i < g.length
        · rw [List.getElem?_set_self l] at h; cases h
        · rw [List.getElem?_eq_none (by rw [List.length_set]; omega)] at h; cases h
      · rw [List.getElem?_set_ne e] at h; exact ⟨e, h⟩
    obtain ⟨n1, h1⟩ := f hj
    obtain ⟨n2, h2⟩ := f hk
    rw [List.getElem?_set_ne n1] at sj
    rw [List.getElem?_set_ne n2] at sk
    exact r.inj j k p ds es h1 h2 sj sk
/-- a slot is forgotten, or wiped -/
theorem Real.un (r : Real z O g m σ H) (i : Nat) (o : Option V) : Real z O (g.set i .un) m (σ.set i o) H where
  dom := r.dom
  sub := r.sub
  new := r.new
  pg := r.pg
  pur := r.pur
  le := r.le
  len := by rw [List.length_set, List.length_set]; exact r.len
  sl := fun j x hj => by
    by_cases e : i = j
    · subst e
      by_cases l : i < g.length
      · rw [List.getElem?_set_self l] at hj
        cases hj
        trivial
      · rw [List.getElem?_eq_none (by rw [List.length_set]; omega)] at hj; cases hj
    · rw [List.getElem?_set_ne e] at hj
      rw [List.getElem?_set_ne e]
      exact r.sl j x hj
  inj := fun j k p ds es hj hk sj sk => by
    have f : ∀ {n : Nat} {ds : List Dat}, (g.set i .un)[n]? = some (.ow ds) → i ≠ n ∧ g[n]? = some (.ow ds) := fun {n ds} h => by
      by_cases e : i = n
      · subst e
        by_cases l : i < g.length
        · rw [List.getElem?_set_self l] at h; cases h
        · rw [List.getElem?_eq_none (by rw [List.length_set]; omega)] at h; cases h
      · rw [List.getElem?_set_ne e] at h; exact ⟨e, h⟩
    obtain ⟨n1, h1⟩ := f hj
    obtain ⟨n2, h2⟩ := f hk
    rw [List.getElem?_set_ne n1] at sj
    rw [List.getElem?_set_ne n2] at sk
    exact r.inj j k p ds es h1 h2 sj sk
/-- a list that was made anew, and is not looked at: the rest of the heap -/
structure Fresh (z : Cz) (O : List Addr) (H H' : Hp) (p : Addr) (ds : List Dat) : Prop where
  no : p ∉ O
  nb : z.B p = none
  ne : H p = none
  at_ : ∃ vs, H' p = some (.lst vs) ∧ RpL (hid O (hid [p] H')) vs ds
theorem hid1_le (H : Hp) (p : Addr) : Le (hid [p] H) H := hid_le [p] H
theorem hid_hid1 {O : List Addr} {H : Hp} {p : Addr} : hid O (hid [p] H) = hid (p :: O) H := by
  funext b
  unfold hid
  by_cases z : b ∈ O
  · rw [if_pos z, if_pos (List.mem_cons_of_mem _ z)]
  · rw [if_neg z]
    by_cases e : b = p
    · subst e; rw [if_pos (by simp), if_pos (by simp)]
    · rw [if_neg (by simp [e]), if_neg (fun y => (List.mem_cons.mp y).elim e z)]
/-- a slot takes a new list for its own -/
theorem Real.own {p : Addr} {ds : List Dat} {H0 : Hp} (r : Real z O g m σ (hid [p] H')) (f : Fresh z O H0 H' p ds) (i : Nat) : Real z (p :: O) (g.set i (.ow ds)) m (σ.set i (some (.ref p))) H' where
  dom := fun q h => by
    rcases List.mem_cons.mp h with e | h
    · subst e; obtain ⟨vs, h, _⟩ := f.at_; exact ⟨_, h⟩
    · obtain ⟨o, ho⟩ := r.dom q h
      exact ⟨o, (hid_some ho).2⟩
  sub := fun q h => List.mem_cons_of_mem _ (r.sub q h)
  new := fun q h => by
    rcases List.mem_cons.mp h with e | h
    · subst e; exact .inr f.nb
    · exact r.new q h
  pg := r.pg
  pur := fun b hb => by
    obtain ⟨d, c, k, h, q⟩ := r.pur b hb
    exact ⟨d, c, k, (hid_some h).2, q⟩
  le := r.le.trans (hid1_le _ _).x
  len := by rw [List.length_set, List.length_set]; exact r.len
  sl := fun j x hj => by
    by_cases e : i = j
    · subst e
      by_cases l : i < g.length
      · rw [List.getElem?_set_self l] at hj
        cases hj
        obtain ⟨vs, h, q⟩ := f.at_
        refine ⟨p, vs, by rw [List.getElem?_set_self (by rw [r.len]; exact l)], List.mem_cons_self .., fun n => f.no (r.sub p n), h, ?_⟩
        rw [← hid_hid1]; exact q
      · rw [List.getElem?_eq_none (by rw [List.length_set]; omega)] at hj; cases hj
    · rw [List.getElem?_set_ne e] at hj
      rw [List.getElem?_set_ne e]
      have q := r.sl j x hj
      cases x with
      | un => trivial
      | dt d => obtain ⟨v, e, q⟩ := q; exact ⟨v, e, by rw [← hid_hid1]; exact q⟩
      | ow es =>
        obtain ⟨q_, vs, e, po, pg, hp', q⟩ := q
        exact ⟨q_, vs, e, List.mem_cons_of_mem _ po, pg, (hid_some hp').2, by rw [← hid_hid1]; exact q⟩
      | pu => exact q
      | raw v => exact q
  inj := fun j k q es fs hj hk sj sk => by
    have f2 : ∀ {n : Nat} {es : List Dat} {q : Addr}, i ≠ n → (g.set i (.ow ds))[n]? = some (.ow es) → (σ.set i (some (.ref p)))[n]? = some (some (.ref q)) → q ≠ p := fun {n es q} e h s => by
      rw [List.getElem?_set_ne e] at h
      rw [List.getElem?_set_ne e] at s
      obtain ⟨q_, vs, e2, po, _⟩ := r.sl n _ h
      rw [s] at e2; cases e2
      intro z; subst z; exact f.no po
    have f1 : ∀ {n : Nat} {q : Addr} {es : List Dat}, i = n → (g.set i (.ow ds))[n]? = some (.ow es) → (σ.set i (some (.ref p)))[n]? = some (some (.ref q)) → q = p := fun {n q es} e h s => by
      subst e
      by_cases l : i < g.length
      · rw [List.getElem?_set_self (by rw [r.len]; exact l)] at s; cases s; rfl
      · rw [List.getElem?_eq_none (by rw [List.length_set]; omega)] at h; cases h
    by_cases e1 : i = j
    · by_cases e2 : i = k
      · omega
      · exact absurd (f1 e1 hj sj) (f2 e2 hk sk)
    · by_cases e2 : i = k
      · exact absurd (f1 e2 hk sk) (f2 e1 hj sj)
      · rw [List.getElem?_set_ne e1] at hj sj
        rw [List.getElem?_set_ne e2] at hk sk
        exact r.inj j k q es fs hj hk sj sk
/-- an own list gets other items -/
theorem Real.put (r : Real z O g m σ H) {i : Nat} {ds es : List Dat} (hi : g[i]? = some (.ow ds)) {p : Addr} (hs : σ[i]? = some (some (.ref p))) {ws : List V} (h : RpL (hid O H) ws es) : Real z O (g.set i (.ow es)) m σ (upd H p (.lst ws)) := by
  obtain ⟨q, vs, e, po, pG, hp, rq⟩ := r.sl i _ hi
  rw [hs] at e; cases e
  have he : hid O (upd H p (.lst ws)) = hid O H := hid_upd po
  have l : i < g.length := (List.getElem?_eq_some_iff.mp hi).1
  refine ⟨fun b hb => ?_, r.sub, r.new, r.pg, fun b hb => ?_, fun b o n hb => ?_, by rw [List.length_set]; exact r.len, fun j x hj => ?_, fun j k b xs ys hj hk sj sk => ?_⟩
  · by_cases e : b = p
    · subst e; exact ⟨_, upd_same⟩
    · rw [upd_ne e]; exact r.dom b hb
  · obtain ⟨d, c, k, h, q⟩ := r.pur b hb
    exact ⟨d, c, k, by rw [upd_ne (fun y => by subst y; exact pG (r.pg _ hb))]; exact h, q⟩
  · by_cases e : b = p
    · subst e
      rcases r.new b po with n2 | n2
      · exact absurd n2 pG
      · rw [hb] at n2; cases n2
    · rw [upd_ne e]; exact r.le b o n hb
  · by_cases e : i = j
    · subst e
      rw [List.getElem?_set_self l] at hj
      cases hj
      exact ⟨p, ws, hs, po, pG, upd_same, by rw [he]; exact h⟩
    · rw [List.getElem?_set_ne e] at hj
      have q := r.sl j x hj
      cases x with
      | un => trivial
      | dt d => obtain ⟨v, e, q⟩ := q; exact ⟨v, e, by rw [he]; exact q⟩
      | ow zs =>
        obtain ⟨b, us, e2, bo, bg, hb, q⟩ := q
        have n : b ≠ p := fun y => by subst y; exact e (r.inj i j b _ _ hi hj hs e2)
        exact ⟨b, us, e2, bo, bg, by rw [upd_ne n]; exact hb, by rw [he]; exact q⟩
      | pu => exact q
      | raw v => exact q
  · have f : ∀ {n : Nat} {xs : List Dat}, (g.set i (.ow es))[n]? = some (.ow xs) → ∃ ys, g[n]? = some (.ow ys) := fun {n xs} h => by
      by_cases e : i = n
      · subst e; exact ⟨_, hi⟩
      · rw [List.getElem?_set_ne e] at h; exact ⟨_, h⟩
    obtain ⟨_, h1⟩ := f hj
    obtain ⟨_, h2⟩ := f hk
    exact r.inj j k b _ _ h1 h2 sj sk
/-- an own list becomes data: it is not changed any more -/
theorem Real.frzO (r : Real z O g m σ H) {i : Nat} {ds : List Dat} (hi : g[i]? = some (.ow ds)) : ∃ O', Real z O' (g.set i (.dt (.lst ds))) m σ H ∧ ∀ q ∈ O', q ∈ O := by
  obtain ⟨p, vs, e, po, pG, hp, rq⟩ := r.sl i _ hi
  have l : i < g.length := (List.getElem?_eq_some_iff.mp hi).1
  have sub : ∀ q ∈ O.filter (fun b => decide (b ≠ p)), q ∈ O := fun q h => (List.mem_filter.mp h).1
  have le : Le (hid O H) (hid (O.filter fun b => decide (b ≠ p)) H) := hid_sub sub
  have np : p ∉ O.filter (fun b => decide (b ≠ p)) := fun h => by
    have := (List.mem_filter.mp h).2
    simp at this
  refine ⟨O.filter fun b => decide (b ≠ p), ⟨fun b hb => r.dom b (sub b hb), fun b hb => List.mem_filter.mpr ⟨r.sub b hb, decide_eq_true fun y => pG (y ▸ hb)⟩, fun b hb => r.new b (sub b hb), r.pg, r.pur, r.le, by rw [List.length_set]; exact r.len, fun j x hj => ?_, fun j k b xs ys hj hk sj sk => ?_⟩, sub⟩
  · by_cases e1 : i = j
    · subst e1
      rw [List.getElem?_set_self l] at hj
      cases hj
      exact ⟨.ref p, e, .lst (by rw [hid_out np]; exact hp) (rq.mono le)⟩
    · rw [List.getElem?_set_ne e1] at hj
      have q := r.sl j x hj
      cases x with
      | un => trivial
      | dt d => obtain ⟨v, e, q⟩ := q; exact ⟨v, e, q.mono le⟩
      | ow zs =>
        obtain ⟨b, us, e2, bo, bg, hb, q⟩ := q
        have n : b ≠ p := fun y => by subst y; exact e1 (r.inj i j b _ _ hi hj e e2)
        exact ⟨b, us, e2, List.mem_filter.mpr ⟨bo, decide_eq_true n⟩, bg, hb, q.mono le⟩
      | pu => exact q
      | raw v => exact q
  · have f : ∀ {n : Nat} {xs : List Dat}, (g.set i (.dt (.lst ds)))[n]? = some (.ow xs) → g[n]? = some (.ow xs) := fun {n xs} h => by
      by_cases e : i = n
      · subst e
        rw [List.getElem?_set_self l] at h; cases h
      · rw [List.getElem?_set_ne e] at h; exact h
    exact r.inj j k b _ _ (f hj) (f hk) sj sk
/-- an own list is let go: the rest of the heap -/
theorem Real.cut (r : Real z O g m σ H) {i : Nat} {ds : List Dat} (hi : g[i]? = some (.ow ds)) {p : Addr} (hs : σ[i]? = some (some (.ref p))) : ∃ O', Real z O' (g.set i .un) m σ (hid [p] H) ∧ p ∉ O' ∧ (∀ q ∈ O', q ∈ O) ∧ hid O' (hid [p] H) = hid O H := by
  obtain ⟨p', vs, e, po, pG, hp, rq⟩ := r.sl i _ hi
  rw [hs] at e; cases e
  have l : i < g.length := (List.getElem?_eq_some_iff.mp hi).1
  have sub : ∀ q ∈ O.filter (fun b => decide (b ≠ p)), q ∈ O := fun q h => (List.mem_filter.mp h).1
  have np : p ∉ O.filter (fun b => decide (b ≠ p)) := fun h => by
    have := (List.mem_filter.mp h).2
    simp at this
  have nP : p ∉ z.P := fun n => pG (r.pg p n)
  have eh : hid (O.filter fun b => decide (b ≠ p)) (hid [p] H) = hid O H := by
    rw [hid_hid1]
    funext b
    unfold hid
    by_cases h : b ∈ O
    · by_cases q : b = p
      · rw [if_pos (by rw [q]; simp), if_pos h]
      · rw [if_pos (List.mem_cons_of_mem _ (List.mem_filter.mpr ⟨h, decide_eq_true q⟩)), if_pos h]
    · have q : b ≠ p := fun y => h (y ▸ po)
      rw [if_neg (fun y => (List.mem_cons.mp y).elim q fun y => h (sub b y)), if_neg h]
  have h1 : ∀ {b : Addr}, b ≠ p → hid [p] H b = H b := fun {b} n => hid_out (by simp [n])
  refine ⟨O.filter fun b => decide (b ≠ p), ⟨fun b hb => ?_, fun b hb => List.mem_filter.mpr ⟨r.sub b hb, decide_eq_true fun y => pG (y ▸ hb)⟩, fun b hb => r.new b (sub b hb), r.pg, fun b hb => ?_, fun b o n hb => ?_, by rw [List.length_set]; exact r.len, fun j x hj => ?_, fun j k b xs ys hj hk sj sk => ?_⟩, np, sub, eh⟩
  · have n : b ≠ p := fun y => np (y ▸ hb)
    rw [h1 n]; exact r.dom b (sub b hb)
  · obtain ⟨d, c, k, h, q⟩ := r.pur b hb
    exact ⟨d, c, k, by rw [h1 (fun y => by subst y; exact nP hb)]; exact h, q⟩
  · have q : b ≠ p := fun y => by
      subst y
      rcases r.new b po with h | h
      · exact pG h
      · rw [hb] at h; cases h
    rw [h1 q]; exact r.le b o n hb
  · by_cases e1 : i = j
    · subst e1
      rw [List.getElem?_set_self l] at hj
      cases hj
      trivial
    · rw [List.getElem?_set_ne e1] at hj
      have q := r.sl j x hj
      cases x with
      | un => trivial
      | dt d => obtain ⟨v, e, q⟩ := q; exact ⟨v, e, by rw [eh]; exact q⟩
      | ow zs =>
        obtain ⟨b, us, e2, bo, bg, hb, q⟩ := q
        have n : b ≠ p := fun y => by subst y; exact e1 (r.inj i j b _ _ hi hj hs e2)
        exact ⟨b, us, e2, List.mem_filter.mpr ⟨bo, decide_eq_true n⟩, bg, by rw [h1 n]; exact hb, by rw [eh]; exact q⟩
      | pu => exact q
      | raw v => exact q
  · have f : ∀ {n : Nat} {xs : List Dat}, (g.set i .un)[n]? = some (.ow xs) → g[n]? = some (.ow xs) := fun {n xs} h => by
      by_cases e : i = n
      · subst e
        rw [List.getElem?_set_self l] at h; cases h
      · rw [List.getElem?_set_ne e] at h; exact h
    exact r.inj j k b _ _ (f hj) (f hk) sj sk
end
end My

namespace My
open PySem PySem.Spec PyProof.Rows L2
open C8 (Cal pe_c pe_gc)
theorem RpL.length {H : Hp} : ∀ {vs : List V} {ds : List Dat}, RpL H vs ds → vs.length = ds.length
  | _, _, .nil => rfl
  | _, _, .cons _ t => congrArg (· + 1) (RpL.length t)
theorem RpL.get {H : Hp} : ∀ {vs : List V} {ds : List Dat} {i : Nat} {d : Dat}, RpL H vs ds → ds[i]? = some d → ∃ v, vs[i]? = some v ∧ Rp H v d
  | _, _, _, _, .nil, e => by simp at e
  | _, _, 0, _, .cons r _, e => by cases (Option.some.inj e : _ = _); exact ⟨_, rfl, r⟩
  | _, _, i + 1, d, .cons _ t, e => by
    obtain ⟨v, h1, h2⟩ := RpL.get (i := i) (d := d) t (by simpa using e)
    exact ⟨v, by simpa using h1, h2⟩
theorem RpL.append {H : Hp} : ∀ {vs ws : List V} {ds es : List Dat}, RpL H vs ds → RpL H ws es → RpL H (vs ++ ws) (ds ++ es)
  | _, _, _, _, .nil, s => s
  | _, _, _, _, .cons r t, s => .cons r (RpL.append t s)
theorem RpL.take {H : Hp} : ∀ (n : Nat) {vs : List V} {ds : List Dat}, RpL H vs ds → RpL H (vs.take n) (ds.take n)
  | 0, _, _, _ => .nil
  | _ + 1, _, _, .nil => .nil
  | n + 1, _, _, .cons r t => .cons r (RpL.take n t)
theorem RpL.drop {H : Hp} : ∀ (n : Nat) {vs : List V} {ds : List Dat}, RpL H vs ds → RpL H (vs.drop n) (ds.drop n)
  | 0, _, _, r => r
  | _ + 1, _, _, .nil => .nil
  | n + 1, _, _, .cons _ t => RpL.drop n t
theorem RpL.set {H : Hp} {v : V} {d : Dat} (r : Rp H v d) : ∀ (n : Nat) {vs : List V} {ds : List Dat}, RpL H vs ds → RpL H (vs.set n v) (ds.set n d)
  | _, _, _, .nil => .nil
  | 0, _, _, .cons _ t => .cons r t
  | n + 1, _, _, .cons q t => .cons q (RpL.set r n t)
theorem RpL.rev {H : Hp} : ∀ {vs : List V} {ds : List Dat}, RpL H vs ds → RpL H vs.reverse ds.reverse
  | _, _, .nil => .nil
  | _, _, .cons r t => by rw [List.reverse_cons, List.reverse_cons]; exact (RpL.rev t).append (.cons r .nil)
theorem RpL.rep {H : Hp} {vs : List V} {ds : List Dat} (r : RpL H vs ds) : ∀ k : Nat, RpL H (List.replicate k vs).flatten (List.replicate k ds).flatten
  | 0 => .nil
  | k + 1 => by rw [List.replicate_succ, List.replicate_succ, List.flatten_cons, List.flatten_cons]; exact r.append (RpL.rep r k)
theorem RpL.at {H : Hp} {vs : List V} {ds : List Dat} {i : Int} {d : Dat} (r : RpL H vs ds) (h : atI ds i = some d) : ∃ v, atI vs i = some v ∧ Rp H v d := by
  unfold atI at *
  rw [r.length]
  cases e : ixN ds.length i with
  | none => rw [e] at h; cases h
  | some j =>
    rw [e] at h
    exact r.get (i := j) h
def cutD (xs : List Dat) (lo hi : Option Int) : List Dat := (xs.drop (HT.sIx xs.length 0 lo)).take (HT.sIx xs.length xs.length hi - HT.sIx xs.length 0 lo)
theorem RpL.cut {H : Hp} {vs : List V} {ds : List Dat} (r : RpL H vs ds) (lo hi : Option Int) : RpL H (cutV vs lo hi) (cutD ds lo hi) := by
  unfold cutV cutD
  rw [r.length]
  exact (r.drop _).take _
theorem RpF.look {H : Hp} {f : Str} {x : Dat} : ∀ {fvs : List (Str × V)} {fs : List (Str × Dat)}, RpF H fvs fs → fs.lookup f = some x → ∃ u, fvs.lookup f = some u ∧ Rp H u x
  | _, _, .nil, h => by simp at h
  | _, _, .cons (f := f') c l r t, h => by
    rw [List.lookup_cons] at h
    cases e : (f == f') with
    | true =>
      rw [e] at h
      have e2 : f = f' := eq_of_beq e
      cases (Option.some.inj h : _ = _)
      exact ⟨_, by rw [e2]; exact l, r⟩
    | false => rw [e] at h; exact RpF.look t h
theorem RpL.ints {H : Hp} : ∀ ns : List Int, RpL H (ns.map V.int) (ns.map Dat.int)
  | [] => .nil
  | n :: r => .cons (.int n) (RpL.ints r)

def XE (z : Cz) (t : TE) (g : List Sl) (m : Nat) (C : Nat → Dat → Prop) : Prop := ∀ (O : List Addr) (σ : L2.St) (H : Hp), Real z O g m σ H → ∀ Q : VK,
  (∀ m' d v H', C m' d → Real z O g m' σ H' → LeX z.P H H' → Rp (hid O H') v d → Q v H') → t σ H Q
/-- a list made anew -/
def XN (z : Cz) (t : TE) (g : List Sl) (m : Nat) (C : Nat → List Dat → Prop) : Prop := ∀ (O : List Addr) (σ : L2.St) (H : Hp), Real z O g m σ H → ∀ Q : VK,
  (∀ m' ds p H', C m' ds → Real z O g m' σ (hid [p] H') → LeX z.P H (hid [p] H') → Fresh z O H H' p ds → Q (.ref p) H') → t σ H Q
def XA (z : Cz) (t : TA) (g : List Sl) (m : Nat) (C : Nat → List Dat → Prop) : Prop := ∀ (O : List Addr) (σ : L2.St) (H : Hp), Real z O g m σ H → ∀ Q : List V → Hp → Prop,
  (∀ m' ds vs H', C m' ds → Real z O g m' σ H' → LeX z.P H H' → RpL (hid O H') vs ds → Q vs H') → t σ H Q
def XT (z : Cz) (t : TT) (g : List Sl) (m : Nat) (C : Nat → Bool → Prop) : Prop := ∀ (O : List Addr) (σ : L2.St) (H : Hp), Real z O g m σ H → ∀ Q : Bool → Hp → Prop,
  (∀ m' b H', C m' b → Real z O g m' σ H' → LeX z.P H H' → Q b H') → t σ H Q
/-- the rules, told of data -/
def DR2 (r : R2) (rd : Dat → Dat → (Dat → Prop) → Prop) : Prop := ∀ (O : List Addr) (H : Hp) (x y : V) (d e : Dat) (C : Dat → Prop) (Q : VK), (∀ p ∈ O, ∃ o, H p = some o) → Rp (hid O H) x d → Rp (hid O H) y e → rd d e C →
  (∀ d' v H', C d' → Le H H' → Rp (hid O H') v d' → Q v H') → r x y H Q
def DN2 (r : R2) (rd : Dat → Dat → (List Dat → Prop) → Prop) : Prop := ∀ (H : Hp) (x y : V) (d e : Dat) (C : List Dat → Prop) (Q : VK) (G : Hp), Le G H → Rp G x d → Rp G y e → rd d e C →
  (∀ ds vs p, C ds → H p = none → RpL G vs ds → Q (.ref p) (upd H p (.lst vs))) → r x y H Q
def DCB (r : List V → Hp → VK → Prop) (rd : List Dat → (Dat → Prop) → Prop) : Prop := ∀ (O : List Addr) (H : Hp) (xs : List V) (ds : List Dat) (C : Dat → Prop) (Q : VK), (∀ p ∈ O, ∃ o, H p = some o) → RpL (hid O H) xs ds → rd ds C →
  (∀ d' v H', C d' → Le H H' → Rp (hid O H') v d' → Q v H') → r xs H Q
def DNB (r : List V → Hp → VK → Prop) (rd : List Dat → (List Dat → Prop) → Prop) : Prop := ∀ (H : Hp) (xs : List V) (ds : List Dat) (C : List Dat → Prop) (Q : VK) (G : Hp), Le G H → RpL G xs ds → rd ds C →
  (∀ es vs p, C es → H p = none → RpL G vs es → Q (.ref p) (upd H p (.lst vs))) → r xs H Q
def dBl (d : Dat) (C : Bool → Prop) : Prop := ∃ b, d = .bl b ∧ C b
section
variable {z : Cz} {g : List Sl} {m : Nat} {C : Nat → Dat → Prop} {CL : Nat → List Dat → Prop} {CT : Nat → Bool → Prop} {t ta tb tc : TE} {tr : TA} {tt tu : TT} {r r' : R2}
theorem Fresh.of {O : List Addr} {H : Hp} {σ : L2.St} (R : Real z O g m σ H) {p : Addr} {vs : List V} {ds : List Dat} (hp : H p = none) (h : RpL (hid O H) vs ds) : Fresh z O H (upd H p (.lst vs)) p ds ∧ hid [p] (upd H p (.lst vs)) = H := by
  have e : hid [p] (upd H p (.lst vs)) = H := by
    funext b
    unfold hid
    by_cases q : b = p
    · subst q; rw [if_pos (by simp)]; exact hp.symm
    · rw [if_neg (by simp [q]), upd_ne q]
  refine ⟨⟨fun q => ?_, ?_, hp, vs, upd_same, by rw [e]; exact h⟩, e⟩
  · obtain ⟨o, ho⟩ := R.dom p q
    rw [hp] at ho; cases ho
  · cases q : z.B p with
    | none => rfl
    | some o =>
      by_cases n : p ∈ z.P
      · obtain ⟨o', ho⟩ := R.dom p (R.po p n)
        rw [hp] at ho; cases ho
      · obtain ⟨o', ho⟩ := (R.le p o n q).get
        rw [hp] at ho; cases ho
theorem XE.ofN (h : XN z t g m fun m' ds => C m' (.lst ds)) : XE z t g m C := fun O σ H R Q k => h O σ H R Q fun m' ds p H' c R' le f => by
  have l := hid1_le H' p
  obtain ⟨vs, hp, q⟩ := f.at_
  refine k m' _ _ _ c (R'.up l) (le.trans l.x) (.lst (by rw [hid_out f.no]; exact hp) (q.mono l.hid))
theorem XE.var {i : Nat} {d : Dat} (h : g[i]? = some (.dt d)) (c : C m d) : XE z (tVar i) g m C := fun O σ H R Q k => by
  obtain ⟨v, e, q⟩ := R.sl i _ h
  exact ⟨v, e, k m d v H c R (LeX.refl _ _) q⟩
theorem XE.int {i : Int} (c : C m (.int i)) : XE z (tC (.int i)) g m C := fun O σ H R Q k => k m _ _ H c R (LeX.refl _ _) (.int i)
theorem XE.bl {i : Bool} (c : C m (.bl i)) : XE z (tC (.bl i)) g m C := fun O σ H R Q k => k m _ _ H c R (LeX.refl _ _) (.bl i)
theorem XE.str {i : Str} (c : C m (.str i)) : XE z (tC (.str i)) g m C := fun O σ H R Q k => k m _ _ H c R (LeX.refl _ _) (.str i)
theorem XE.non (c : C m .non) : XE z (tC .non) g m C := fun O σ H R Q k => k m _ _ H c R (LeX.refl _ _) .non
theorem XE.op {rd : Dat → Dat → (Dat → Prop) → Prop} (hr : DR2 r rd) (h : XE z ta g m fun m1 d1 => XE z tb g m1 fun m2 d2 => rd d1 d2 (C m2)) : XE z (tOp r ta tb) g m C := fun O σ H R Q k =>
  h O σ H R _ fun m1 d1 x H1 c1 R1 l1 q1 => c1 O σ H1 R1 _ fun m2 d2 y H2 c2 R2 l2 q2 =>
    hr O H2 x y d1 d2 (C m2) Q R2.dom (q1.mono (l2.hid R1.po)) q2 c2 fun d v H3 c3 l3 q3 => k m2 d v H3 c3 (R2.up l3) ((l1.trans l2).trans l3.x) q3
theorem XN.op {rd : Dat → Dat → (List Dat → Prop) → Prop} (hr : DN2 r rd) (h : XE z ta g m fun m1 d1 => XE z tb g m1 fun m2 d2 => rd d1 d2 (CL m2)) : XN z (tOp r ta tb) g m CL := fun O σ H R Q k =>
  h O σ H R _ fun m1 d1 x H1 c1 R1 l1 q1 => c1 O σ H1 R1 _ fun m2 d2 y H2 c2 R2 l2 q2 =>
    hr H2 x y d1 d2 (CL m2) Q (hid O H2) (hid_le O H2) (q1.mono (l2.hid R1.po)) q2 c2 fun ds vs p c3 n q3 => by
      obtain ⟨f, e⟩ := Fresh.of R2 n q3
      have l12 := l1.trans l2
      refine k m2 ds p _ c3 (by rw [e]; exact R2) (by rw [e]; exact l12) ⟨f.no, f.nb, ?_, f.at_⟩
      cases q : H p with
      | none => rfl
      | some o =>
        by_cases y : p ∈ z.P
        · exact absurd (R.po p y) f.no
        · obtain ⟨o', ho⟩ := (l12 p o y q).get
          rw [n] at ho; cases ho
theorem XA.nil (c : CL m []) : XA z tNil g m CL := fun O σ H R Q k => k m [] [] H c R (LeX.refl _ _) .nil
theorem XA.cons (h : XE z ta g m fun m1 d => XA z tr g m1 fun m2 ds => CL m2 (d :: ds)) : XA z (tCons ta tr) g m CL := fun O σ H R Q k =>
  h O σ H R _ fun m1 d1 x H1 c1 R1 l1 q1 => c1 O σ H1 R1 _ fun m2 ds vs H2 c2 R2 l2 q2 => k m2 (d1 :: ds) (x :: vs) H2 c2 R2 (l1.trans l2) (.cons (q1.mono (l2.hid R1.po)) q2)
theorem XE.tup (h : XA z tr g m fun m1 ds => ds.length ≤ 1000 ∧ C m1 (.tup ds)) : XE z (tTup tr) g m C := fun O σ H R Q k =>
  h O σ H R _ fun m1 ds vs H1 ⟨hl, c⟩ R1 l1 q1 => ⟨Nat.le_of_lt (small1000 (by rw [q1.length]; exact hl)), fun p hp => by
    have l : Le H1 (upd H1 p (.tup vs)) := .new hp
    have n : p ∉ O := fun q => by obtain ⟨o, ho⟩ := R1.dom p q; rw [hp] at ho; cases ho
    exact k m1 _ _ _ c (R1.up l) (l1.trans l.x) (.tup (by rw [hid_out n]; exact upd_same) (q1.mono l.hid))⟩
theorem XN.lst (h : XA z tr g m fun m1 ds => ds.length ≤ 1000 ∧ CL m1 ds) : XN z (tLst tr) g m CL := fun O σ H R Q k =>
  h O σ H R _ fun m1 ds vs H1 ⟨hl, c⟩ R1 l1 q1 => ⟨Nat.le_of_lt (small1000 (by rw [q1.length]; exact hl)), fun p hp => by
    obtain ⟨f, e⟩ := Fresh.of R1 hp q1
    refine k m1 ds p _ c (by rw [e]; exact R1) (by rw [e]; exact l1) ⟨f.no, f.nb, ?_, f.at_⟩
    cases q : H p with
    | none => rfl
    | some o =>
      by_cases y : p ∈ z.P
      · exact absurd (R.po p y) f.no
      · obtain ⟨o', ho⟩ := (l1 p o y q).get
        rw [hp] at ho; cases ho⟩
theorem XE.cb {rb : List V → Hp → VK → Prop} {rd : List Dat → (Dat → Prop) → Prop} (hr : DCB rb rd) (h : XA z tr g m fun m1 ds => rd ds (C m1)) : XE z (tCB rb tr) g m C := fun O σ H R Q k =>
  h O σ H R _ fun m1 ds vs H1 c R1 l1 q1 => hr O H1 vs ds (C m1) Q R1.dom q1 c fun d v H2 c2 l2 q2 => k m1 d v H2 c2 (R1.up l2) (l1.trans l2.x) q2
theorem XN.cb {rb : List V → Hp → VK → Prop} {rd : List Dat → (List Dat → Prop) → Prop} (hr : DNB rb rd) (h : XA z tr g m fun m1 ds => rd ds (CL m1)) : XN z (tCB rb tr) g m CL := fun O σ H R Q k =>
  h O σ H R _ fun m1 ds vs H1 c R1 l1 q1 => hr H1 vs ds (CL m1) Q (hid O H1) (hid_le O H1) q1 c fun es us p c3 n q3 => by
      obtain ⟨f, e⟩ := Fresh.of R1 n q3
      refine k m1 es p _ c3 (by rw [e]; exact R1) (by rw [e]; exact l1) ⟨f.no, f.nb, ?_, f.at_⟩
      cases q : H p with
      | none => rfl
      | some o =>
        by_cases y : p ∈ z.P
        · exact absurd (R.po p y) f.no
        · obtain ⟨o', ho⟩ := (l1 p o y q).get
          rw [n] at ho; cases ho
/-! ### tests -/
theorem XT.b (h : XE z t g m fun m1 d => dBl d (CT m1)) : XT z (tB t) g m CT := fun O σ H R Q k => h O σ H R _ fun m1 d v H1 ⟨b, e, c⟩ R1 l1 q1 => by
  subst e; cases q1; exact ⟨b, rfl, k m1 b H1 c R1 l1⟩
theorem XT.test (h : XE z t g m fun m1 d => dBl d (CT m1)) : XT z (tTest t) g m CT := fun O σ H R Q k => h O σ H R _ fun m1 d v H1 ⟨b, e, c⟩ R1 l1 q1 => by
  subst e; cases q1; exact ⟨b, rfl, k m1 b H1 c R1 l1⟩
theorem XT.not (h : XT z tt g m fun m1 b => CT m1 (!b)) : XT z (tNot tt) g m CT := fun O σ H R Q k => h O σ H R _ fun m1 b H1 c R1 l1 => k m1 _ H1 c R1 l1
theorem XT.and (h : XT z tt g m fun m1 b => if b = true then XT z tu g m1 CT else CT m1 false) : XT z (tAnd tt tu) g m CT := fun O σ H R Q k => h O σ H R _ fun m1 b H1 c R1 l1 => by
  cases b with
  | true => exact c O σ H1 R1 Q fun m2 b2 H2 c2 R2 l2 => k m2 b2 H2 c2 R2 (l1.trans l2)
  | false => exact k m1 false H1 c R1 l1
theorem XT.or (h : XT z tt g m fun m1 b => if b = true then CT m1 true else XT z tu g m1 CT) : XT z (tOr tt tu) g m CT := fun O σ H R Q k => h O σ H R _ fun m1 b H1 c R1 l1 => by
  cases b with
  | false => exact c O σ H1 R1 Q fun m2 b2 H2 c2 R2 l2 => k m2 b2 H2 c2 R2 (l1.trans l2)
  | true => exact k m1 true H1 c R1 l1
theorem XT.yes (c : CT m true) : XT z tYes g m CT := fun O σ H R Q k => k m true H c R (LeX.refl _ _)
theorem XE.andV (h : XE z ta g m fun m1 d => dBl d fun b => if b = true then XE z tb g m1 C else C m1 (.bl false)) : XE z (tAndV ta tb) g m C := fun O σ H R Q k => h O σ H R _ fun m1 d v H1 ⟨b, e, c⟩ R1 l1 q1 => by
  subst e; cases q1
  refine ⟨b, rfl, ?_⟩
  cases b with
  | true => exact c O σ H1 R1 Q fun m2 b2 v2 H2 c2 R2 l2 q2 => k m2 b2 v2 H2 c2 R2 (l1.trans l2) q2
  | false => exact k m1 _ _ H1 c R1 l1 (.bl false)
theorem XE.orV (h : XE z ta g m fun m1 d => dBl d fun b => if b = true then C m1 (.bl true) else XE z tb g m1 C) : XE z (tOrV ta tb) g m C := fun O σ H R Q k => h O σ H R _ fun m1 d v H1 ⟨b, e, c⟩ R1 l1 q1 => by
  subst e; cases q1
  refine ⟨b, rfl, ?_⟩
  cases b with
  | false => exact c O σ H1 R1 Q fun m2 b2 v2 H2 c2 R2 l2 q2 => k m2 b2 v2 H2 c2 R2 (l1.trans l2) q2
  | true => exact k m1 _ _ H1 c R1 l1 (.bl true)
theorem XE.notV (h : XE z ta g m fun m1 d => dBl d fun b => C m1 (.bl (!b))) : XE z (tNotV ta) g m C := fun O σ H R Q k => h O σ H R _ fun m1 d v H1 ⟨b, e, c⟩ R1 l1 q1 => by
  subst e; cases q1
  exact ⟨b, rfl, k m1 _ _ H1 c R1 l1 (.bl _)⟩
theorem XE.ifE (h : XT z tt g m fun m1 b => if b = true then XE z ta g m1 C else XE z tb g m1 C) : XE z (tIf tt ta tb) g m C := fun O σ H R Q k => h O σ H R _ fun m1 b H1 c R1 l1 => by
  cases b with
  | true => exact c O σ H1 R1 Q fun m2 b2 v2 H2 c2 R2 l2 q2 => k m2 b2 v2 H2 c2 R2 (l1.trans l2) q2
  | false => exact c O σ H1 R1 Q fun m2 b2 v2 H2 c2 R2 l2 q2 => k m2 b2 v2 H2 c2 R2 (l1.trans l2) q2
theorem XE.chain {rd rd' : Dat → Dat → (Dat → Prop) → Prop} (hr : DR2 r rd) (hr' : DR2 r' rd') (h : XE z ta g m fun m1 d1 => XE z tb g m1 fun m2 d2 => rd d1 d2 fun d3 => dBl d3 fun b => if b = true then XE z tc g m2 fun m4 d4 => rd' d2 d4 (C m4) else C m2 (.bl false)) : XE z (tChain r r' ta tb tc) g m C := fun O σ H R Q k =>
  h O σ H R _ fun m1 d1 x H1 c1 R1 l1 q1 => c1 O σ H1 R1 _ fun m2 d2 y H2 c2 R2 l2 q2 =>
    hr O H2 x y d1 d2 _ _ R2.dom (q1.mono (l2.hid R1.po)) q2 c2 fun d v H3 c3 l3 q3 => by
      obtain ⟨b, e, c3⟩ := c3
      subst e; cases q3
      refine ⟨b, rfl, ?_⟩
      have R3 := R2.up l3
      have l13 := (l1.trans l2).trans l3.x
      cases b with
      | true => exact c3 O σ H3 R3 _ fun m4 d4 w_ H4 c4 R4 l4 q4 => hr' O H4 y w_ d2 d4 (C m4) Q R4.dom ((q2.mono l3.hid).mono (l4.hid R3.po)) q4 c4 fun d5 v5 H5 c5 l5 q5 => k m4 d5 v5 H5 c5 (R4.up l5) ((l13.trans l4).trans l5.x) q5
      | false => exact k m2 _ _ H3 c3 R3 l13 (.bl false)
end
end My

namespace My
open PySem PySem.Spec PyProof.Rows L2
open C8 (Cal pe_c pe_gc)
/-! ### the rules, told of data -/
def simV : V → Bool
  | .non | .bl _ | .int _ | .str _ => true
  | _ => false
def vd : V → Dat
  | .bl b => .bl b
  | .int i => .int i
  | .str x => .str x
  | _ => .non
theorem rp_vd {H : Hp} {v : V} (h : simV v = true) : Rp H v (vd v) := by
  cases v with
  | non => exact .non
  | bl b => exact .bl b
  | int i => exact .int i
  | str x => exact .str x
  | _ => cases h
def dv : Dat → V
  | .bl b => .bl b
  | .int i => .int i
  | .str x => .str x
  | _ => .non
def isSc : Dat → Bool
  | .non | .bl _ | .int _ | .str _ => true
  | _ => false
theorem rp_dv {H : Hp} {v : V} {d : Dat} (h : isSc d = true) (r : Rp H v d) : v = dv d := by
  cases r with
  | non => rfl
  | bl b => rfl
  | int i => rfl
  | str x => rfl
  | lst h1 h2 => cases h
  | tup h1 h2 => cases h
  | ins h1 h2 => cases h
  | exc0 h1 => cases h
  | exc1 h1 h2 h3 => cases h
def dI (cd : Int → Int → Prop) (f : Int → Int → V) : Dat → Dat → (Dat → Prop) → Prop := fun d e C => ∃ i j, d = .int i ∧ e = .int j ∧ cd i j ∧ C (vd (f i j))
def dI0 (f : Int → Int → V) : Dat → Dat → (Dat → Prop) → Prop := fun d e C => ∃ i j, d = .int i ∧ e = .int j ∧ C (vd (f i j))
theorem dr_I {cd : Int → Int → Prop} {f : Int → Int → V} (hs : ∀ i j, simV (f i j) = true := by intros; rfl) : DR2 (rI cd f) (dI cd f) := fun O H x y d e C Q _ rx ry ⟨i, j, e1, e2, hc, c⟩ k => by
  subst e1 e2; cases rx; cases ry
  exact ⟨i, j, rfl, rfl, hc, k _ _ H c (Le.refl H) (rp_vd (hs i j))⟩
theorem dr_I0 {f : Int → Int → V} (hs : ∀ i j, simV (f i j) = true := by intros; rfl) : DR2 (rI0 f) (dI0 f) := fun O H x y d e C Q _ rx ry ⟨i, j, e1, e2, c⟩ k => by
  subst e1 e2; cases rx; cases ry
  exact ⟨i, j, rfl, rfl, k _ _ H c (Le.refl H) (rp_vd (hs i j))⟩
/-- == of simple things -/
def eqS : Dat → Dat → Bool
  | .int i, .int j => decide (i = j)
  | .bl i, .bl j => decide (i = j)
  | .str i, .str j => decide (i = j)
  | .non, .non => true
  | _, _ => false
theorem eqS_ok {d e : Dat} (h1 : isSc d = true) (h2 : isSc e = true) : decide (dv d = dv e) = eqS d e := by
  cases d <;> cases e <;> first | (cases h1; done) | (cases h2; done) | skip
  all_goals first
    | rfl
    | (show decide (V.int _ = V.int _) = decide _; exact decide_eq_decide.mpr ⟨fun h => by injection h, fun h => by rw [h]⟩)
    | (show decide (V.bl _ = V.bl _) = decide _; exact decide_eq_decide.mpr ⟨fun h => by injection h, fun h => by rw [h]⟩)
    | (show decide (V.str _ = V.str _) = decide _; exact decide_eq_decide.mpr ⟨fun h => by injection h, fun h => by rw [h]⟩)
    | exact decide_eq_false (fun h => nomatch h)
def dEq (d e : Dat) (C : Dat → Prop) : Prop := isSc d = true ∧ isSc e = true ∧ scal (dv d) (dv e) = true ∧ C (.bl (eqS d e))
def dNe (d e : Dat) (C : Dat → Prop) : Prop := isSc d = true ∧ isSc e = true ∧ scal (dv d) (dv e) = true ∧ C (.bl (!eqS d e))
theorem dr_eq : DR2 rEq dEq := fun O H x y d e C Q _ rx ry ⟨h1, h2, hs, c⟩ k => by
  have e1 := rp_dv h1 rx
  have e2 := rp_dv h2 ry
  subst e1 e2
  exact ⟨hs, k _ _ H c (Le.refl H) (by rw [eqS_ok h1 h2]; exact .bl _)⟩
theorem dr_ne : DR2 rNe dNe := fun O H x y d e C Q _ rx ry ⟨h1, h2, hs, c⟩ k => by
  have e1 := rp_dv h1 rx
  have e2 := rp_dv h2 ry
  subst e1 e2
  exact ⟨hs, k _ _ H c (Le.refl H) (by rw [eqS_ok h1 h2]; exact .bl _)⟩
def isN : Dat → Bool
  | .non => true
  | _ => false
theorem isN_ok {H : Hp} {v : V} {d : Dat} (r : Rp H v d) : decide (v = .non) = isN d := by
  cases r <;> first | rfl | exact decide_eq_false (fun h => nomatch h)
theorem dr_isN : DR2 (fun x y H Q => y = .non ∧ Q (.bl (decide (x = .non))) H) (fun d e C => e = .non ∧ C (.bl (isN d))) := fun O H x y d e C Q _ rx ry ⟨h1, c⟩ k => by
  subst h1; cases ry
  exact ⟨rfl, k _ _ H c (Le.refl H) (by rw [isN_ok rx]; exact .bl _)⟩
theorem dr_notN : DR2 (fun x y H Q => y = .non ∧ Q (.bl (!decide (x = .non))) H) (fun d e C => e = .non ∧ C (.bl (!isN d))) := fun O H x y d e C Q _ rx ry ⟨h1, c⟩ k => by
  subst h1; cases ry
  exact ⟨rfl, k _ _ H c (Le.refl H) (by rw [isN_ok rx]; exact .bl _)⟩
/-! places -/
def dIx (d e : Dat) (C : Dat → Prop) : Prop := ∃ ds j x, d = .lst ds ∧ e = .int j ∧ atI ds j = some x ∧ C x
def dIxT (d e : Dat) (C : Dat → Prop) : Prop := ∃ ds j x, d = .tup ds ∧ e = .int j ∧ atI ds j = some x ∧ C x
theorem dr_ixL {K : PySem.W.Frag} : DR2 (rIxL K) dIx := fun O H x y d e C Q _ rx ry ⟨ds, j, x', e1, e2, ha, c⟩ k => by
  subst e1 e2; cases ry
  cases rx with
  | lst h r =>
    obtain ⟨v, hv, rv⟩ := r.at ha
    exact ⟨_, _, _, v, rfl, rfl, SqL.of (hid_some h).2, hv, k _ _ H c (Le.refl H) rv⟩
theorem dr_ixT {K : PySem.W.Frag} : DR2 (rIxT K) dIxT := fun O H x y d e C Q _ rx ry ⟨ds, j, x', e1, e2, ha, c⟩ k => by
  subst e1 e2; cases ry
  cases rx with
  | tup h r =>
    obtain ⟨v, hv, rv⟩ := r.at ha
    exact ⟨_, _, _, v, rfl, rfl, SqT.of (hid_some h).2, hv, k _ _ H c (Le.refl H) rv⟩
def dCat (d e : Dat) (C : List Dat → Prop) : Prop := ∃ xs ys, d = .lst xs ∧ e = .lst ys ∧ xs.length + ys.length ≤ 1000 ∧ C (xs ++ ys)
theorem dn_cat : DN2 rCat dCat := fun H x y d e C Q G l rx ry ⟨xs, ys, e1, e2, hl, c⟩ k => by
  subst e1 e2
  cases rx with
  | lst h r =>
    cases ry with
    | lst h' r' =>
      refine ⟨_, _, _, _, rfl, rfl, l.lst h, l.lst h', ?_, fun p hp => k _ _ p c hp (r.append r')⟩
      rw [r.length, r'.length]; exact Nat.le_of_lt (small1000 hl)
def dRep (d e : Dat) (C : List Dat → Prop) : Prop := ∃ xs k, d = .lst xs ∧ e = .int k ∧ -(2 ^ 63) ≤ k ∧ k < 2 ^ 63 ∧ xs.length * k.toNat ≤ 1000 ∧ C (List.replicate k.toNat xs).flatten
theorem dn_rep : DN2 rRep dRep := fun H x y d e C Q G l rx ry ⟨xs, n, e1, e2, h1, h2, hl, c⟩ k => by
  subst e1 e2; cases ry
  cases rx with
  | lst h r =>
    refine ⟨_, _, _, rfl, rfl, l.lst h, h1, h2, ?_, fun p hp => k _ _ p c hp (r.rep _)⟩
    rw [r.length]; exact Nat.le_of_lt (small1000 hl)
/-! data that is compared at any depth -/
mutual
def toP : Dat → PyData
  | .non => .none
  | .bl b => .bool b
  | .int i => .int i
  | .str x => .str x
  | .lst ds => .list (toPs ds)
  | .tup ds => .tuple (toPs ds)
  | .ins _ _ => .none
  | .exc _ _ => .none
def toPs : List Dat → List PyData
  | [] => []
  | d :: ds => toP d :: toPs ds
end
mutual
def plain : Dat → Bool
  | .ins _ _ => false
  | .exc _ _ => false
  | .str x => PyData.strOk x
  | .lst ds => plains ds
  | .tup ds => plains ds
  | _ => true
def plains : List Dat → Bool
  | [] => true
  | d :: ds => plain d && plains ds
end
theorem and_t {a b : Bool} (h : (a && b) = true) : a = true ∧ b = true := by cases a <;> cases b <;> simp_all
mutual
theorem Rp.dp {K : PySem.W.Frag} {O : List Addr} {H : Hp} : ∀ {v : V} {d : Dat}, plain d = true → Rp (hid O H) v d → Dp K H v (toP d)
  | _, _, _, .non => .non
  | _, _, _, .bl b => .bl b
  | _, _, _, .int i => .int i
  | _, _, _, .str x => .str x
  | _, _, p, .lst h r => .lst (SqL.of (hid_some h).2) (RpL.dp (by simpa [plain] using p) r)
  | _, _, p, .tup h r => .tup (SqT.of (hid_some h).2) (RpL.dp (by simpa [plain] using p) r)
  | _, _, p, .ins h r n => by simp [plain] at p
  | _, _, p, .exc0 h => by simp [plain] at p
  | _, _, p, .exc1 h h2 r => by simp [plain] at p
theorem RpL.dp {K : PySem.W.Frag} {O : List Addr} {H : Hp} : ∀ {vs : List V} {ds : List Dat}, plains ds = true → RpL (hid O H) vs ds → DpAll K H vs (toPs ds)
  | _, _, _, .nil => .nil
  | _, _, p, .cons r t => .cons (Rp.dp (and_t (by simpa [plains] using p)).1 r) (RpL.dp (and_t (by simpa [plains] using p)).2 t)
end
mutual
/-- how deep -/
def dep : Dat → Nat
  | .lst ds => deps ds + 1
  | .tup ds => deps ds + 1
  | _ => 0
def deps : List Dat → Nat
  | [] => 0
  | d :: ds => max (dep d) (deps ds)
end
/-- == of data -/
def eqD (d e : Dat) : Bool := PyData.eqv (toP d) (toP e)
structure Cmp (d : Dat) : Prop where
  p : plain d = true
  s : SeqAt.shaped (toP d) = true
def dEqD (d e : Dat) (C : Dat → Prop) : Prop := Cmp d ∧ Cmp e ∧ C (.bl (eqD d e))
def dNeD (d e : Dat) (C : Dat → Prop) : Prop := Cmp d ∧ Cmp e ∧ C (.bl (!eqD d e))
theorem dr_eqD {K : PySem.W.Frag} : DR2 (rEqD K) dEqD := fun O H x y d e C Q _ rx ry ⟨h1, h2, c⟩ k => ⟨_, _, rx.dp h1.p, ry.dp h2.p, h1.s, h2.s, k _ _ H c (Le.refl H) (.bl _)⟩
theorem dr_neD {K : PySem.W.Frag} : DR2 (rNeD K) dNeD := fun O H x y d e C Q _ rx ry ⟨h1, h2, c⟩ k => ⟨_, _, rx.dp h1.p, ry.dp h2.p, h1.s, h2.s, k _ _ H c (Le.refl H) (.bl _)⟩
mutual
theorem lay_toP : ∀ {d : Dat}, plain d = true → PyData.canLay0 (toP d) = true ∧ PyData.depth (toP d) ≤ dep d + 1
  | .non, _ => ⟨by simp [toP, PyData.canLay0], by simp [toP, PyData.depth]⟩
  | .bl _, _ => ⟨by simp [toP, PyData.canLay0], by simp [toP, PyData.depth]⟩
  | .int _, _ => ⟨by simp [toP, PyData.canLay0], by simp [toP, PyData.depth]⟩
  | .str _, p => ⟨by simpa [toP, PyData.canLay0, plain] using p, by simp [toP, PyData.depth]⟩
  | .ins _ _, _ => ⟨by simp [toP, PyData.canLay0], by simp [toP, PyData.depth]⟩
  | .exc _ _, _ => ⟨by simp [toP, PyData.canLay0], by simp [toP, PyData.depth]⟩
  | .lst ds, p => ⟨by simp only [toP, PyData.canLay0]; exact (lay_toPs (by simpa [plain] using p)).1, by simp only [toP, PyData.depth, dep]; have := (lay_toPs (ds := ds) (by simpa [plain] using p)).2; omega⟩
  | .tup ds, p => ⟨by simp only [toP, PyData.canLay0]; exact (lay_toPs (by simpa [plain] using p)).1, by simp only [toP, PyData.depth, dep]; have := (lay_toPs (ds := ds) (by simpa [plain] using p)).2; omega⟩
theorem lay_toPs : ∀ {ds : List Dat}, plains ds = true → PyData.canLayAll0 (toPs ds) = true ∧ PyData.depthAll (toPs ds) ≤ deps ds + 1
  | [], _ => ⟨by simp [toPs, PyData.canLayAll0], by simp [toPs, PyData.depthAll]⟩
  | d :: ds, p => by
    have p' := and_t (show (plain d && plains ds) = true by simpa [plains] using p)
    have h1 := lay_toP (d := d) p'.1
    have h2 := lay_toPs (ds := ds) p'.2
    refine ⟨by simp only [toPs, PyData.canLayAll0, h1.1, h2.1]; rfl, ?_⟩
    simp only [toPs, PyData.depthAll, deps]
    omega
end
theorem Cmp.of {d : Dat} (p : plain d = true) (h : dep d ≤ 60) : Cmp d := ⟨p, by
  have l := lay_toP (d := d) p
  show (PyData.canLay0 (toP d) && decide (PyData.depth (toP d) ≤ 64)) = true
  rw [l.1, decide_eq_true (by omega)]; rfl⟩
theorem eqD_refl {d : Dat} (h : Cmp d) : eqD d d = true := SeqAt.eqv_refl _ (SeqAt.canLay_of_shaped h.s)
/-! calls of what is built in -/
theorem db_abs : DCB (fun xs H Q => ∃ i, xs = [.int i] ∧ Q (.int (if i < 0 then -i else i)) H) (fun ds C => ∃ i, ds = [.int i] ∧ C (.int (if i < 0 then -i else i))) := fun O H xs ds C Q _ r ⟨i, e, c⟩ k => by
  subst e
  cases r with
  | cons r t => cases r; cases t; exact ⟨i, rfl, k _ _ H c (Le.refl H) (.int _)⟩
theorem db_max2 : DCB (fun xs H Q => ∃ i j, xs = [.int i, .int j] ∧ Q (.int (if j > i then j else i)) H) (fun ds C => ∃ i j, ds = [.int i, .int j] ∧ C (.int (if j > i then j else i))) := fun O H xs ds C Q _ r ⟨i, j, e, c⟩ k => by
  subst e
  cases r with
  | cons r t => cases r; cases t with
    | cons r t => cases r; cases t; exact ⟨i, j, rfl, k _ _ H c (Le.refl H) (.int _)⟩
theorem db_int1 : DCB (fun xs H Q => (∃ i, xs = [.int i] ∧ Q (.int i) H) ∨ ∃ k, xs = [.bl k] ∧ Q (.int (if k then 1 else 0)) H) (fun ds C => (∃ i, ds = [.int i] ∧ C (.int i)) ∨ ∃ k, ds = [.bl k] ∧ C (.int (if k then 1 else 0))) := fun O H xs ds C Q _ r h k => by
  rcases h with ⟨i, e, c⟩ | ⟨i, e, c⟩
  · subst e
    cases r with
    | cons r t => cases r; cases t; exact .inl ⟨i, rfl, k _ _ H c (Le.refl H) (.int _)⟩
  · subst e
    cases r with
    | cons r t => cases r; cases t; exact .inr ⟨i, rfl, k _ _ H c (Le.refl H) (.int _)⟩
def seqOf : Dat → Option (List Dat)
  | .lst ds => some ds
  | .tup ds => some ds
  | _ => none
theorem db_len {K : PySem.W.Frag} : DCB (fun xs H Q => ∃ p ys, xs = [.ref p] ∧ (SqL K H p ys ∨ SqT K H p ys) ∧ Q (.int ys.length) H) (fun ds C => ∃ d xs, ds = [d] ∧ seqOf d = some xs ∧ C (.int xs.length)) := fun O H xs ds C Q _ r ⟨d, ys, e, hs, c⟩ k => by
  subst e
  cases r with
  | cons r t =>
    cases t
    cases r with
    | lst h r => cases hs; exact ⟨_, _, rfl, .inl (SqL.of (hid_some h).2), k _ _ H c (Le.refl H) (by rw [r.length]; exact .int _)⟩
    | tup h r => cases hs; exact ⟨_, _, rfl, .inr (SqT.of (hid_some h).2), k _ _ H c (Le.refl H) (by rw [r.length]; exact .int _)⟩
    | _ => cases hs
theorem dn_listOf {K : PySem.W.Frag} : DNB (fun xs H Q => ∃ p ys, xs = [.ref p] ∧ (SqL K H p ys ∨ SqT K H p ys) ∧ ∀ l, H l = none → Q (.ref l) (upd H l (.lst ys))) (fun ds C => ∃ d xs, ds = [d] ∧ seqOf d = some xs ∧ C xs) := fun H xs ds C Q G l r ⟨d, ys, e, hs, c⟩ k => by
  subst e
  cases r with
  | cons r t =>
    cases t
    cases r with
    | lst h r => cases hs; exact ⟨_, _, rfl, .inl (SqL.of (l.lst h)), fun p hp => k _ _ p c hp r⟩
    | tup h r =>
      cases hs
      rcases l _ _ h with h | ⟨_, _, _, _, e, _⟩
      · exact ⟨_, _, rfl, .inr (SqT.of h), fun p hp => k _ _ p c hp r⟩
      · cases e
    | _ => cases hs
/-! what is asked of data, by names: so a tactic can answer -/
def dUn (f : Int → V) (d : Dat) (C : Dat → Prop) : Prop := ∃ i, d = .int i ∧ C (vd (f i))
def dInt (d : Dat) (C : Int → Prop) : Prop := ∃ i, d = .int i ∧ C i
def dLst (d : Dat) (C : List Dat → Prop) : Prop := ∃ ds, d = .lst ds ∧ C ds
def dTup (d : Dat) (C : List Dat → Prop) : Prop := ∃ ds, d = .tup ds ∧ C ds
def dStr (d : Dat) (C : Str → Prop) : Prop := ∃ x, d = .str x ∧ C x
def dIxO (ds : List Dat) (d : Dat) (C : Dat → Prop) : Prop := ∃ j x, d = .int j ∧ atI ds j = some x ∧ C x
section
variable {z : Cz} {g : List Sl} {m : Nat} {C : Nat → Dat → Prop} {CL : Nat → List Dat → Prop} {t ta tb tc : TE} {tr : TA}
/-! one-place operations, parts of lists, own lists read -/
theorem XE.unI {f : Int → V} (h : XE z ta g m fun m1 d => dUn f d (C m1)) (hs : ∀ i, simV (f i) = true := by intros; rfl) : XE z (tUn (rU f) ta) g m C := fun O σ H R Q k =>
  h O σ H R _ fun m1 d v H1 ⟨i, e, c⟩ R1 l1 q1 => by subst e; cases q1; exact ⟨i, rfl, k m1 _ _ H1 c R1 l1 (rp_vd (hs i))⟩
def XO (z : Cz) (t : TO) (g : List Sl) (m : Nat) (C : Nat → Option Int → Prop) : Prop := ∀ (O : List Addr) (σ : L2.St) (H : Hp), Real z O g m σ H → ∀ Q : Option Int → Hp → Prop,
  (∀ m' o H', C m' o → Real z O g m' σ H' → LeX z.P H H' → Q o H') → t σ H Q
theorem XO.no {C : Nat → Option Int → Prop} (c : C m none) : XO z tNoPart g m C := fun O σ H R Q k => k m none H c R (LeX.refl _ _)
theorem XO.yes {C : Nat → Option Int → Prop} (h : XE z ta g m fun m1 d => dInt d fun i => C m1 (some i)) : XO z (tPart ta) g m C := fun O σ H R Q k =>
  h O σ H R _ fun m1 d v H1 ⟨i, e, c⟩ R1 l1 q1 => by subst e; cases q1; exact ⟨i, rfl, k m1 _ H1 c R1 l1⟩
theorem XN.sl {K : PySem.W.Frag} {tl th : TO} (h : XE z ta g m fun m1 d => XO z tl g m1 fun m2 lo => XO z th g m2 fun m3 hi => dLst d fun ds => CL m3 (cutD ds lo hi)) : XN z (tSl (rSlL K) ta tl th) g m CL := fun O σ H R Q k =>
  h O σ H R _ fun m1 d v H1 c1 R1 l1 q1 => c1 O σ H1 R1 _ fun m2 lo H2 c2 R2 l2 => c2 O σ H2 R2 _ fun m3 hi H3 ⟨ds, e, c⟩ R3 l3 => by
    subst e
    have q3 := (q1.mono (l2.hid R1.po)).mono (l3.hid R2.po)
    cases q3 with
    | lst hq r =>
      refine ⟨_, _, rfl, SqL.of (hid_some hq).2, fun p hp => ?_⟩
      obtain ⟨f, e⟩ := Fresh.of R3 hp (r.cut lo hi)
      have l := (l1.trans l2).trans l3
      refine k m3 _ p _ c (by rw [e]; exact R3) (by rw [e]; exact l) ⟨f.no, f.nb, ?_, f.at_⟩
      cases q : H p with
      | none => rfl
      | some o =>
        by_cases y : p ∈ z.P
        · exact absurd (R.po p y) f.no
        · obtain ⟨o', ho⟩ := (l p o y q).get
          rw [hp] at ho; cases ho
theorem XE.ixO {K : PySem.W.Frag} {i : Nat} {ds : List Dat} (hg : g[i]? = some (.ow ds)) (h : XE z tb g m fun m2 d2 => dIxO ds d2 (C m2)) : XE z (tOp (rIxL K) (tVar i) tb) g m C := fun O σ H R Q k => by
  obtain ⟨p, vs, e, po, pG, hp, q⟩ := R.sl i _ hg
  refine ⟨_, e, h O σ H R _ fun m2 d2 y H2 ⟨j, x, e2, ha, c⟩ R2 l2 q2 => ?_⟩
  subst e2; cases q2
  obtain ⟨v, hv, rv⟩ := (q.mono (l2.hid R.po)).at ha
  exact ⟨p, vs, j, v, rfl, rfl, SqL.of (l2.lst (fun n => pG (R.pg p n)) hp), hv, k m2 _ _ H2 c R2 l2 rv⟩
theorem XE.lenO {K : PySem.W.Frag} {i : Nat} {ds : List Dat} (hg : g[i]? = some (.ow ds)) (c : C m (.int ds.length)) : XE z (tCB (fun xs H Q => ∃ p ys, xs = [.ref p] ∧ (SqL K H p ys ∨ SqT K H p ys) ∧ Q (.int ys.length) H) (tCons (tVar i) tNil)) g m C := fun O σ H R Q k => by
  obtain ⟨p, vs, e, po, pG, hp, q⟩ := R.sl i _ hg
  exact ⟨_, e, p, vs, rfl, .inl (SqL.of hp), k m _ _ H c R (LeX.refl _ _) (by rw [q.length]; exact .int _)⟩
end
end My

namespace My
open PySem PySem.Spec PyProof.Rows L2
open C8 (Cal pe_c pe_gc)
/-! ### statements -/
/-- what is of now and of later: what was data then is data now -/
structure Lz (O : List Addr) (H : Hp) (O' : List Addr) (H' : Hp) : Prop where
  le : Le (hid O H) (hid O' H')
  new : ∀ p ∈ O', p ∈ O ∨ H p = none
theorem Lz.refl (O : List Addr) (H : Hp) : Lz O H O H := ⟨Le.refl _, fun _ h => .inl h⟩
theorem Lz.trans {O O1 O2 : List Addr} {H H1 H2 : Hp} (a : Lz O H O1 H1) (b : Lz O1 H1 O2 H2) : Lz O H O2 H2 := ⟨a.le.trans b.le, fun p h => by
  rcases b.new p h with h | h
  · exact a.new p h
  · by_cases q : p ∈ O
    · exact .inl q
    · refine .inr ?_
      cases e : H p with
      | none => rfl
      | some o =>
        obtain ⟨o', ho⟩ := (a.le p o (by rw [hid_out q]; exact e)).get
        rw [(hid_some ho).2] at h; cases h⟩
theorem LeX.z {P O : List Addr} {H H' : Hp} (a : LeX P H H') (p : ∀ b ∈ P, b ∈ O) : Lz O H O H' := ⟨a.hid p, fun _ h => .inl h⟩
structure DE where
  nx : List Sl → Nat → Prop
  rt : Nat → Dat → Prop
  rn : Nat → List Dat → Prop := fun _ _ => False
  bk : List Sl → Nat → Prop := fun _ _ => False
  ct : List Sl → Nat → Prop := fun _ _ => False
structure DK (z : Cz) (O : List Addr) (H : Hp) (E : DE) (D : Ends) : Prop where
  nx : ∀ O' g' m' σ' H', E.nx g' m' → Real z O' g' m' σ' H' → Lz O H O' H' → D.nx σ' H'
  rt : ∀ O' g' m' σ' d v H', E.rt m' d → Real z O' g' m' σ' H' → Rp (hid O' H') v d → D.rt v H'
  rn : ∀ O' g' m' σ' ds p H', E.rn m' ds → Real z O' g' m' σ' (hid [p] H') → p ∉ O' → z.B p = none → (∃ vs, H' p = some (.lst vs) ∧ RpL (hid O' (hid [p] H')) vs ds) → D.rt (.ref p) H'
  bk : ∀ O' g' m' σ' H', E.bk g' m' → Real z O' g' m' σ' H' → Lz O H O' H' → D.bk σ' H'
  ct : ∀ O' g' m' σ' H', E.ct g' m' → Real z O' g' m' σ' H' → Lz O H O' H' → D.ct σ' H'
theorem DK.mono {z : Cz} {O O1 : List Addr} {H H1 : Hp} {E : DE} {D : Ends} (k : DK z O H E D) (l : Lz O H O1 H1) : DK z O1 H1 E D :=
  ⟨fun O' g' m' σ' H' c R q => k.nx O' g' m' σ' H' c R (l.trans q), k.rt, k.rn, fun O' g' m' σ' H' c R q => k.bk O' g' m' σ' H' c R (l.trans q), fun O' g' m' σ' H' c R q => k.ct O' g' m' σ' H' c R (l.trans q)⟩
def XS (z : Cz) (t : TS) (g : List Sl) (m : Nat) (E : DE) : Prop := ∀ (O : List Addr) (σ : L2.St) (H : Hp), Real z O g m σ H → ∀ D : Ends, DK z O H E D → t D σ H
/-- a target -/
def XG (z : Cz) (vs : List Nat) (gt : TG) (d : Dat) (g : List Sl) (k : List Sl → Prop) : Prop := ∀ (O : List Addr) (m : Nat) (σ : L2.St) (H : Hp) (v : V), Real z O g m σ H → Rp (hid O H) v d → ∀ R : L2.St → Hp → Prop,
  (∀ g' σ', k g' → Real z O g' m σ' H → wipe σ' vs = wipe σ vs → R σ' H) → gt v σ H R
def XGs (z : Cz) (vs : List Nat) (gt : TGs) (ds : List Dat) (g : List Sl) (k : List Sl → Prop) : Prop := ∀ (O : List Addr) (m : Nat) (σ : L2.St) (H : Hp) (ws : List V), Real z O g m σ H → RpL (hid O H) ws ds → ∀ R : L2.St → Hp → Prop,
  (∀ g' σ', k g' → Real z O g' m σ' H → wipe σ' vs = wipe σ vs → R σ' H) → gt ws σ H R
theorem wipe_set {σ : L2.St} {i : Nat} {x : Option V} : ∀ {vs : List Nat}, i ∈ vs → wipe (σ.set i x) vs = wipe σ vs
  | v :: vs, h => by
    unfold wipe
    by_cases e : i ∈ vs
    · rw [wipe_set e]
    · have e2 : i = v := (List.mem_cons.mp h).resolve_right e
      subst e2
      have q : ∀ {ws : List Nat}, i ∉ ws → (wipe (σ.set i x) ws) = (wipe σ ws).set i x := fun {ws} => by
        induction ws with
        | nil => intro _; rfl
        | cons w ws ih =>
          intro hn
          unfold wipe
          rw [ih (fun z => hn (List.mem_cons_of_mem _ z)), List.set_comm _ _ (fun z => hn (by rw [z]; simp))]
      rw [q e, List.set_set]
def dPut (n : Nat) (d : Dat) (C : Nat → Prop) : Prop := ∃ k j, d = .int k ∧ ixN n k = some j ∧ C j
@[irreducible] def dExt (n : Nat) (d : Dat) (C : List Dat → Prop) : Prop := ∃ es, d = .lst es ∧ n + es.length ≤ 1000 ∧ C es
def dApp (n : Nat) (es : List Dat) (C : Dat → Prop) : Prop := ∃ d, es = [d] ∧ n ≤ 1000 ∧ C d
section
variable {z : Cz} {g : List Sl} {m : Nat} {C : Nat → Dat → Prop} {CL : Nat → List Dat → Prop} {CT : Nat → Bool → Prop} {t ta tb tc : TE} {tr : TA} {tt tu : TT} {ts us : TS} {E : DE} {vs : List Nat}
theorem XG.name {i : Nat} {d : Dat} {k : List Sl → Prop} (h : vs.contains i = true) (c : k (g.set i (.dt d))) : XG z vs (gName i) d g k := fun O m σ H v R q R' k' => k' _ _ c (R.set i q) (wipe_set (by simpa using h))
theorem XGs.nil {k : List Sl → Prop} (c : k g) : XGs z vs gNil [] g k := fun O m σ H ws R q R' k' => by cases q; exact ⟨rfl, k' _ _ c R rfl⟩
theorem XGs.cons {g1 : TG} {gs : TGs} {d : Dat} {ds : List Dat} {k : List Sl → Prop} (h : XG z vs g1 d g fun g2 => XGs z vs gs ds g2 k) : XGs z vs (gCons g1 gs) (d :: ds) g k := fun O m σ H ws R q R' k' => by
  cases q with
  | cons r t => exact ⟨_, _, rfl, h O m σ H _ R r _ fun g2 σ2 c2 R2 w2 => c2 O m σ2 H _ R2 t _ fun g3 σ3 c3 R3 w3 => k' g3 σ3 c3 R3 (w3.trans w2)⟩
theorem XG.tup {K : PySem.W.Frag} {n : Nat} {gs : TGs} {d : Dat} {k : List Sl → Prop} (h : ∃ ds, d = .tup ds ∧ ds.length = n ∧ XGs z vs gs ds g k) : XG z vs (gTup K n gs) d g k := fun O m σ H v R q R' k' => by
  obtain ⟨ds, e, hl, h⟩ := h
  subst e
  cases q with
  | tup ha r => exact ⟨_, _, rfl, SqT.of (hid_some ha).2, by rw [r.length]; exact hl, h O m σ H _ R r R' k'⟩
theorem XG.unl {K : PySem.W.Frag} {n : Nat} {gs : TGs} {d : Dat} {k : List Sl → Prop} (h : ∃ ds, d = .lst ds ∧ ds.length = n ∧ XGs z vs gs ds g k) : XG z vs (gUnl K n gs) d g k := fun O m σ H v R q R' k' => by
  obtain ⟨ds, e, hl, h⟩ := h
  subst e
  cases q with
  | lst ha r => exact ⟨_, _, rfl, SqL.of (hid_some ha).2, by rw [r.length]; exact hl, h O m σ H _ R r R' k'⟩
theorem XS.next (c : E.nx g m) : XS z tNext g m E := fun O σ H R D k => k.nx _ _ _ _ _ c R (Lz.refl _ _)
theorem XS.seq (h : XS z ts g m { E with nx := fun g1 m1 => XS z us g1 m1 E }) : XS z (tSeq ts us) g m E := fun O σ H R D k =>
  h O σ H R _ ⟨fun O' g' m' σ' H' c R' l => c O' σ' H' R' D (k.mono l), k.rt, k.rn, k.bk, k.ct⟩
theorem XS.brk (c : E.bk g m) : XS z tBreak g m E := fun O σ H R D k => k.bk _ _ _ _ _ c R (Lz.refl _ _)
theorem XS.cnt (c : E.ct g m) : XS z tCont g m E := fun O σ H R D k => k.ct _ _ _ _ _ c R (Lz.refl _ _)
theorem XS.drop (h : XE z t g m fun m1 _ => E.nx g m1) : XS z (tDrop t) g m E := fun O σ H R D k => h O σ H R _ fun m1 d v H1 c R1 l1 _ => k.nx _ _ _ _ _ c R1 (l1.z R.po)
theorem XS.ret (h : XE z t g m E.rt) : XS z (tRet t) g m E := fun O σ H R D k => h O σ H R _ fun m1 d v H1 c R1 l1 q1 => k.rt _ _ _ _ _ _ _ c R1 q1
theorem XS.retF (h : XN z t g m E.rn) : XS z (tRet t) g m E := fun O σ H R D k => h O σ H R _ fun m1 ds p H1 c R1 l1 f => k.rn _ _ _ _ _ _ _ c R1 f.no f.nb f.at_
theorem XS.retN (c : E.rt m .non) : XS z tRetN g m E := fun O σ H R D k => k.rt _ _ _ _ _ _ _ c R .non
theorem XS.ite (h : XT z tt g m fun m1 b => if b = true then XS z ts g m1 E else XS z us g m1 E) : XS z (tIfS tt ts us) g m E := fun O σ H R D k => h O σ H R _ fun m1 b H1 c R1 l1 => by
  have k1 := k.mono (l1.z R.po)
  cases b with
  | true => exact c O σ H1 R1 D k1
  | false => exact c O σ H1 R1 D k1
theorem XS.set {i : Nat} (h : XE z t g m fun m1 d => E.nx (g.set i (.dt d)) m1) : XS z (tAsg t (gName i)) g m E := fun O σ H R D k => h O σ H R _ fun m1 d v H1 c R1 l1 q1 => k.nx _ _ _ _ _ c (R1.set i q1) (l1.z R.po)
theorem XS.setO {i : Nat} (h : XN z t g m fun m1 ds => E.nx (g.set i (.ow ds)) m1) : XS z (tAsg t (gName i)) g m E := fun O σ H R D k => h O σ H R _ fun m1 ds p H1 c R1 l1 f => by
  refine k.nx _ _ _ _ _ c (R1.own f i) ⟨?_, fun q hq => ?_⟩
  · rw [← hid_hid1]; exact l1.hid R.po
  · rcases List.mem_cons.mp hq with e | h
    · subst e; exact .inr f.ne
    · exact .inl h
theorem XS.asg {gt : TG} (h : XE z t g m fun m1 d => XG z (List.range 64) gt d g fun g1 => E.nx g1 m1) : XS z (tAsg t gt) g m E := fun O σ H R D k => h O σ H R _ fun m1 d v H1 c R1 l1 q1 =>
  c O m1 σ H1 v R1 q1 _ fun g' σ' c' R' _ => k.nx _ _ _ _ _ c' R' (l1.z R.po)
theorem XS.par {i j : Nat} (h : XA z tr g m fun m1 ds => ∃ d e, ds = [d, e] ∧ E.nx ((g.set i (.dt d)).set j (.dt e)) m1) : XS z (tPar i j tr) g m E := fun O σ H R D k => h O σ H R _ fun m1 ds vs H1 ⟨d, e, eq, c⟩ R1 l1 q1 => by
  subst eq
  cases q1 with
  | cons r t => cases t with
    | cons r' t => cases t; exact ⟨_, _, rfl, k.nx _ _ _ _ _ c ((R1.set i r).set j r') (l1.z R.po)⟩
theorem XS.par3 {i j l : Nat} (h : XA z tr g m fun m1 ds => ∃ d e f, ds = [d, e, f] ∧ E.nx (((g.set i (.dt d)).set j (.dt e)).set l (.dt f)) m1) : XS z (tPar3 i j l tr) g m E := fun O σ H R D k => h O σ H R _ fun m1 ds vs H1 ⟨d, e, f, eq, c⟩ R1 l1 q1 => by
  subst eq
  cases q1 with
  | cons r t => cases t with
    | cons r' t => cases t with
      | cons r'' t => cases t; exact ⟨_, _, _, rfl, k.nx _ _ _ _ _ c (((R1.set i r).set j r').set l r'') (l1.z R.po)⟩
theorem XS.augI {i : Nat} {f : Int → Int → Int} {a : Int} (hg : g[i]? = some (.dt (.int a))) (h : XE z t g m fun m1 d => dInt d fun b => E.nx (g.set i (.dt (.int (f a b)))) m1) : XS z (tAug i t (ipI f)) g m E := fun O σ H R D k => by
  obtain ⟨v, e, q⟩ := R.sl i _ hg
  cases q
  exact ⟨_, e, h O σ H R _ fun m1 d v H1 ⟨b, e, c⟩ R1 l1 q1 => by subst e; cases q1; exact ⟨_, _, rfl, rfl, k.nx _ _ _ _ _ c (R1.set i (.int _)) (l1.z R.po)⟩⟩
theorem XS.augR {i : Nat} {cd : Int → Int → Prop} {f : Int → Int → V} {a : Int} (hg : g[i]? = some (.dt (.int a))) (h : XE z t g m fun m1 d => dInt d fun b => cd a b ∧ E.nx (g.set i (.dt (vd (f a b)))) m1) (hs : ∀ i j, simV (f i j) = true := by intros; rfl) : XS z (tAug i t (rI cd f)) g m E := fun O σ H R D k => by
  obtain ⟨v, e, q⟩ := R.sl i _ hg
  cases q
  exact ⟨_, e, h O σ H R _ fun m1 d v H1 ⟨b, e, hc, c⟩ R1 l1 q1 => by subst e; cases q1; exact ⟨_, _, rfl, rfl, hc, k.nx _ _ _ _ _ c (R1.set i (rp_vd (hs _ _))) (l1.z R.po)⟩⟩
/-! own lists -/
theorem Real.putz {O : List Addr} {σ : L2.St} {H H' : Hp} {p : Addr} {ws : List V} (po : p ∈ O) (l : Lz O H O H') : Lz O H O (upd H' p (.lst ws)) := ⟨by rw [hid_upd po]; exact l.le, l.new⟩
theorem XS.app {K : PySem.W.Frag} {T : String} {i : Nat} {ds : List Dat} (hT : T = "list") (hg : g[i]? = some (.ow ds)) (h : XA z tr g m fun m1 es => dApp ds.length es fun d => E.nx (g.set i (.ow (ds ++ [d]))) m1) : XS z (tDrop (tBM K T rAppend (tVar i) tr)) g m E := fun O σ H R D k => by
  obtain ⟨p, vs, e, po, pG, hp, q⟩ := R.sl i _ hg
  refine ⟨_, e, .inl ⟨hT, _, SqL.of hp⟩, h O σ H R _ fun m1 es us H1 ⟨d, e1, hl, c⟩ R1 l1 q1 => ?_⟩
  subst e1
  cases q1 with
  | cons r t =>
    cases t
    have hp1 := l1.lst (fun n => pG (R.pg p n)) hp
    have q' := q.mono (l1.hid R.po)
    exact ⟨p, vs, _, rfl, rfl, hp1, small1000 (by rw [q.length]; exact hl), k.nx _ _ _ _ _ c (R1.put hg e (q'.append (.cons r .nil))) (Real.putz (σ := σ) po (l1.z R.po))⟩
theorem XS.setI {i : Nat} {ds : List Dat} (hg : g[i]? = some (.ow ds)) (h : XE z t g m fun m1 d => XE z tb g m1 fun m2 e => dPut ds.length e fun j => E.nx (g.set i (.ow (ds.set j d))) m2) : XS z (tAsg t (gSub (tVar i) tb rSetL)) g m E := fun O σ H R D k =>
  h O σ H R _ fun m1 d v H1 c1 R1 l1 q1 => by
    obtain ⟨p, vs, e, po, pG, hp, q⟩ := R1.sl i _ hg
    refine ⟨_, e, c1 O σ H1 R1 _ fun m2 d2 y H2 ⟨n, j, e2, hj, c⟩ R2 l2 q2 => ?_⟩
    subst e2; cases q2
    have hp1 := l2.lst (fun n => pG (R1.pg p n)) hp
    have q' := q.mono (l2.hid R1.po)
    exact ⟨p, vs, n, j, rfl, rfl, hp1, by rw [q.length]; exact hj, k.nx _ _ _ _ _ c (R2.put hg e (q'.set (q1.mono (l2.hid R1.po)) j)) (Real.putz (σ := σ) po ((l1.trans l2).z R.po))⟩
theorem XS.ext {i : Nat} {ds : List Dat} (hg : g[i]? = some (.ow ds)) (h : XE z t g m fun m1 d => dExt ds.length d fun es => E.nx (g.set i (.ow (ds ++ es))) m1) : XS z (tAug i t rExt2) g m E := fun O σ H R D k => by
  obtain ⟨p, vs, e, po, pG, hp, q⟩ := R.sl i _ hg
  refine ⟨_, e, h O σ H R _ fun m1 d v H1 hD R1 l1 q1 => ?_⟩
  unfold dExt at hD
  obtain ⟨es, e1, hl, c⟩ := hD
  subst e1
  cases q1 with
  | lst hb r =>
    have hp1 := l1.lst (fun n => pG (R.pg p n)) hp
    have q' := q.mono (l1.hid R.po)
    refine ⟨p, _, vs, _, rfl, rfl, hp1, (hid_some hb).2, by rw [q.length, r.length]; exact Nat.le_of_lt (small1000 hl), ?_⟩
    have R2 := R1.put hg e (q'.append r)
    have eσ : σ.set i (some (.ref p)) = σ := by
      refine List.ext_getElem? fun n => ?_
      by_cases en : i = n
      · subst en
        rw [List.getElem?_set_self (by rw [R.len]; exact (List.getElem?_eq_some_iff.mp hg).1), e]
      · rw [List.getElem?_set_ne en]
    show D.nx (σ.set i (some (.ref p))) _
    rw [eσ]
    exact k.nx _ _ _ _ _ c R2 (Real.putz (σ := σ) po (l1.z R.po))
theorem XS.frz {i : Nat} {ds : List Dat} (hg : g[i]? = some (.ow ds)) (h : XS z ts (g.set i (.dt (.lst ds))) m E) : XS z ts g m E := fun O σ H R D k => by
  obtain ⟨p, vs, e, po, pG, hp, q⟩ := R.sl i _ hg
  have l : i < g.length := (List.getElem?_eq_some_iff.mp hg).1
  have sub : ∀ q ∈ O.filter (fun b => decide (b ≠ p)), q ∈ O := fun q h => (List.mem_filter.mp h).1
  obtain ⟨O', R', sb⟩ : ∃ O', Real z O' (g.set i (.dt (.lst ds))) m σ H ∧ ∀ q ∈ O', q ∈ O := by
    obtain ⟨O', R'⟩ := R.frzO hg
    exact ⟨O', R'⟩
  exact h O' σ H R' D (k.mono ⟨hid_sub sb, fun q h => .inl (sb q h)⟩)
/-- return of an own list: a new one -/
theorem XS.retO {i : Nat} {ds : List Dat} (hg : g[i]? = some (.ow ds)) (c : E.rn m ds) : XS z (tRet (tVar i)) g m E := fun O σ H R D k => by
  obtain ⟨p, vs, e, po, pG, hp, q⟩ := R.sl i _ hg
  refine ⟨_, e, ?_⟩
  have l : i < g.length := (List.getElem?_eq_some_iff.mp hg).1
  obtain ⟨O', R', np, hO, eh⟩ := R.cut hg e
  refine k.rn O' (g.set i .un) m σ ds p H c R' np ?_ ⟨vs, hp, by rw [eh]; exact q⟩
  rcases R.new p po with n | n
  · exact absurd n pG
  · exact n
end
end My

namespace My
open PySem PySem.Spec PyProof.Rows L2
open C8 (Cal pe_c pe_gc)
/-! ### walks, loops, comprehensions -/
/-- a walk over data, from H1 on -/
def WalkOk (O : List Addr) (J : It) (ds : List Dat) (H1 : Hp) : Prop := ∀ (O' : List Addr) (i : Nat) (H' : Hp), Lz O H1 O' H' → (∀ p ∈ O', ∃ o, H' p = some o) →
  (∀ d, ds[i]? = some d → J.go i H' ∧ ∀ x H'', J.yld i H' x H'' → Le H' H'' ∧ Rp (hid O' H'') x d) ∧ (ds.length ≤ i → J.stop i H')
def XI (z : Cz) (wi : TI) (g : List Sl) (m : Nat) (C : Nat → List Dat → Prop) : Prop := ∀ (O : List Addr) (σ : L2.St) (H : Hp), Real z O g m σ H → ∀ R : It → Hp → Prop,
  (∀ m' ds J H1, C m' ds → Real z O g m' σ H1 → LeX z.P H H1 → WalkOk O J ds H1 → R J H1) → wi σ H R
def dRg1 (es : List Dat) (C : Int → Prop) : Prop := ∃ j : Int, es = [.int j] ∧ -(2 ^ 62) ≤ j ∧ j < 2 ^ 62 ∧ C j
def dRg2 (es : List Dat) (C : Int → Int → Prop) : Prop := ∃ i j : Int, es = [.int i, .int j] ∧ (-(2 ^ 62) ≤ i ∧ i < 2 ^ 62 ∧ -(2 ^ 62) ≤ j ∧ j < 2 ^ 62) ∧ C i j
def dRg3 (es : List Dat) (C : Int → Int → Nat → Prop) : Prop := ∃ (i j c : Int) (n : Nat), es = [.int i, .int j, .int c] ∧ RgC i j c n ∧ C i c n
def dEnum (es : List Dat) (C : List Dat → Prop) : Prop := ∃ ds, es = [.lst ds] ∧ C ds
def dZip (fs : List Dat) (C : List Dat → List Dat → Prop) : Prop := ∃ ds es, fs = [.lst ds, .lst es] ∧ C ds es
def dZipS (fs : List Dat) (C : List Dat → List Dat → Prop) : Prop := ∃ ds es, fs = [.lst ds, .lst es] ∧ ds.length = es.length ∧ C ds es
section
variable {z : Cz} {g : List Sl} {m : Nat} {C : Nat → Dat → Prop} {CL : Nat → List Dat → Prop} {CT : Nat → Bool → Prop} {t ta tb tc te : TE} {tr : TA} {tt tu : TT} {ts us : TS} {E : DE} {wi : TI} {gt : TG} {K : PySem.W.Frag}
theorem RpL.none {H : Hp} {vs : List V} {ds : List Dat} (r : RpL H vs ds) {i : Nat} (h : ds.length ≤ i) : vs.length ≤ i := by rw [r.length]; exact h
theorem XI.list (h : XE z ta g m fun m1 d => dLst d (CL m1)) : XI z (iList K ta) g m CL := fun O σ H R Q k => h O σ H R _ fun m1 d v H1 ⟨ds, e, c⟩ R1 l1 q1 => by
  subst e
  cases q1 with
  | lst ha r =>
    obtain ⟨na, ha'⟩ := hid_some ha
    refine ⟨_, rfl, ⟨_, SqL.of ha'⟩, k m1 ds _ H1 c R1 l1 fun O' i H' lz hd => ?_⟩
    have ha2 := (hid_some (lz.le.lst ha)).2
    refine ⟨fun d hi => ?_, fun hi => ⟨_, SqL.of ha2, r.none hi⟩⟩
    obtain ⟨v, hv, rv⟩ := r.get hi
    refine ⟨⟨_, v, SqL.of ha2, hv⟩, fun x H'' ⟨e1, e2⟩ => ?_⟩
    subst e1
    have := e2 _ (SqL.of ha2)
    rw [hv] at this; cases this
    exact ⟨Le.refl _, rv.mono lz.le⟩
theorem XI.tup (h : XE z ta g m fun m1 d => dTup d (CL m1)) : XI z (iTup K ta) g m CL := fun O σ H R Q k => h O σ H R _ fun m1 d v H1 ⟨ds, e, c⟩ R1 l1 q1 => by
  subst e
  cases q1 with
  | tup ha r =>
    obtain ⟨na, ha'⟩ := hid_some ha
    refine ⟨_, rfl, ⟨_, SqT.of ha'⟩, k m1 ds _ H1 c R1 l1 fun O' i H' lz hd => ?_⟩
    have ha2 := (hid_some (lz.le.tup ha)).2
    refine ⟨fun d hi => ?_, fun hi => ⟨_, SqT.of ha2, r.none hi⟩⟩
    obtain ⟨v, hv, rv⟩ := r.get hi
    refine ⟨⟨_, v, SqT.of ha2, hv⟩, fun x H'' ⟨e1, e2⟩ => ?_⟩
    subst e1
    have := e2 _ (SqT.of ha2)
    rw [hv] at this; cases this
    exact ⟨Le.refl _, rv.mono lz.le⟩
def rngD (lo : Int) (n : Nat) : List Dat := (List.range n).map fun i => .int (lo + (i : Nat))
theorem rng_ok {O : List Addr} {lo : Int} {n : Nat} {H1 : Hp} : WalkOk O (Itr lo n) (rngD lo n) H1 := fun O' i H' lz hd => by
  have hl : (rngD lo n).length = n := by simp [rngD]
  refine ⟨fun d hi => ?_, fun hi => by rw [hl] at hi; exact hi⟩
  have hlt : i < n := by rw [← hl]; exact (List.getElem?_eq_some_iff.mp hi).1
  have e : (rngD lo n)[i]? = some (.int (lo + (i : Nat))) := by simp [rngD, hlt]
  rw [e] at hi; cases hi
  refine ⟨hlt, fun x H'' ⟨e1, e2⟩ => ?_⟩
  subst e1 e2
  exact ⟨Le.refl _, .int _⟩
theorem XI.rng1 (h : XA z tr g m fun m1 es => dRg1 es fun j => CL m1 (rngD 0 j.toNat)) : XI z (iRng1 tr) g m CL := fun O σ H R Q k => h O σ H R _ fun m1 es vs H1 ⟨j, e, h1, h2, c⟩ R1 l1 q1 => by
  subst e
  cases q1 with
  | cons r t => cases r; cases t; exact ⟨j, rfl, h1, h2, k m1 _ _ H1 c R1 l1 rng_ok⟩
theorem XI.rng2 (h : XA z tr g m fun m1 es => dRg2 es fun i j => CL m1 (rngD i (j - i).toNat)) : XI z (iRng2 tr) g m CL := fun O σ H R Q k => h O σ H R _ fun m1 es vs H1 ⟨i, j, e, h1, c⟩ R1 l1 q1 => by
  subst e
  cases q1 with
  | cons r t => cases r; cases t with
    | cons r t => cases r; cases t; exact ⟨i, j, rfl, h1, k m1 _ _ H1 c R1 l1 rng_ok⟩
def rngC (lo c : Int) (n : Nat) : List Dat := (List.range n).map fun i => .int (lo + (i : Nat) * c)
theorem rngC_ok {O : List Addr} {lo c : Int} {n : Nat} {H1 : Hp} : WalkOk O (Itc lo c n) (rngC lo c n) H1 := fun O' i H' lz hd => by
  have hl : (rngC lo c n).length = n := by simp [rngC]
  refine ⟨fun d hi => ?_, fun hi => by rw [hl] at hi; exact hi⟩
  have hlt : i < n := by rw [← hl]; exact (List.getElem?_eq_some_iff.mp hi).1
  have e : (rngC lo c n)[i]? = some (.int (lo + (i : Nat) * c)) := by simp [rngC, hlt]
  rw [e] at hi; cases hi
  refine ⟨hlt, fun x H'' ⟨e1, e2⟩ => ?_⟩
  subst e1 e2
  exact ⟨Le.refl _, .int _⟩
theorem XI.rng3 (h : XA z tr g m fun m1 es => dRg3 es fun i c n => CL m1 (rngC i c n)) : XI z (iRng3 tr) g m CL := fun O σ H R Q k => h O σ H R _ fun m1 es vs H1 ⟨i, j, c', n, e, h1, c⟩ R1 l1 q1 => by
  subst e
  cases q1 with
  | cons r t => cases r; cases t with
    | cons r t => cases r; cases t with
      | cons r t => cases r; cases t; exact ⟨i, j, c', n, rfl, h1, k m1 _ _ H1 c R1 l1 rngC_ok⟩
def enumD (ds : List Dat) : List Dat := (List.range ds.length).zipWith (fun i d => .tup [.int (i : Nat), d]) ds
theorem enumD_at {ds : List Dat} {i : Nat} : (enumD ds)[i]? = (ds[i]?).map fun d => .tup [.int (i : Nat), d] := by
  unfold enumD
  rw [List.getElem?_zipWith]
  by_cases h : i < ds.length
  · rw [List.getElem?_range h, List.getElem?_eq_getElem h]; rfl
  · rw [List.getElem?_eq_none (by rw [List.length_range]; omega), List.getElem?_eq_none (by omega)]; rfl
theorem enumD_len {ds : List Dat} : (enumD ds).length = ds.length := by simp [enumD]
theorem rp_tup_new {O' : List Addr} {H' : Hp} {T : Addr} {vs : List V} {ds : List Dat} (hd : ∀ p ∈ O', ∃ o, H' p = some o) (n : H' T = none) (r : RpL (hid O' H') vs ds) : Le H' (upd H' T (.tup vs)) ∧ Rp (hid O' (upd H' T (.tup vs))) (.ref T) (.tup ds) := by
  have l : Le H' (upd H' T (.tup vs)) := .new n
  have nT : T ∉ O' := fun q => by obtain ⟨o, ho⟩ := hd T q; rw [n] at ho; cases ho
  exact ⟨l, .tup (by rw [hid_out nT]; exact upd_same) (r.mono l.hid)⟩
theorem XI.enum (h : XA z tr g m fun m1 es => dEnum es fun ds => CL m1 (enumD ds)) : XI z (iEnum K tr) g m CL := fun O σ H R Q k => h O σ H R _ fun m1 es vs H1 ⟨ds, e, c⟩ R1 l1 q1 => by
  subst e
  cases q1 with
  | cons r t =>
    cases t
    cases r with
    | lst ha r =>
      refine ⟨_, _, rfl, SqL.of (hid_some ha).2, k m1 _ _ H1 c R1 l1 fun O' i H' lz hd => ?_⟩
      have ha2 := (hid_some (lz.le.lst ha)).2
      rw [enumD_len]
      refine ⟨fun d hi => ?_, fun hi => ⟨_, SqL.of ha2, r.none hi⟩⟩
      rw [enumD_at] at hi
      cases e : ds[i]? with
      | none => rw [e] at hi; cases hi
      | some d' =>
        rw [e] at hi; cases hi
        obtain ⟨v, hv, rv⟩ := r.get e
        refine ⟨⟨_, v, SqL.of ha2, hv⟩, fun x H'' ⟨T, y, e1, n, e2, hy⟩ => ?_⟩
        subst e1 e2
        have := hy _ (SqL.of ha2)
        rw [hv] at this; cases this
        exact rp_tup_new hd n (.cons (.int _) (.cons (rv.mono lz.le) .nil))
def zipD (ds es : List Dat) : List Dat := ds.zipWith (fun d e => .tup [d, e]) es
theorem zipD_at {ds es : List Dat} {i : Nat} {d : Dat} (h : (zipD ds es)[i]? = some d) : ∃ x y, ds[i]? = some x ∧ es[i]? = some y ∧ d = .tup [x, y] := by
  unfold zipD at h
  rw [List.getElem?_zipWith] at h
  cases e1 : ds[i]? with
  | none => rw [e1] at h; cases h
  | some x =>
    cases e2 : es[i]? with
    | none => rw [e1, e2] at h; cases h
    | some y => rw [e1, e2] at h; cases h; exact ⟨x, y, rfl, rfl, rfl⟩
theorem XI.zip (h : XA z tr g m fun m1 fs => dZip fs fun ds es => CL m1 (zipD ds es)) : XI z (iZip K tr) g m CL := fun O σ H R Q k => h O σ H R _ fun m1 fs vs H1 ⟨ds, es, e, c⟩ R1 l1 q1 => by
  subst e
  cases q1 with
  | cons r t =>
    cases t with
    | cons r' t =>
      cases t
      cases r with
      | lst ha r =>
        cases r' with
        | lst hb r' =>
          refine ⟨_, _, _, _, rfl, SqL.of (hid_some ha).2, SqL.of (hid_some hb).2, k m1 _ _ H1 c R1 l1 fun O' i H' lz hd => ?_⟩
          have ha2 := (hid_some (lz.le.lst ha)).2
          have hb2 := (hid_some (lz.le.lst hb)).2
          refine ⟨fun d hi => ?_, fun hi => ⟨_, _, SqL.of ha2, SqL.of hb2, ?_⟩⟩
          · obtain ⟨x, y, hx, hy, rfl⟩ := zipD_at hi
            obtain ⟨v, hv, rv⟩ := r.get hx
            obtain ⟨u, hu, ru⟩ := r'.get hy
            refine ⟨⟨_, _, v, u, SqL.of ha2, SqL.of hb2, hv, hu⟩, fun x H'' ⟨T, y1, y2, e1, n, e2, h1, h2⟩ => ?_⟩
            subst e1 e2
            have e1 := h1 _ (SqL.of ha2)
            rw [hv] at e1; cases e1
            have e2 := h2 _ (SqL.of hb2)
            rw [hu] at e2; cases e2
            exact rp_tup_new hd n (.cons (rv.mono lz.le) (.cons (ru.mono lz.le) .nil))
          · rw [r.length, r'.length]
            simp only [zipD, List.length_zipWith] at hi
            omega
theorem XI.zipS (h : XA z tr g m fun m1 fs => dZipS fs fun ds es => CL m1 (zipD ds es)) : XI z (iZipS K tr) g m CL := fun O σ H R Q k => h O σ H R _ fun m1 fs vs H1 ⟨ds, es, e, hl, c⟩ R1 l1 q1 => by
  subst e
  cases q1 with
  | cons r t =>
    cases t with
    | cons r' t =>
      cases t
      cases r with
      | lst ha r =>
        cases r' with
        | lst hb r' =>
          refine ⟨_, _, _, _, rfl, SqL.of (hid_some ha).2, SqL.of (hid_some hb).2, k m1 _ _ H1 c R1 l1 fun O' i H' lz hd => ?_⟩
          have ha2 := (hid_some (lz.le.lst ha)).2
          have hb2 := (hid_some (lz.le.lst hb)).2
          refine ⟨fun d hi => ?_, fun hi => ⟨_, _, SqL.of ha2, SqL.of hb2, ?_⟩⟩
          · obtain ⟨x, y, hx, hy, rfl⟩ := zipD_at hi
            obtain ⟨v, hv, rv⟩ := r.get hx
            obtain ⟨u, hu, ru⟩ := r'.get hy
            refine ⟨⟨_, _, v, u, SqL.of ha2, SqL.of hb2, hv, hu⟩, fun x H'' ⟨T, y1, y2, e1, n, e2, h1, h2⟩ => ?_⟩
            subst e1 e2
            have e1 := h1 _ (SqL.of ha2)
            rw [hv] at e1; cases e1
            have e2 := h2 _ (SqL.of hb2)
            rw [hu] at e2; cases e2
            exact rp_tup_new hd n (.cons (rv.mono lz.le) (.cons (ru.mono lz.le) .nil))
          · rw [r.length, r'.length]
            simp only [zipD, List.length_zipWith] at hi
            omega
theorem XI.str (h : XE z ta g m fun m1 d => dStr d fun x => CL m1 (x.cps.toList.map fun c => .str ⟨#[c]⟩)) : XI z (iStr ta) g m CL := fun O σ H R Q k => h O σ H R _ fun m1 d v H1 ⟨x, e, c⟩ R1 l1 q1 => by
  subst e; cases q1
  refine ⟨_, rfl, k m1 _ _ H1 c R1 l1 fun O' i H' lz hd => ?_⟩
  refine ⟨fun d hi => ?_, fun hi => ?_⟩
  · rw [List.getElem?_map] at hi
    cases e : x.cps.toList[i]? with
    | none => rw [e] at hi; cases hi
    | some c =>
      rw [e] at hi; cases hi
      have hlt : i < x.cps.size := by
        have := (List.getElem?_eq_some_iff.mp e).1
        simpa using this
      refine ⟨hlt, fun y H'' ⟨e1, c', hc, e2⟩ => ?_⟩
      subst e1 e2
      have : c' = c := by
        have e3 : x.cps[i]? = some c := by rw [← Array.getElem?_toList]; exact e
        rw [hc] at e3; exact Option.some.inj e3
      subst this
      exact ⟨Le.refl _, .str _⟩
  · show x.cps.size ≤ i
    simpa using hi
/-- for -/
theorem XS.for (h : XI z wi g m fun m1 ds => ∃ I : Nat → List Sl → Nat → Prop, I 0 g m1 ∧ (∀ i d g2 m2, ds[i]? = some d → I i g2 m2 → XG z (List.range 64) gt d g2 fun g3 => XS z ts g3 m2 { E with nx := I (i + 1), ct := I (i + 1), bk := E.nx }) ∧ ∀ g2 m2, I ds.length g2 m2 → E.nx g2 m2) : XS z (tFor wi gt ts) g m E := fun O σ H R D k =>
  h O σ H R _ fun m1 ds J H1 ⟨I, h0, hs, hd⟩ R1 l1 w => by
    have k1 := k.mono (l1.z R.po)
    refine ⟨fun i n σ' H' => n = ds.length - i ∧ i ≤ ds.length ∧ ∃ O' g' m', I i g' m' ∧ Real z O' g' m' σ' H' ∧ Lz O H1 O' H', ⟨_, rfl, Nat.zero_le _, O, g, m1, h0, R1, Lz.refl _ _⟩, ?_⟩
    rintro i n σ' H' ⟨rfl, hi, O', g', m', hI, R', lz⟩
    obtain ⟨w1, w2⟩ := w O' i H' lz R'.dom
    by_cases hlt : i < ds.length
    · obtain ⟨go, yl⟩ := w1 _ (List.getElem?_eq_getElem hlt)
      refine .inr ⟨go, fun σ2 H2 => ∃ O2 g2 m2, I (i + 1) g2 m2 ∧ Real z O2 g2 m2 σ2 H2 ∧ Lz O H1 O2 H2, fun σ2 H2 q => ⟨_, by omega, rfl, hlt, q⟩, fun x H'' y => ?_⟩
      obtain ⟨l2, rx⟩ := yl x H'' y
      have lz2 : Lz O' H' O' H'' := (l2.x (P := [])).z (by simp)
      refine hs i _ g' m' (List.getElem?_eq_getElem hlt) hI O' m' σ' H'' x (R'.up l2) rx _ fun g3 σ3 c3 R3 _ => ?_
      refine c3 O' σ3 H'' R3 _ ⟨fun O4 g4 m4 σ4 H4 c4 R4 l4 => ⟨O4, g4, m4, c4, R4, (lz.trans lz2).trans l4⟩, k.rt, k.rn, fun O4 g4 m4 σ4 H4 c4 R4 l4 => k1.nx _ _ _ _ _ c4 R4 ((lz.trans lz2).trans l4), fun O4 g4 m4 σ4 H4 c4 R4 l4 => ⟨O4, g4, m4, c4, R4, (lz.trans lz2).trans l4⟩⟩
    · have e : i = ds.length := by omega
      subst e
      exact .inl ⟨w2 (Nat.le_refl _), k1.nx _ _ _ _ _ (hd _ _ hI) R' lz⟩
/-- while -/
theorem XS.whi (I : List Sl → Nat → Prop) (μ : List Sl → Nat) (h0 : I g m) (hs : ∀ g2 m2, I g2 m2 → XT z tt g2 m2 fun m3 b => if b = true then XS z ts g2 m3 { E with nx := fun g4 m4 => I g4 m4 ∧ μ g4 < μ g2, ct := fun g4 m4 => I g4 m4 ∧ μ g4 < μ g2, bk := E.nx } else E.nx g2 m3) : XS z (tWhile tt ts) g m E := fun O σ H R D k => by
  refine ⟨fun n σ' H' => ∃ O' g' m', n = μ g' ∧ I g' m' ∧ Real z O' g' m' σ' H' ∧ Lz O H O' H', ⟨_, O, g, m, rfl, h0, R, Lz.refl _ _⟩, ?_⟩
  rintro n σ' H' ⟨O', g', m', rfl, hI, R', lz⟩
  refine hs g' m' hI O' σ' H' R' _ fun m2 b H2 c R2 l2 => ?_
  have lz2 := lz.trans (l2.z R'.po)
  cases b with
  | true =>
    refine ⟨fun σ3 H3 => ∃ O3 g3 m3, (I g3 m3 ∧ μ g3 < μ g') ∧ Real z O3 g3 m3 σ3 H3 ∧ Lz O H O3 H3, fun σ3 H3 ⟨O3, g3, m3, ⟨q1, q2⟩, q3, q4⟩ => ⟨_, q2, O3, g3, m3, rfl, q1, q3, q4⟩, ?_⟩
    exact c O' σ' H2 R2 _ ⟨fun O4 g4 m4 σ4 H4 c4 R4 l4 => ⟨O4, g4, m4, c4, R4, lz2.trans l4⟩, k.rt, k.rn, fun O4 g4 m4 σ4 H4 c4 R4 l4 => k.nx _ _ _ _ _ c4 R4 (lz2.trans l4), fun O4 g4 m4 σ4 H4 c4 R4 l4 => ⟨O4, g4, m4, c4, R4, lz2.trans l4⟩⟩
  | false => exact k.nx _ _ _ _ _ c R2 lz2
/-! comprehensions -/
def wipeG (g : List Sl) : List Nat → List Sl
  | [] => g
  | v :: vs => (wipeG g vs).set v .un
theorem Real.wipe {O : List Addr} {σ : L2.St} {H : Hp} (R : Real z O g m σ H) : ∀ vs : List Nat, Real z O (wipeG g vs) m (L2.wipe σ vs) H
  | [] => R
  | v :: vs => (Real.wipe R vs).un v none
theorem wipe_wipe (σ : L2.St) (vs : List Nat) : wipe (wipe σ vs) vs = wipe σ vs := by
  have key : ∀ {ws : List Nat} {τ : L2.St}, (∀ i ∈ ws, ∀ x, τ[i]? = some x → x = none) → wipe τ ws = τ := fun {ws} => by
    induction ws with
    | nil => intro τ _; rfl
    | cons w ws ih =>
      intro τ h
      show (wipe τ ws).set w none = τ
      rw [ih fun i hi => h i (List.mem_cons_of_mem _ hi)]
      refine List.ext_getElem? fun n => ?_
      by_cases e : w = n
      · subst e
        by_cases l : w < τ.length
        · rw [List.getElem?_set_self l, List.getElem?_eq_getElem l]
          rw [h w (List.mem_cons_self ..) τ[w] (List.getElem?_eq_getElem l)]
        · rw [List.getElem?_eq_none (by rw [List.length_set]; omega), List.getElem?_eq_none (by omega)]
      · rw [List.getElem?_set_ne e]
  refine key fun i hi x hx => ?_
  cases x with
  | none => rfl
  | some y => exact absurd hi (wipe_some hx).2
/-- a comprehension changes nothing but its own new list -/
def WalkC (P O : List Addr) (J : It) (ds : List Dat) (H1 : Hp) : Prop := ∀ (D : Addr) (i : Nat) (H' : Hp), H1 D = none → D ∉ O → LeX P H1 (hid [D] H') → (∀ p ∈ D :: O, ∃ o, H' p = some o) →
  (∀ d, ds[i]? = some d → J.go i H' ∧ ∀ x H'', J.yld i H' x H'' → Le H' H'' ∧ Rp (hid (D :: O) H'') x d) ∧ (ds.length ≤ i → J.stop i H')
def XIc (z : Cz) (wi : TI) (g : List Sl) (m : Nat) (C : Nat → List Dat → Prop) : Prop := ∀ (O : List Addr) (σ : L2.St) (H : Hp), Real z O g m σ H → ∀ R : It → Hp → Prop,
  (∀ m' ds J H1, C m' ds → Real z O g m' σ H1 → LeX z.P H H1 → WalkC z.P O J ds H1 → R J H1) → wi σ H R
theorem XI.c (h : XI z wi g m CL) : XIc z wi g m CL := fun O σ H R Q k => h O σ H R Q fun m' ds J H1 c R1 l1 w => k m' ds J H1 c R1 l1 fun D i H' hD nO le' dom' => w (D :: O) i H' ⟨by
  have := le'.hid R1.po
  rw [hid_hid1] at this
  exact this, fun p hp => by
  rcases List.mem_cons.mp hp with e | hp
  · subst e; exact .inr hD
  · exact .inl hp⟩ dom'
theorem XN.lcC {vs : List Nat} (h : XIc z wi g m fun m1 ds => ∃ I : Nat → List Dat → Nat → Prop, I 0 [] m1 ∧ (∀ i d acc m2, ds[i]? = some d → I i acc m2 → XG z vs gt d (wipeG g vs) fun g3 => XT z tt g3 m2 fun m3 b => if b = true then XE z te g3 m3 fun m4 y => acc.length ≤ 1000 ∧ I (i + 1) (acc ++ [y]) m4 else I (i + 1) acc m3) ∧ ∀ acc m2, I ds.length acc m2 → CL m2 acc) : XN z (tLc wi gt tt te vs) g m CL := fun O σ H R Q k =>
  h O σ H R _ fun m1 ds J H1 ⟨I, h0, hs, hd⟩ R1 l1 w => fun D hD => by
    have nO : D ∉ O := fun q => by obtain ⟨o, ho⟩ := R1.dom D q; rw [hD] at ho; cases ho
    have nP : D ∉ z.P := fun q => nO (R1.po D q)
    have nB : z.B D = none := by
      cases q : z.B D with
      | none => rfl
      | some o => obtain ⟨o', ho⟩ := (R1.le D o nP q).get; rw [hD] at ho; cases ho
    have nH : H D = none := by
      cases q : H D with
      | none => rfl
      | some o => obtain ⟨o', ho⟩ := (l1 D o nP q).get; rw [hD] at ho; cases ho
    -- the state: all but D, as it was and more
    refine ⟨fun i n H' => n = ds.length - i ∧ i ≤ ds.length ∧ ∃ acc ws m', I i acc m' ∧ H' D = some (.lst ws) ∧ RpL (hid O (hid [D] H')) ws acc ∧ Real z O g m' σ (hid [D] H') ∧ LeX z.P H1 (hid [D] H'), ⟨_, rfl, Nat.zero_le _, [], [], m1, h0, upd_same, .nil, ?_, ?_⟩, ?_⟩
    · have e : hid [D] (upd H1 D (.lst [])) = H1 := (Fresh.of R1 hD .nil).2
      rw [e]; exact R1
    · have e : hid [D] (upd H1 D (.lst [])) = H1 := (Fresh.of R1 hD .nil).2
      rw [e]; exact LeX.refl _ _
    rintro i n H' ⟨rfl, hi, acc, ws, m', hI, hD', ra, R', le'⟩
    have dom' : ∀ p ∈ D :: O, ∃ o, H' p = some o := fun p hp => by
      rcases List.mem_cons.mp hp with e | hp
      · subst e; exact ⟨_, hD'⟩
      · obtain ⟨o, ho⟩ := R'.dom p hp; exact ⟨o, (hid_some ho).2⟩
    -- the body's state, D hidden
    have RD : Real z (D :: O) (wipeG g vs) m' (wipe σ vs) H' := by
      have a : Real z (D :: O) g m' σ H' := by
        refine ⟨dom', fun p hp => List.mem_cons_of_mem _ (R'.sub p hp), fun p hp => ?_, R'.pg, fun b hb => ?_, R'.le.trans (hid1_le H' D).x, R'.len, fun j x hj => ?_, R'.inj⟩
        · rcases List.mem_cons.mp hp with e | hp
          · subst e; exact .inr nB
          · exact R'.new p hp
        · obtain ⟨d, c, k, h, q⟩ := R'.pur b hb
          exact ⟨d, c, k, (hid_some h).2, q⟩
        · have q := R'.sl j x hj
          cases x with
          | un => trivial
          | dt d => obtain ⟨v, e, q⟩ := q; exact ⟨v, e, by rw [← hid_hid1]; exact q⟩
          | ow es =>
            obtain ⟨p, us, e, po, pg, hp, q⟩ := q
            exact ⟨p, us, e, List.mem_cons_of_mem _ po, pg, (hid_some hp).2, by rw [← hid_hid1]; exact q⟩
          | pu => exact q
          | raw v => exact q
      exact a.wipe vs
    -- back: the def's state once the body has run
    have back : ∀ {m2 : Nat} {σ2 : L2.St} {g2 : List Sl} {H2 : Hp}, LeX z.P H' H2 → Real z (D :: O) g2 m2 σ2 H2 → Real z O g m2 σ (hid [D] H2) ∧ LeX z.P H1 (hid [D] H2) ∧ RpL (hid O (hid [D] H2)) ws acc := fun {m2 σ2 g2 H2} l2 R2 => by
      have l3 : LeX z.P (hid [D] H') (hid [D] H2) := fun b o n hb => by
        obtain ⟨nb, hb⟩ := hid_some hb
        rw [hid_out nb]
        exact l2 b o n hb
      refine ⟨R'.lift l3 (fun b hb => ?_), le'.trans l3, ra.mono (l3.hid R1.po)⟩
      obtain ⟨d, c, k, h, q⟩ := R2.pur b hb
      exact ⟨d, c, k, by rw [hid_out (by simp; intro y; subst y; exact nP hb)]; exact h, q⟩
    obtain ⟨w1, w2⟩ := w D i H' hD nO le' dom'
    by_cases hlt : i < ds.length
    · obtain ⟨go, yl⟩ := w1 _ (List.getElem?_eq_getElem hlt)
      refine .inr ⟨go, fun H2 => ∃ acc ws m', I (i + 1) acc m' ∧ H2 D = some (.lst ws) ∧ RpL (hid O (hid [D] H2)) ws acc ∧ Real z O g m' σ (hid [D] H2) ∧ LeX z.P H1 (hid [D] H2), fun H2 q => ⟨_, by omega, rfl, hlt, q⟩, fun x H'' y => ?_⟩
      obtain ⟨l2, rx⟩ := yl x H'' y
      have RD2 := RD.up l2
      refine hs i _ acc m' (List.getElem?_eq_getElem hlt) hI (D :: O) m' (wipe σ vs) H'' x RD2 rx _ fun g3 σ3 c3 R3 w3 => ⟨by rw [w3, wipe_wipe], ?_⟩
      refine c3 (D :: O) σ3 H'' R3 _ fun m3 b H3 c R4 l4 => ?_
      have hD3 : H3 D = some (.lst ws) := l4.lst nP (l2.lst hD')
      have lx3 : LeX z.P H' H3 := l2.x.trans l4
      cases b with
      | false =>
        obtain ⟨r1, r2, r3⟩ := back lx3 R4
        exact ⟨acc, ws, m3, c, hD3, r3, r1, r2⟩
      | true =>
        refine c (D :: O) σ3 H3 R4 _ fun m4 yd v H4 ⟨hl, c4⟩ R5 l5 q5 => ?_
        have hD4 := l5.lst nP hD3
        obtain ⟨r1, r2, r3⟩ := back (lx3.trans l5) R5
        have e : hid [D] (upd H4 D (.lst (ws ++ [v]))) = hid [D] H4 := hid_upd (by simp)
        refine ⟨ws, hD4, small1000 (by rw [r3.length]; exact hl), acc ++ [yd], ws ++ [v], m4, c4, upd_same, ?_, by rw [e]; exact r1, by rw [e]; exact r2⟩
        rw [e]
        exact r3.append (.cons (by rw [hid_hid1]; exact q5) .nil)
    · have e : i = ds.length := by omega
      subst e
      refine .inl ⟨w2 (Nat.le_refl _), k m' acc D H' (hd _ _ hI) R' (l1.trans le') ⟨nO, nB, nH, ws, hD', ra⟩⟩
theorem XN.lc {vs : List Nat} (h : XI z wi g m fun m1 ds => ∃ I : Nat → List Dat → Nat → Prop, I 0 [] m1 ∧ (∀ i d acc m2, ds[i]? = some d → I i acc m2 → XG z vs gt d (wipeG g vs) fun g3 => XT z tt g3 m2 fun m3 b => if b = true then XE z te g3 m3 fun m4 y => acc.length ≤ 1000 ∧ I (i + 1) (acc ++ [y]) m4 else I (i + 1) acc m3) ∧ ∀ acc m2, I ds.length acc m2 → CL m2 acc) : XN z (tLc wi gt tt te vs) g m CL := XN.lcC h.c
end
end My

namespace My
open PySem PySem.Spec PyProof.Rows L2
open C8 (Cal pe_c pe_gc)
/-! ### defs, told of data -/
/-- an error that leaves: its class, its fields -/
structure Err where
  C : Addr
  fs : List (Str × Dat)
def ErrAt (O : List Addr) (H : Hp) (e : Err) (cls : Value) (d : Option Addr) : Prop := cls = .ref e.C ∧ ((e.fs = [] ∧ d = none) ∨ ∃ a fvs, d = some a ∧ a ∉ O ∧ H a = some (.xd fvs) ∧ RpF (hid O H) fvs e.fs)
abbrev WpD := List Dat → (Dat → Prop) → Prop
abbrev WpN := List Dat → (List Dat → Prop) → Prop
abbrev WpX := List Dat → (Dat → Prop) → (Err → Prop) → Prop
abbrev WpP := Nat → List Dat → (Nat → Dat → Prop) → Prop
def Dom (G : List Addr) (H : Hp) : Prop := ∀ p ∈ G, ∃ o, H p = some o
def spD (W : WpD) : Sp := fun vs H Q _ => ∃ (G : List Addr) (ds : List Dat) (C : Dat → Prop), Dom G H ∧ RpL (hid G H) vs ds ∧ W ds C ∧ ∀ d v H', C d → Le H H' → Rp (hid G H') v d → Q v H'
/-- the answer is a list made anew -/
def spN (W : WpN) : Sp := fun vs H Q _ => ∃ (G : List Addr) (ds : List Dat) (C : List Dat → Prop), Dom G H ∧ RpL (hid G H) vs ds ∧ W ds C ∧
  ∀ es p H', C es → Le H (hid [p] H') → H p = none → (∃ vs, H' p = some (.lst vs) ∧ RpL (hid G (hid [p] H')) vs es) → Q (.ref p) H'
/-- it may raise -/
def spX (W : WpX) : Sp := fun vs H Q E => ∃ (G : List Addr) (ds : List Dat) (C : Dat → Prop) (X : Err → Prop), Dom G H ∧ RpL (hid G H) vs ds ∧ W ds C X ∧ (∀ d v H', C d → Le H H' → Rp (hid G H') v d → Q v H') ∧
  ∀ e cls d H', X e → Le H H' → ErrAt G H' e cls d → E cls d H'
/-- the first argument is the purse -/
def spP (W : WpP) : Sp := fun vs H Q _ => ∃ (a : Addr) (us : List V) (G : List Addr) (m : Nat) (ds : List Dat) (C : Nat → Dat → Prop), vs = .ref a :: us ∧ a ∈ G ∧ Pur H a m ∧ Dom G H ∧ RpL (hid G H) us ds ∧ W m ds C ∧
  ∀ m' d v H', C m' d → LeX [a] H H' → Pur H' a m' → Rp (hid G H') v d → Q v H'
section
variable {z : Cz} {g : List Sl} {m : Nat} {C : Nat → Dat → Prop} {CL : Nat → List Dat → Prop} {tr : TA} {E : XK} {Es : L2.St → XK}
theorem XE.call {W : WpD} (h : XA z tr g m fun m1 ds => W ds (C m1)) : XE z (tCall (spD W) [] E tr) g m C := fun O σ H R Q k => h O σ H R _ fun m1 ds vs H1 c R1 l1 q1 => by
  show spD W (vs ++ []) H1 Q E
  rw [List.append_nil]
  exact ⟨O, ds, C m1, R1.dom, q1, c, fun d v H' c' l' q' => k m1 d v H' c' (R1.up l') (l1.trans l'.x) q'⟩
theorem XN.call {W : WpN} (h : XA z tr g m fun m1 ds => W ds (CL m1)) : XN z (tCall (spN W) [] E tr) g m CL := fun O σ H R Q k => h O σ H R _ fun m1 ds vs H1 c R1 l1 q1 => by
  show spN W (vs ++ []) H1 Q E
  rw [List.append_nil]
  refine ⟨O, ds, CL m1, R1.dom, q1, c, fun es p H' c' l' hp f => ?_⟩
  have no : p ∉ O := fun q => by obtain ⟨o, ho⟩ := R1.dom p q; rw [hp] at ho; cases ho
  have nP : p ∉ z.P := fun q => no (R1.po p q)
  have z0 : ∀ {B : Hp}, LeX z.P B H1 → B p = none := fun {B} l => by
    cases q : B p with
    | none => rfl
    | some o => obtain ⟨o', ho⟩ := (l p o nP q).get; rw [hp] at ho; cases ho
  exact k m1 es p H' c' (R1.up l') (l1.trans l'.x) ⟨no, z0 R1.le, z0 l1, f⟩
theorem XE.callP {W : WpP} {i : Nat} (hg : g[i]? = some .pu) (h : XA z tr g m fun m1 ds => W m1 ds C) : XE z (tCall (spP W) [] E (tCons (tVar i) tr)) g m C := fun O σ H R Q k => by
  obtain ⟨a, eP, e⟩ := R.sl i _ hg
  refine ⟨_, e, h O σ H R _ fun m1 ds vs H1 c R1 l1 q1 => ?_⟩
  show spP W (V.ref a :: vs ++ []) H1 Q E
  rw [List.append_nil]
  have ha : a ∈ z.P := by rw [eP]; simp
  refine ⟨a, vs, O, m1, ds, C, rfl, R1.po a ha, R1.pur a ha, R1.dom, q1, c, fun m' d v H' c' l' p' q' => ?_⟩
  rw [← eP] at l'
  exact k m' d v H' c' (R1.lift l' (fun b hb => by rw [eP] at hb; rw [List.mem_singleton.mp hb]; exact p')) (l1.trans l') q'
/-- a call that may raise, the wish Es at the state -/
theorem XE.callX {W : WpX} {X : Nat → Err → Prop} (hX : ∀ O σ m' H' e cls d, X m' e → Real z O g m' σ H' → ErrAt O H' e cls d → Es σ cls d H') (h : XA z tr g m fun m1 ds => W ds (C m1) (X m1)) : XE z (tCallS (spX W) Es tr) g m C := fun O σ H R Q k => h O σ H R _ fun m1 ds vs H1 c R1 l1 q1 =>
  ⟨O, ds, C m1, X m1, R1.dom, q1, c, fun d v H' c' l' q' => k m1 d v H' c' (R1.up l') (l1.trans l'.x) q', fun e cls d H' x l' q' => hX O σ m1 H' e cls d x (R1.up l') q'⟩
/-- where it doesn't raise -/
theorem XE.callX0 {W : WpX} (h : XA z tr g m fun m1 ds => W ds (C m1) fun _ => False) : XE z (tCall (spX W) [] E tr) g m C := fun O σ H R Q k => h O σ H R _ fun m1 ds vs H1 c R1 l1 q1 => by
  show spX W (vs ++ []) H1 Q E
  rw [List.append_nil]
  exact ⟨O, ds, C m1, fun _ => False, R1.dom, q1, c, fun d v H' c' l' q' => k m1 d v H' c' (R1.up l') (l1.trans l'.x) q', fun e cls d H' x l' q' => x.elim⟩
end
/-! a def's start -/
def argsG (n : Nat) (ds : List Dat) : List Sl := ds.map Sl.dt ++ List.replicate (n - ds.length) .un
theorem real_start {z : Cz} {H : Hp} {N : List Str} {vs : List V} {ds : List Dat} {m : Nat} (hB : z.B = H) (hd : Dom z.G H) (hp : ∀ p ∈ z.P, p ∈ z.G) (pur : ∀ p ∈ z.P, Pur H p m) (r : RpL (hid z.G H) vs ds) : Real z z.G (argsG N.length ds) m (L2.start N vs) H where
  dom := hd
  sub := fun _ h => h
  new := fun _ h => .inl h
  pg := hp
  pur := pur
  le := by rw [hB]; exact LeX.refl _ _
  len := by simp [L2.start, argsG, r.length]
  sl := fun i x h => by
    unfold argsG at h
    unfold L2.start
    by_cases l : i < ds.length
    · rw [List.getElem?_append_left (by rw [List.length_map]; exact l), List.getElem?_map, List.getElem?_eq_getElem l] at h
      cases h
      obtain ⟨v, hv, rv⟩ := r.get (List.getElem?_eq_getElem l)
      exact ⟨v, by rw [List.getElem?_append_left (by rw [List.length_map, r.length]; exact l), List.getElem?_map, hv]; rfl, rv⟩
    · rw [List.getElem?_append_right (by rw [List.length_map]; omega)] at h
      have := List.mem_of_getElem? h
      rw [(List.mem_replicate.mp this).2]
      trivial
  inj := fun i j p xs ys h => by
    unfold argsG at h
    by_cases l : i < ds.length
    · rw [List.getElem?_append_left (by rw [List.length_map]; exact l), List.getElem?_map, List.getElem?_eq_getElem l] at h
      cases h
    · rw [List.getElem?_append_right (by rw [List.length_map]; omega)] at h
      have := List.mem_of_getElem? h
      exact absurd (List.mem_replicate.mp this).2 (fun z => nomatch z)
theorem start_cons {N : List Str} {a : Addr} {us : List V} (h : 0 < N.length) : L2.start N (.ref a :: us) = some (.ref a) :: L2.start N.tail us := by
  unfold L2.start
  cases N with
  | nil => simp at h
  | cons x N => simp
/-- with the purse ahead -/
theorem Real.purse {z : Cz} {O : List Addr} {g : List Sl} {m : Nat} {σ : L2.St} {H : Hp} (R : Real z O g m σ H) {a : Addr} (e : z.P = [a]) : Real z O (.pu :: g) m (some (.ref a) :: σ) H where
  dom := R.dom
  sub := R.sub
  new := R.new
  pg := R.pg
  pur := R.pur
  le := R.le
  len := congrArg (· + 1) R.len
  sl := fun i x h => by
    cases i with
    | zero => cases (Option.some.inj h : _ = x); exact ⟨a, e, rfl⟩
    | succ i => exact R.sl i x (by simpa using h)
  inj := fun i j p xs ys hi hj si sj => by
    cases i with
    | zero => cases (Option.some.inj hi : _ = Sl.ow xs)
    | succ i =>
      cases j with
      | zero => cases (Option.some.inj hj : _ = Sl.ow ys)
      | succ j => exact congrArg (· + 1) (R.inj i j p xs ys (by simpa using hi) (by simpa using hj) (by simpa using si) (by simpa using sj))
section
variable {P : Program} {w : World} {K : PySem.W.Frag} {mg : Str → Option Value} {base : Heap} {x qual : Str} {st : Stmt} {f : Addr} {fd : FuncData} {N ps : List Str} {k : Nat}
theorem okD {W : WpD} (F : L2.Fun K x qual st f fd) (S : FnScope N ps (defScope st)) (hl : ∀ ds C, W ds C → ds.length = ps.length)
    (hb : ∀ (cdv : Value) (A : Around) (outer : List Env) (s : Shared) (H : Hp) (E : XK), Room k (A.deeper (envOfC qual (defScope st) s.heap.objs.size f cdv)) →
      ∃ t, PSs (cxOf CX0 P w K mg base N qual (defScope st) f cdv A outer s H E).nox (defBody st) t ∧ ∀ (z : Cz) (ds : List Dat) (C : Dat → Prop), W ds C → XS z t (argsG N.length ds) 0 { nx := fun _ _ => C .non, rt := fun _ d => C d, rn := fun _ es => C (.lst es) }) :
    FnOk P w K mg base CX0 (k + 1) f fd ps (spD W) := by
  refine F.ok S (fun vs H Q E h => ?_) (fun cdv A outer s H vs Q E hr h => ?_)
  · obtain ⟨G, ds, C, hd, r, hW, _⟩ := h
    rw [r.length]; exact hl ds C hW
  · obtain ⟨G, ds, C, hd, r, hW, hk⟩ := h
    obtain ⟨t, ht, hx⟩ := hb cdv A outer s H E hr
    refine ⟨t, ht, hx ⟨G, [], H⟩ ds C hW G _ H (real_start rfl hd (by simp) (by simp) r) _ ⟨fun O' g' m' σ' H' c R' l => ?_, fun O' g' m' σ' d v H' c R' q => ?_, fun O' g' m' σ' es p H' c R' n nb f => ?_, fun _ _ _ _ _ c => c.elim, fun _ _ _ _ _ c => c.elim⟩⟩
    · exact hk _ _ H' c (LeX.le R'.le) .non
    · exact hk d v H' c (LeX.le R'.le) (q.mono (hid_sub R'.sub))
    · obtain ⟨vs, hp, q⟩ := f
      have l := hid1_le H' p
      refine hk _ _ H' c ((LeX.le R'.le).trans l) (.lst (by rw [hid_out (fun z => n (R'.sub p z))]; exact hp) ((q.mono (hid_sub R'.sub)).mono l.hid))
theorem okN {W : WpN} (F : L2.Fun K x qual st f fd) (S : FnScope N ps (defScope st)) (hl : ∀ ds C, W ds C → ds.length = ps.length)
    (hb : ∀ (cdv : Value) (A : Around) (outer : List Env) (s : Shared) (H : Hp) (E : XK), Room k (A.deeper (envOfC qual (defScope st) s.heap.objs.size f cdv)) →
      ∃ t, PSs (cxOf CX0 P w K mg base N qual (defScope st) f cdv A outer s H E).nox (defBody st) t ∧ ∀ (z : Cz) (ds : List Dat) (C : List Dat → Prop), W ds C → XS z t (argsG N.length ds) 0 { nx := fun _ _ => False, rt := fun _ _ => False, rn := fun _ es => C es }) :
    FnOk P w K mg base CX0 (k + 1) f fd ps (spN W) := by
  refine F.ok S (fun vs H Q E h => ?_) (fun cdv A outer s H vs Q E hr h => ?_)
  · obtain ⟨G, ds, C, hd, r, hW, _⟩ := h
    rw [r.length]; exact hl ds C hW
  · obtain ⟨G, ds, C, hd, r, hW, hk⟩ := h
    obtain ⟨t, ht, hx⟩ := hb cdv A outer s H E hr
    refine ⟨t, ht, hx ⟨G, [], H⟩ ds C hW G _ H (real_start rfl hd (by simp) (by simp) r) _ ⟨fun _ _ _ _ _ c => c.elim, fun _ _ _ _ _ _ _ c => c.elim, fun O' g' m' σ' es p H' c R' n nb f => ?_, fun _ _ _ _ _ c => c.elim, fun _ _ _ _ _ c => c.elim⟩⟩
    obtain ⟨vs, hp, q⟩ := f
    exact hk es p H' c (LeX.le R'.le) nb ⟨vs, hp, q.mono (hid_sub R'.sub)⟩
theorem okX {W : WpX} (F : L2.Fun K x qual st f fd) (S : FnScope N ps (defScope st)) (hl : ∀ ds C X, W ds C X → ds.length = ps.length)
    (hb : ∀ (cdv : Value) (A : Around) (outer : List Env) (s : Shared) (H : Hp) (E : XK), Room k (A.deeper (envOfC qual (defScope st) s.heap.objs.size f cdv)) →
      ∃ t, PSs (cxOf (L2.CX P w) P w K mg base N qual (defScope st) f cdv A outer s H E) (defBody st) t ∧ ∀ (z : Cz) (ds : List Dat) (C : Dat → Prop) (X : Err → Prop), (∀ O g m σ H' e cls d, X e → Real z O g m σ H' → ErrAt O H' e cls d → E cls d H') → W ds C X →
        XS z t (argsG N.length ds) 0 { nx := fun _ _ => C .non, rt := fun _ d => C d, rn := fun _ es => C (.lst es) }) :
    FnOk P w K mg base (L2.CX P w) (k + 1) f fd ps (spX W) := by
  refine F.okX S (fun vs H Q E h => ?_) (fun cdv A outer s H vs Q E hr h => ?_)
  · obtain ⟨G, ds, C, X, hd, r, hW, _⟩ := h
    rw [r.length]; exact hl ds C X hW
  · obtain ⟨G, ds, C, X, hd, r, hW, hk, hx'⟩ := h
    obtain ⟨t, ht, hx⟩ := hb cdv A outer s H E hr
    refine ⟨t, ht, hx ⟨G, [], H⟩ ds C X (fun O g m σ H' e cls d x R' q => ?_) hW G _ H (real_start rfl hd (by simp) (by simp) r) _ ⟨fun O' g' m' σ' H' c R' l => ?_, fun O' g' m' σ' d v H' c R' q => ?_, fun O' g' m' σ' es p H' c R' n nb f => ?_, fun _ _ _ _ _ c => c.elim, fun _ _ _ _ _ c => c.elim⟩⟩
    · refine hx' e cls d H' x (LeX.le R'.le) ⟨q.1, ?_⟩
      rcases q.2 with q | ⟨a, fvs, e1, n, ha, rf⟩
      · exact .inl q
      · exact .inr ⟨a, fvs, e1, fun z => n (R'.sub a z), ha, rf.mono (hid_sub R'.sub)⟩
    · exact hk _ _ H' c (LeX.le R'.le) .non
    · exact hk d v H' c (LeX.le R'.le) (q.mono (hid_sub R'.sub))
    · obtain ⟨vs, hp, q⟩ := f
      have l := hid1_le H' p
      refine hk _ _ H' c ((LeX.le R'.le).trans l) (.lst (by rw [hid_out (fun z => n (R'.sub p z))]; exact hp) ((q.mono (hid_sub R'.sub)).mono l.hid))
theorem okP {W : WpP} (F : L2.Fun K x qual st f fd) (S : FnScope N ps (defScope st)) (hN : 0 < N.length) (hl : ∀ m ds C, W m ds C → ds.length + 1 = ps.length)
    (hb : ∀ (cdv : Value) (A : Around) (outer : List Env) (s : Shared) (H : Hp) (E : XK), Room k (A.deeper (envOfC qual (defScope st) s.heap.objs.size f cdv)) →
      ∃ t, PSs (cxOf CX0 P w K mg base N qual (defScope st) f cdv A outer s H E).nox (defBody st) t ∧ ∀ (z : Cz) (m : Nat) (ds : List Dat) (C : Nat → Dat → Prop), W m ds C → XS z t (.pu :: argsG N.tail.length ds) m { nx := fun _ m' => C m' .non, rt := fun m' d => C m' d, rn := fun m' es => C m' (.lst es) }) :
    FnOk P w K mg base CX0 (k + 1) f fd ps (spP W) := by
  refine F.ok S (fun vs H Q E h => ?_) (fun cdv A outer s H vs Q E hr h => ?_)
  · obtain ⟨a, us, G, m, ds, C, rfl, aG, hp, hd, r, hW, _⟩ := h
    have := hl m ds C hW
    rw [List.length_cons, r.length]; exact this
  · obtain ⟨a, us, G, m, ds, C, rfl, aG, hp, hd, r, hW, hk⟩ := h
    obtain ⟨t, ht, hx⟩ := hb cdv A outer s H E hr
    have R0 := (real_start (z := ⟨G, [a], H⟩) (N := N.tail) rfl hd (by intro p h; rw [List.mem_singleton.mp h]; exact aG) (by intro p h; rw [List.mem_singleton.mp h]; exact hp) r).purse rfl
    rw [← start_cons hN] at R0
    refine ⟨t, ht, hx ⟨G, [a], H⟩ m ds C hW G _ H R0 _ ⟨fun O' g' m' σ' H' c R' l => ?_, fun O' g' m' σ' d v H' c R' q => ?_, fun O' g' m' σ' es p H' c R' n nb f => ?_, fun _ _ _ _ _ c => c.elim, fun _ _ _ _ _ c => c.elim⟩⟩
    · exact hk _ _ _ H' c R'.le (R'.pur a (by simp)) .non
    · exact hk _ d v H' c R'.le (R'.pur a (by simp)) (q.mono (hid_sub R'.sub))
    · obtain ⟨vs, hp', q⟩ := f
      have l := hid1_le H' p
      have pu := R'.pur a (by simp)
      refine hk _ _ _ H' c (R'.le.trans l.x) ?_ (.lst (by rw [hid_out (fun z => n (R'.sub p z))]; exact hp') ((q.mono (hid_sub R'.sub)).mono l.hid))
      obtain ⟨d, c_, k_, h, q⟩ := pu
      exact ⟨d, c_, k_, l.lst h, q⟩
end
end My

/-! ### own rules: len(o), o == p, o != p by the class's own __len__, __eq__ -/
namespace My
open PySem PySem.Spec PyProof.Rows L2
theorem ns_some {K : PySem.W.Frag} {h : Heap} {N : Addr} {mg : Str → Option Value} {n : Str} {v : Value} (X : K.In h) (G : h.Ns N mg) (e : PySem.W.nsIn K N n = some (some v)) : mg n = some v := by
  obtain ⟨o, es, ep, ho, hd, _, hf⟩ := G
  unfold PySem.W.nsIn at e
  split at e
  · rename_i c d es' n' sl q
    have := X _ _ q
    rw [ho] at this
    cases this
    cases hd
    split at e
    · rename_i en he
      cases e
      rw [← hf]
      unfold nsFind findBy
      rw [← Array.find?_toList, he]
      rfl
    · split at e <;> cases e
  · cases e
section
variable {X : Cx} {n j : Nat} {C f : Addr} {fd : FuncData} {ps : List Str} {sp : Sp} {E : XK} {CX : CXT} {pins : List (Addr × Obj)} {σ : L2.St} {H : Hp} {s : Shared} {Q : VK} {A : Around}
theorem run_at (F : FnOk X.prog X.w X.K X.mg X.base CX n f fd ps sp) (hb : Binds X.K fd ps []) (hx : Passes CX X E) (sb : L2.Sub X n A) (I : Inv X pins σ H s) {vs : List V} {us : List Value} (r : Vals vs us) (h : sp vs H Q E) :
    wpAny (model X.prog X.w) A (call (.ref f) us) (EP X pins σ Q) X.xe s := by
  have e0 : Env0 X.prog X.w X.K X.mg X.base A X.stack s H := by
    have e := I.env0
    exact ⟨by rw [sb.fr]; exact e.frames, e.mod, e.bs, e.bsz, e.funs, e.frf, e.hok, e.bare⟩
  have hl := F.len _ _ _ _ h
  refine wpAny_call (codeAny_mono (F.run A X.stack s H ⟨us, []⟩ us vs Q E sb.room e0 (by
    have := hb s us I.kIn (by rw [← hl, r.length]; simp)
    simpa using this) r h) fun r s' hq => ?_)
  cases r with
  | error e => exact hx pins σ H s e s' I hq
  | ok fl =>
    cases fl with
    | ret w => exact I.after hq
    | next => exact False.elim hq
    | brk => exact False.elim hq
    | cont => exact False.elim hq
/-- a special method that the class tells -/
structure Spc (K : PySem.W.Frag) (C f : Addr) (name : Str) : Prop where
  at_ : PySem.W.findIn K (.ref C) name = some (some (.ref f))
  fn : PySem.W.isFn K (.ref f) = true
def rLenO (C : Addr) (sp : Sp) (E : XK) : List V → Hp → VK → Prop := fun xs H Q => ∃ a dx fs, xs = [.ref a] ∧ H a = some (.ins C dx fs) ∧ sp [.ref a] H (fun v H' => ∃ k : Int, v = .int k ∧ 0 ≤ k ∧ k < 2 ^ 63 ∧ Q (.int k) H') E
theorem call_lenO (F : FnOk X.prog X.w X.K X.mg X.base CX n f fd ps sp) (hs : Spc X.K C f "__len__") (hb : Binds X.K fd ps []) (hx : Passes CX X E) (hr : Room j X.A) (hk : n + 1 ≤ j) : CallR X (.builtin "len") (rLenO C sp E) := by
  intro pins s σ H xs us Q I r h
  obtain ⟨a, dx, fs, rfl, ha, h⟩ := h
  obtain ⟨u, rfl, rx⟩ := vals1 r
  cases rx
  obtain ⟨mA, J, _⟩ := ins_get I.hok ha
  obtain ⟨od, J, _⟩ := J.look
  obtain ⟨m, hF⟩ := I.fr
  have sb : L2.Sub X n X.A.in1 := L2.Sub.in1 ⟨hr.mono hk, rfl⟩
  refine PySem.W.len_K hF I.ok.mod.kin J hs.at_ hs.fn (thn (run_at F hb hx sb I (vs := [.ref a]) (.cons rfl .nil) h) fun v s1 ⟨y, H1, I1, r1, k, e, h0, h1, q⟩ => ?_)
  subst e
  obtain ⟨t, rfl⟩ := r1
  exact ⟨⟨h0, h1⟩, .int k, H1, I1.tok _, ⟨_, rfl⟩, q⟩
/-- == of two things, the left one of a class with its own __eq__ -/
def rEqO (C : Addr) (sp : Sp) (E : XK) : R2 := fun x y H Q => ∃ a b dx dy fs gs, x = .ref a ∧ y = .ref b ∧ H a = some (.ins C dx fs) ∧ H b = some (.ins C dy gs) ∧ sp [.ref a, .ref b] H (fun v H' => ∃ k : Bool, v = .bl k ∧ Q (.bl k) H') E
theorem op_eqO (F : FnOk X.prog X.w X.K X.mg X.base CX n f fd ps sp) (hs : Spc X.K C f "__eq__") (hb : Binds X.K fd ps []) (hx : Passes CX X E) (hr : Room j X.A) (hk : n ≤ j) : OpR X (compareOp .Eq) (rEqO C sp E) := by
  intro pins s σ H x y v u Q I rx ry h
  obtain ⟨a, b, dx, dy, fs, gs, rfl, rfl, ha, hb', h⟩ := h
  cases rx
  cases ry
  obtain ⟨mA, J, _⟩ := ins_get I.hok ha
  obtain ⟨mB, J', _⟩ := ins_get I.hok hb'
  obtain ⟨od, J, _⟩ := J.look
  obtain ⟨od', J', _⟩ := J'.look
  obtain ⟨m, hF⟩ := I.fr
  have sb : L2.Sub X n X.A := ⟨hr.mono hk, rfl⟩
  show wpAny (model X.prog X.w) X.A (richCompare .Eq (.ref a) (.ref b)) (EP X pins σ Q) X.xe s
  refine PySem.W.cmp_K (op := .Eq) (tb := .ref C) sb.room.units0 hF I.ok.mod.kin J J'.type (by simp [PySem.W.notFirst]) hs.at_ hs.fn (thn (run_at F hb hx sb I (vs := [.ref a, .ref b]) (.cons rfl (.cons rfl .nil)) h) fun v s1 ⟨y, H1, I1, r1, k, e, q⟩ => ?_)
  subst e
  cases r1
  exact ⟨.bl k, H1, I1, rfl, q⟩
/-- what is known of a class that has its own __eq__ and no __ne__ -/
structure OwnE (K : PySem.W.Frag) (C f : Addr) : Prop where
  cls : ∃ nm q N bs sn sub ab col dd k0 k1 k2 k3 k5, K.lookup C = some (excClassObj nm q C N bs [.type "object"] true sn sub ab col dd k0 k1 k2 k3 k5 "object.__new__") ∧ PySem.W.nsOkIn K N = true ∧ PySem.W.nsIn K N "__eq__" = some (some (.ref f)) ∧ PySem.W.nsIn K N "__ne__" = some none
  fn : ∃ of, K.lookup f = some of ∧ of.cls = .type "function"
theorem OwnE.ne {K : PySem.W.Frag} (o : OwnE K C f) {h : Heap} (X : K.In h) {x : Addr} {ox : Obj} (hx : h.get? x = some ox) (hc : ox.cls = .ref C) : h.OwnEqNoNe x C f "object" [.type "object"] := by
  obtain ⟨nm, q, N, bs, sn, sub, ab, col, dd, k0, k1, k2, k3, k5, hl, hN, he, hne⟩ := o.cls
  obtain ⟨of, hf, hfc⟩ := o.fn
  have G : h.Ns N (h.nsMap N) := .of_isNs (PySem.W.isNs_of_in X hN)
  refine ⟨ox, of, nm, q, N, bs, true, sn, sub, ab, col, dd, k0, k1, k2, k3, k5, "object.__new__", h.nsMap N, some (.builtin "object.__eq__"), hx, hc, X _ _ hl, G, ns_some X G he, X _ _ hf, hfc, PySem.F.mro_object, ?_, PySem.W.ns_none_of X G hne⟩
  rw [typeLookup_type, builtinLookup_eq_fast]; kernel_rfl
def rNeO (C : Addr) (sp : Sp) (E : XK) : R2 := fun x y H Q => ∃ a b dx dy fs gs, x = .ref a ∧ y = .ref b ∧ H a = some (.ins C dx fs) ∧ H b = some (.ins C dy gs) ∧ sp [.ref a, .ref b] H (fun v H' => ∃ k : Bool, v = .bl k ∧ Q (.bl (!k)) H') E
theorem op_neO (F : FnOk X.prog X.w X.K X.mg X.base CX n f fd ps sp) (o : OwnE X.K C f) (hb : Binds X.K fd ps []) (hx : Passes CX X E) (hr : Room j X.A) (hk : n + 1 ≤ j) : OpR X (compareOp .NotEq) (rNeO C sp E) := by
  intro pins s σ H x y v u Q I rx ry h
  obtain ⟨a, b, dx, dy, fs, gs, rfl, rfl, ha, hb', h⟩ := h
  cases rx
  cases ry
  obtain ⟨mA, J, _⟩ := ins_get I.hok ha
  obtain ⟨mB, J', _⟩ := ins_get I.hok hb'
  obtain ⟨od, J, _⟩ := J.look
  obtain ⟨od', J', _⟩ := J'.look
  have sb : L2.Sub X n X.A.in1 := L2.Sub.in1 ⟨hr.mono hk, rfl⟩
  have hu : X.A.units + 1 < cLine := (L2.Sub.in1 (n := 0) ⟨hr.mono (by omega), rfl⟩ : L2.Sub X 0 X.A.in1).room.units0
  obtain ⟨hh, g, d, t, os⟩ := s
  refine compareOp_ne_ownEq PySem.F.cmp_object (o.ne I.kIn J.at_ J.cls) J'.at_ J'.cls hu (thn (run_at F hb hx sb I (vs := [.ref a, .ref b]) (.cons rfl (.cons rfl .nil)) h) fun v s1 ⟨y, H1, I1, r1, k, e, q⟩ => ?_)
  subst e
  cases r1
  exact ⟨k, rfl, .bl (!k), H1, I1, rfl, q⟩
end
end My

/-! ### calls of defs and methods by places and by names, told of data -/
namespace My
open PySem PySem.Spec PyProof.Rows L2
/-- where a parameter's value comes from: a place, a name, the default -/
inductive Pk where
  | p (i : Nat) | k (i : Nat) | c (v : V)
def pickV (tm : List Pk) (vs zs : List V) : List V := tm.map fun
  | .p i => vs.getD i .non
  | .k i => zs.getD i .non
  | .c v => v
def pickD (tm : List Pk) (ds es : List Dat) : List Dat := tm.map fun
  | .p i => ds.getD i .non
  | .k i => es.getD i .non
  | .c v => vd v
def pkOk (n m : Nat) : Pk → Bool
  | .p i => decide (i < n)
  | .k i => decide (i < m)
  | .c v => simV v
theorem RpL.getD {H : Hp} : ∀ {vs : List V} {ds : List Dat} (i : Nat), RpL H vs ds → Rp H (vs.getD i .non) (ds.getD i .non)
  | _, _, _, .nil => .non
  | _, _, 0, .cons r _ => r
  | _, _, i + 1, .cons _ t => RpL.getD i t
theorem RpL.pick {H : Hp} {vs zs : List V} {ds es : List Dat} (r : RpL H vs ds) (q : RpL H zs es) {n m : Nat} : ∀ {tm : List Pk}, tm.all (pkOk n m) = true → RpL H (pickV tm vs zs) (pickD tm ds es)
  | [], _ => .nil
  | x :: tm, h => by
    have h' := and_t (show (pkOk n m x && tm.all (pkOk n m)) = true from h)
    refine .cons ?_ (RpL.pick r q h'.2)
    cases x with
    | p i => exact r.getD i
    | k i => exact q.getD i
    | c v => exact rp_vd h'.1
/-- a callee: its def at f, called with n places and the names ks -/
structure Kl (CX : CXT) (P : Program) (w : World) (K : PySem.W.Frag) (mg : Str → Option Value) (base : Heap) (k : Nat) (f : Addr) (sp : Sp) (n : Nat) (ks : List Str) (tm : List Pk) : Prop where
  ex : ∃ (fd : FuncData) (ps : List Str) (g : List Value → List Value → List Value), FnOk P w K mg base CX k f fd ps sp ∧ PySem.W.keepIn K (.ref f) = true ∧
    (∀ (s : Shared) (us ws : List Value), K.In s.heap → us.length = n → ws.length = ks.length → BindsTo s fd ⟨us, ks.zip ws⟩ (ps.zip (g us ws))) ∧
    (∀ {vs : List V} {us : List Value} {zs : List V} {ws : List Value}, vs.length = n → zs.length = ks.length → Vals vs us → Vals zs ws → Vals (pickV tm vs zs) (g us ws))
  ok : tm.all (pkOk n ks.length) = true
/-- a method of C -/
structure KMet (CX : CXT) (P : Program) (w : World) (K : PySem.W.Frag) (mg : Str → Option Value) (base : Heap) (k : Nat) (C : Addr) (x : Str) (sp : Sp) (n : Nat) (ks : List Str) (tm : List Pk) : Prop where
  ex : ∃ f, Cls K C ∧ Meth K C x f ∧ Kl CX P w K mg base k f sp n ks tm
/-- a def of the module -/
structure KDef (CX : CXT) (P : Program) (w : World) (K : PySem.W.Frag) (mg : Str → Option Value) (base : Heap) (k : Nat) (x : Str) (sp : Sp) (n : Nat) (ks : List Str) (tm : List Pk) : Prop where
  ex : ∃ f, mg x = some (.ref f) ∧ Kl CX P w K mg base k f sp n ks tm
def PsAt (CX : CXT) (X : Cx) (σ : L2.St) (E : XK) : Prop := ∀ (pins : List (Addr × Obj)) (H : Hp) (s : Shared) (e : Value) (s' : Shared), Inv X pins σ H s → CX X.stack H s E e s' → X.xe e s'
def tKc (sp : Sp) (n m : Nat) (tm : List Pk) (E : L2.St → XK) (t tk : TA) : TE := fun σ H Q => t σ H fun vs H1 => tk σ H1 fun zs H2 => vs.length = n ∧ zs.length = m ∧ sp (pickV tm vs zs) H2 Q (E σ)
def tKm (C : Addr) (x : Str) (sp : Sp) (n m : Nat) (tm : List Pk) (E : L2.St → XK) (to : TE) (t tk : TA) : TE := fun σ H Q => to σ H fun o H0 => ∃ a dx fs, o = .ref a ∧ H0 a = some (.ins C dx fs) ∧ fs.lookup x = none ∧
  t σ H0 fun vs H1 => tk σ H1 fun zs H2 => vs.length + 1 = n ∧ zs.length = m ∧ sp (pickV tm (o :: vs) zs) H2 Q (E σ)
section
variable {X : Cx} {CX : CXT} {k j n : Nat} {C f : Addr} {x : Str} {ks : List Str} {sp : Sp} {tm : List Pk} {E : L2.St → XK} {p pos apos : Pos} {o e : Expr} {es : List Expr} {kws : List Keyword} {to : TE} {t tk : TA} {pl : Sem Bool}
theorem run_kl (c : Kl CX X.prog X.w X.K X.mg X.base k f sp n ks tm) (hr : Room j X.A) (hk : k ≤ j) {pins : List (Addr × Obj)} {σ : L2.St} {H : Hp} {s : Shared} {Q : VK} {us ws : List Value} {vs zs : List V} (hx : PsAt CX X σ (E σ))
    (I : Inv X pins σ H s) (r : Vals vs us) (rz : Vals zs ws) (l1 : vs.length = n) (l2 : zs.length = ks.length) (h : sp (pickV tm vs zs) H Q (E σ)) : wpAny (model X.prog X.w) X.A (call (.ref f) us (ks.zip ws)) (EP X pins σ Q) X.xe s := by
  obtain ⟨fd, ps, g, F, _, to, rel⟩ := c.ex
  have r2 := rel l1 l2 r rz
  refine wpAny_call (codeAny_mono (F.run X.A X.stack s H ⟨us, ks.zip ws⟩ (g us ws) (pickV tm vs zs) Q (E σ) (hr.mono hk) I.env0 (to s us ws I.kIn (by rw [← r.length]; exact l1) (by rw [← rz.length]; exact l2)) r2 h) fun r s' hq => ?_)
  cases r with
  | error e => exact hx pins H s e s' I hq
  | ok fl =>
    cases fl with
    | ret u => exact I.after hq
    | next => exact False.elim hq
    | brk => exact False.elim hq
    | cont => exact False.elim hq
/-- x(a, .., k=b, ..) -/
theorem pe_kc (c : KDef CX X.prog X.w X.K X.mg X.base k x sp n ks tm) (hr : Room j X.A) (hk : k ≤ j) (hg : Gl X x) (hx : ∀ σ, PsAt CX X σ (E σ)) (ha : PA X (e :: es) t) (hkw : PK X kws tk)
    (hall : (backToKw pos (keywordEach kws X.env)).all (·.1.isSome) = true := by rfl) (hks : (backToKw pos (keywordEach kws X.env)).filterMap (·.1) = ks := by rfl) (hdb : (x == ("__debug__" : Str)) = false := by decide)
    (he : starEach (e :: es) X.env = (false, eval e X.env) :: starEach es X.env := by rfl) (hpl : ((backTo pos (starEach (e :: es) X.env)).any (·.1) || (backToKw pos (keywordEach kws X.env)).any (·.1.isNone)) = false := by rfl) :
    PE X (.Call (.Name x p) (e :: es) kws pos) (tKc sp n ks.length tm E t tk) := by
  obtain ⟨f, hm, c⟩ := c.ex
  obtain ⟨_, _, _, _, kp, _⟩ := id c.ex
  refine ⟨fun pins s σ H Q I h => ?_⟩
  refine wpAny_Call_Name_kw (ld_glob I hg hm ?_ hdb)
  refine PySem.W.callWith_KW (h₀ := X.base) I.ok.mod.kin kp hall (thn (ha.run pos pins s σ H _ I h) fun us s1 ⟨vs, H1, I1, r, q⟩ => ?_) hpl he
  refine thn (hkw.run pos pins s1 σ H1 _ I1 q) fun ws s2 ⟨zs, H2, I2, rz, l1, l2, q2⟩ => ⟨I2.kIn, ?_⟩
  rw [hks]
  exact run_kl c hr hk (hx σ) I2 r rz l1 l2 q2
theorem pe_kc0 (c : KDef CX X.prog X.w X.K X.mg X.base k x sp 0 ks tm) (hr : Room j X.A) (hk : k ≤ j) (hg : Gl X x) (hx : ∀ σ, PsAt CX X σ (E σ)) (hkw : PK X kws tk)
    (hall : (backToKw pos (keywordEach kws X.env)).all (·.1.isSome) = true := by rfl) (hks : (backToKw pos (keywordEach kws X.env)).filterMap (·.1) = ks := by rfl) (hdb : (x == ("__debug__" : Str)) = false := by decide)
    (hpl : ((backTo pos (starEach [] X.env)).any (·.1) || (backToKw pos (keywordEach kws X.env)).any (·.1.isNone)) = false := by rfl) :
    PE X (.Call (.Name x p) [] kws pos) (tKc sp 0 ks.length tm E tNil tk) := by
  obtain ⟨f, hm, c⟩ := c.ex
  obtain ⟨_, _, _, _, kp, _⟩ := id c.ex
  refine ⟨fun pins s σ H Q I h => ?_⟩
  refine wpAny_Call_Name_kw (ld_glob I hg hm ?_ hdb)
  refine PySem.W.callWith_KW0 (h₀ := X.base) I.ok.mod.kin kp hall ?_ hpl
  refine thn (hkw.run pos pins s σ H _ I h) fun ws s2 ⟨zs, H2, I2, rz, l1, l2, q2⟩ => ⟨I2.kIn, ?_⟩
  rw [hks]
  exact run_kl (us := []) (vs := []) c hr hk (hx σ) I2 .nil rz l1 l2 q2
/-- o.x(a, .., k=b, ..) -/
theorem pe_km (ho : PE X o to) (c : KMet CX X.prog X.w X.K X.mg X.base k C x sp n ks tm) (hr : Room j X.A) (hk : k ≤ j) (hx : ∀ σ, PsAt CX X σ (E σ)) (ha : PA X (e :: es) t) (hkw : PK X kws tk)
    (hall : (backToKw pos (keywordEach kws X.env)).all (·.1.isSome) = true := by rfl) (hks : (backToKw pos (keywordEach kws X.env)).filterMap (·.1) = ks := by rfl)
    (he : starEach (e :: es) X.env = (false, eval e X.env) :: starEach es X.env := by rfl) (hpl : ((backTo pos (starEach (e :: es) X.env)).any (·.1) || (backToKw pos (keywordEach kws X.env)).any (·.1.isNone)) = false := by rfl)
    (ht : eval (.Call (.Attribute o x apos) (e :: es) kws pos) X.env = (do
      let ov ← eval o X.env
      standAt apos.atName
      let (f, first) ← holding [ov] (getMethod ov x pl)
      callWith pos f first (backTo pos (starEach (e :: es) X.env)) (backToKw pos (keywordEach kws X.env))) := by rfl) :
    PE X (.Call (.Attribute o x apos) (e :: es) kws pos) (tKm C x sp n ks.length tm E to t tk) := by
  obtain ⟨f, cl, hm, c⟩ := c.ex
  refine ⟨fun pins s σ H Q I h => ?_⟩
  refine PySem.W.methodCall_KW (pl := pl) (thn (ho.run pins s σ H _ I h) fun u s1 ⟨y, H1, I1, rx, a, dx, fs, ex, ea, l, q⟩ => ?_) ht
  subst ex
  obtain rfl : u = Value.ref a := rx
  refine getmeth_ok I1 ea cl hm l ?_
  refine PySem.W.callWith_KW (first := [.ref a]) (h₀ := X.base) I.ok.mod.kin hm.kp hall (thn (ha.run pos pins s1 σ H1 _ I1 q) fun us s2 ⟨vs, H2, I2, r, q2⟩ => ?_) hpl he
  refine thn (hkw.run pos pins s2 σ H2 _ I2 q2) fun ws s3 ⟨zs, H3, I3, rz, l1, l2, q3⟩ => ⟨I3.kIn, ?_⟩
  rw [hks]
  exact run_kl (us := .ref a :: us) (vs := .ref a :: vs) c hr hk (hx σ) I3 (.cons rfl r) rz l1 l2 q3
/-- o.x(k=b, ..), o.x() -/
theorem pe_km0 (ho : PE X o to) (c : KMet CX X.prog X.w X.K X.mg X.base k C x sp 1 ks tm) (hr : Room j X.A) (hk : k ≤ j) (hx : ∀ σ, PsAt CX X σ (E σ)) (hkw : PK X kws tk)
    (hall : (backToKw pos (keywordEach kws X.env)).all (·.1.isSome) = true := by rfl) (hks : (backToKw pos (keywordEach kws X.env)).filterMap (·.1) = ks := by rfl)
    (hpl : ((backTo pos (starEach [] X.env)).any (·.1) || (backToKw pos (keywordEach kws X.env)).any (·.1.isNone)) = false := by rfl)
    (ht : eval (.Call (.Attribute o x apos) [] kws pos) X.env = (do
      let ov ← eval o X.env
      standAt apos.atName
      let (f, first) ← holding [ov] (getMethod ov x pl)
      callWith pos f first (backTo pos (starEach [] X.env)) (backToKw pos (keywordEach kws X.env))) := by rfl) :
    PE X (.Call (.Attribute o x apos) [] kws pos) (tKm C x sp 1 ks.length tm E to tNil tk) := by
  obtain ⟨f, cl, hm, c⟩ := c.ex
  refine ⟨fun pins s σ H Q I h => ?_⟩
  refine PySem.W.methodCall_KW (pl := pl) (thn (ho.run pins s σ H _ I h) fun u s1 ⟨y, H1, I1, rx, a, dx, fs, ex, ea, l, q⟩ => ?_) ht
  subst ex
  obtain rfl : u = Value.ref a := rx
  refine getmeth_ok I1 ea cl hm l ?_
  refine PySem.W.callWith_KW0 (first := [.ref a]) (h₀ := X.base) I.ok.mod.kin hm.kp hall ?_ hpl
  refine thn (hkw.run pos pins s1 σ H1 _ I1 q) fun ws s3 ⟨zs, H3, I3, rz, l1, l2, q3⟩ => ⟨I3.kIn, ?_⟩
  rw [hks]
  exact run_kl (us := [.ref a]) (vs := [.ref a]) c hr hk (hx σ) I3 (.cons rfl .nil) rz rfl l2 q3
end
theorem psAt0 {X : Cx} {σ : L2.St} {E : XK} : PsAt CX0 X σ E := fun _ _ _ _ _ _ h => h.elim
theorem psAtL {X : Cx} {σ : L2.St} : PsAt (L2.CX X.prog X.w) X σ E0 := fun pins H s e s' I h => passL pins σ H s e s' I h
/-! told of data -/
section
variable {z : Cz} {g : List Sl} {m n nk : Nat} {C : Nat → Dat → Prop} {CL : Nat → List Dat → Prop} {t tk : TA} {to : TE} {tm : List Pk} {E : L2.St → XK}
theorem XE.kc {W : WpD} (ok : tm.all (pkOk n nk) = true) (h : XA z t g m fun m1 ds => XA z tk g m1 fun m2 es => ds.length = n ∧ es.length = nk ∧ W (pickD tm ds es) (C m2)) : XE z (tKc (spD W) n nk tm E t tk) g m C := fun O σ H R Q k =>
  h O σ H R _ fun m1 ds vs H1 c1 R1 l1 q1 => c1 O σ H1 R1 _ fun m2 es zs H2 ⟨e1, e2, c⟩ R2 l2 q2 => by
    have q1' := q1.mono (l2.hid R1.po)
    exact ⟨by rw [q1.length]; exact e1, by rw [q2.length]; exact e2, O, _, C m2, R2.dom, q1'.pick q2 ok, c, fun d v H' c' l' q' => k m2 d v H' c' (R2.up l') ((l1.trans l2).trans l'.x) q'⟩
theorem XN.kc {W : WpN} (ok : tm.all (pkOk n nk) = true) (h : XA z t g m fun m1 ds => XA z tk g m1 fun m2 es => ds.length = n ∧ es.length = nk ∧ W (pickD tm ds es) (CL m2)) : XN z (tKc (spN W) n nk tm E t tk) g m CL := fun O σ H R Q k =>
  h O σ H R _ fun m1 ds vs H1 c1 R1 l1 q1 => c1 O σ H1 R1 _ fun m2 es zs H2 ⟨e1, e2, c⟩ R2 l2 q2 => by
    have q1' := q1.mono (l2.hid R1.po)
    refine ⟨by rw [q1.length]; exact e1, by rw [q2.length]; exact e2, O, _, CL m2, R2.dom, q1'.pick q2 ok, c, fun es p H' c' l' hp f => ?_⟩
    have no : p ∉ O := fun q => by obtain ⟨o, ho⟩ := R2.dom p q; rw [hp] at ho; cases ho
    have nP : p ∉ z.P := fun q => no (R2.po p q)
    have z0 : ∀ {B : Hp}, LeX z.P B H2 → B p = none := fun {B} l => by
      cases q : B p with
      | none => rfl
      | some o => obtain ⟨o', ho⟩ := (l p o nP q).get; rw [hp] at ho; cases ho
    exact k m2 es p H' c' (R2.up l') ((l1.trans l2).trans l'.x) ⟨no, z0 R2.le, z0 (l1.trans l2), f⟩
theorem XE.kcX {W : WpX} {X : Nat → Err → Prop} (ok : tm.all (pkOk n nk) = true) (hX : ∀ O σ m' H' e cls d, X m' e → Real z O g m' σ H' → ErrAt O H' e cls d → E σ cls d H') (h : XA z t g m fun m1 ds => XA z tk g m1 fun m2 es => ds.length = n ∧ es.length = nk ∧ W (pickD tm ds es) (C m2) (X m2)) : XE z (tKc (spX W) n nk tm E t tk) g m C := fun O σ H R Q k =>
  h O σ H R _ fun m1 ds vs H1 c1 R1 l1 q1 => c1 O σ H1 R1 _ fun m2 es zs H2 ⟨e1, e2, c⟩ R2 l2 q2 => by
    have q1' := q1.mono (l2.hid R1.po)
    exact ⟨by rw [q1.length]; exact e1, by rw [q2.length]; exact e2, O, _, C m2, X m2, R2.dom, q1'.pick q2 ok, c, fun d v H' c' l' q' => k m2 d v H' c' (R2.up l') ((l1.trans l2).trans l'.x) q', fun e cls d H' x l' q' => hX O σ m2 H' e cls d x (R2.up l') q'⟩
/-! methods -/
def IsIns (C : Addr) (x : Str) (d : Dat) : Prop := ∃ fs, d = .ins C fs ∧ cachF x = false ∧ fs.lookup x = none
theorem IsIns.get {H : Hp} {C : Addr} {x : Str} {d : Dat} {v : V} {O : List Addr} (h : IsIns C x d) (r : Rp (hid O H) v d) : ∃ a dx fs, v = .ref a ∧ H a = some (.ins C dx fs) ∧ fs.lookup x = none := by
  obtain ⟨fs, rfl, hc, hl⟩ := h
  cases r with
  | ins ha rf n => exact ⟨_, _, _, rfl, (hid_some ha).2, n x hc hl⟩
theorem XE.km {W : WpD} {Ca : Addr} {x : Str} (ok : tm.all (pkOk n nk) = true) (h : XE z to g m fun m0 d0 => IsIns Ca x d0 ∧ XA z t g m0 fun m1 ds => XA z tk g m1 fun m2 es => ds.length + 1 = n ∧ es.length = nk ∧ W (pickD tm (d0 :: ds) es) (C m2)) : XE z (tKm Ca x (spD W) n nk tm E to t tk) g m C := fun O σ H R Q k =>
  h O σ H R _ fun m0 d0 v0 H0 ⟨hi, c0⟩ R0 l0 q0 => by
    obtain ⟨a, dx, fs, ev, ha, hl⟩ := hi.get q0
    refine ⟨a, dx, fs, ev, ha, hl, c0 O σ H0 R0 _ fun m1 ds vs H1 c1 R1 l1 q1 => c1 O σ H1 R1 _ fun m2 es zs H2 ⟨e1, e2, c⟩ R2 l2 q2 => ?_⟩
    have q1' := RpL.cons (q0.mono ((l1.trans l2).hid R0.po)) (q1.mono (l2.hid R1.po))
    exact ⟨by rw [q1.length]; exact e1, by rw [q2.length]; exact e2, O, _, C m2, R2.dom, q1'.pick q2 ok, c, fun d v H' c' l' q' => k m2 d v H' c' (R2.up l') (((l0.trans l1).trans l2).trans l'.x) q'⟩
theorem XE.kmX {W : WpX} {X : Nat → Err → Prop} {Ca : Addr} {x : Str} (ok : tm.all (pkOk n nk) = true) (hX : ∀ O σ m' H' e cls d, X m' e → Real z O g m' σ H' → ErrAt O H' e cls d → E σ cls d H') (h : XE z to g m fun m0 d0 => IsIns Ca x d0 ∧ XA z t g m0 fun m1 ds => XA z tk g m1 fun m2 es => ds.length + 1 = n ∧ es.length = nk ∧ W (pickD tm (d0 :: ds) es) (C m2) (X m2)) : XE z (tKm Ca x (spX W) n nk tm E to t tk) g m C := fun O σ H R Q k =>
  h O σ H R _ fun m0 d0 v0 H0 ⟨hi, c0⟩ R0 l0 q0 => by
    obtain ⟨a, dx, fs, ev, ha, hl⟩ := hi.get q0
    refine ⟨a, dx, fs, ev, ha, hl, c0 O σ H0 R0 _ fun m1 ds vs H1 c1 R1 l1 q1 => c1 O σ H1 R1 _ fun m2 es zs H2 ⟨e1, e2, c⟩ R2 l2 q2 => ?_⟩
    have q1' := RpL.cons (q0.mono ((l1.trans l2).hid R0.po)) (q1.mono (l2.hid R1.po))
    exact ⟨by rw [q1.length]; exact e1, by rw [q2.length]; exact e2, O, _, C m2, X m2, R2.dom, q1'.pick q2 ok, c, fun d v H' c' l' q' => k m2 d v H' c' (R2.up l') (((l0.trans l1).trans l2).trans l'.x) q', fun e cls d H' x l' q' => hX O σ m2 H' e cls d x (R2.up l') q'⟩
theorem XN.km {W : WpN} {Ca : Addr} {x : Str} (ok : tm.all (pkOk n nk) = true) (h : XE z to g m fun m0 d0 => IsIns Ca x d0 ∧ XA z t g m0 fun m1 ds => XA z tk g m1 fun m2 es => ds.length + 1 = n ∧ es.length = nk ∧ W (pickD tm (d0 :: ds) es) (CL m2)) : XN z (tKm Ca x (spN W) n nk tm E to t tk) g m CL := fun O σ H R Q k =>
  h O σ H R _ fun m0 d0 v0 H0 ⟨hi, c0⟩ R0 l0 q0 => by
    obtain ⟨a, dx, fs, ev, ha, hl⟩ := hi.get q0
    refine ⟨a, dx, fs, ev, ha, hl, c0 O σ H0 R0 _ fun m1 ds vs H1 c1 R1 l1 q1 => c1 O σ H1 R1 _ fun m2 es zs H2 ⟨e1, e2, c⟩ R2 l2 q2 => ?_⟩
    have q1' := RpL.cons (q0.mono ((l1.trans l2).hid R0.po)) (q1.mono (l2.hid R1.po))
    refine ⟨by rw [q1.length]; exact e1, by rw [q2.length]; exact e2, O, _, CL m2, R2.dom, q1'.pick q2 ok, c, fun es p H' c' l' hp f => ?_⟩
    have no : p ∉ O := fun q => by obtain ⟨o, ho⟩ := R2.dom p q; rw [hp] at ho; cases ho
    have nP : p ∉ z.P := fun q => no (R2.po p q)
    have z0 : ∀ {B : Hp}, LeX z.P B H2 → B p = none := fun {B} l => by
      cases q : B p with
      | none => rfl
      | some o => obtain ⟨o', ho⟩ := (l p o nP q).get; rw [hp] at ho; cases ho
    exact k m2 es p H' c' (R2.up l') (((l0.trans l1).trans l2).trans l'.x) ⟨no, z0 R2.le, z0 ((l0.trans l1).trans l2), f⟩
/-- o.f, a field -/
theorem XE.fld {K : PySem.W.Frag} {Ca : Addr} {f : Str} (cl : Cls K Ca) (na : NoAttr K Ca f) (h : XE z to g m fun m1 d => ∃ fs x, d = .ins Ca fs ∧ fs.lookup f = some x ∧ C m1 x) : XE z (tFld K to f) g m C := fun O σ H R Q k =>
  h O σ H R _ fun m1 d v H1 ⟨fs, x, e, hl, c⟩ R1 l1 q1 => by
    subst e
    cases q1 with
    | ins ha rf n =>
      obtain ⟨u, hu, ru⟩ := rf.look hl
      exact ⟨_, Ca, _, _, u, rfl, (hid_some ha).2, cl, na, hu, k m1 x u H1 c R1 l1 ru⟩
end
end My

namespace My
open PySem PySem.Spec PyProof.Rows L2
open C8 (Cal pe_c pe_gc)
/-! ### single steps, for going through a text by one tactic -/
theorem go_I0 {f : Int → Int → V} {i j : Int} {C : Dat → Prop} (c : C (vd (f i j))) : dI0 f (.int i) (.int j) C := ⟨i, j, rfl, rfl, c⟩
theorem go_I {cd : Int → Int → Prop} {f : Int → Int → V} {i j : Int} {C : Dat → Prop} (hc : cd i j) (c : C (vd (f i j))) : dI cd f (.int i) (.int j) C := ⟨i, j, rfl, rfl, hc, c⟩
theorem go_ix {ds : List Dat} {j : Int} {x : Dat} {C : Dat → Prop} (h : atI ds j = some x) (c : C x) : dIx (.lst ds) (.int j) C := ⟨ds, j, x, rfl, rfl, h, c⟩
theorem go_ixT {ds : List Dat} {j : Int} {x : Dat} {C : Dat → Prop} (h : atI ds j = some x) (c : C x) : dIxT (.tup ds) (.int j) C := ⟨ds, j, x, rfl, rfl, h, c⟩
theorem go_eq {d e : Dat} {C : Dat → Prop} (h1 : isSc d = true) (h2 : isSc e = true) (h3 : scal (dv d) (dv e) = true) (c : C (.bl (eqS d e))) : dEq d e C := ⟨h1, h2, h3, c⟩
theorem go_ne {d e : Dat} {C : Dat → Prop} (h1 : isSc d = true) (h2 : isSc e = true) (h3 : scal (dv d) (dv e) = true) (c : C (.bl (!eqS d e))) : dNe d e C := ⟨h1, h2, h3, c⟩
theorem go_eqD {d e : Dat} {C : Dat → Prop} (h1 : Cmp d) (h2 : Cmp e) (c : C (.bl (eqD d e))) : dEqD d e C := ⟨h1, h2, c⟩
theorem go_neD {d e : Dat} {C : Dat → Prop} (h1 : Cmp d) (h2 : Cmp e) (c : C (.bl (!eqD d e))) : dNeD d e C := ⟨h1, h2, c⟩
theorem go_cat {xs ys : List Dat} {C : List Dat → Prop} (h : xs.length + ys.length ≤ 1000) (c : C (xs ++ ys)) : dCat (.lst xs) (.lst ys) C := ⟨xs, ys, rfl, rfl, h, c⟩
theorem go_rep {xs : List Dat} {k : Int} {C : List Dat → Prop} (h1 : -(2 ^ 63) ≤ k) (h2 : k < 2 ^ 63) (h : xs.length * k.toNat ≤ 1000) (c : C (List.replicate k.toNat xs).flatten) : dRep (.lst xs) (.int k) C := ⟨xs, k, rfl, rfl, h1, h2, h, c⟩
theorem go_un {f : Int → V} {i : Int} {C : Dat → Prop} (c : C (vd (f i))) : dUn f (.int i) C := ⟨i, rfl, c⟩
theorem go_int {i : Int} {C : Int → Prop} (c : C i) : dInt (.int i) C := ⟨i, rfl, c⟩
theorem go_lst {ds : List Dat} {C : List Dat → Prop} (c : C ds) : dLst (.lst ds) C := ⟨ds, rfl, c⟩
theorem go_tup {ds : List Dat} {C : List Dat → Prop} (c : C ds) : dTup (.tup ds) C := ⟨ds, rfl, c⟩
theorem go_str {x : Str} {C : Str → Prop} (c : C x) : dStr (.str x) C := ⟨x, rfl, c⟩
theorem go_bl {b : Bool} {C : Bool → Prop} (c : C b) : dBl (.bl b) C := ⟨b, rfl, c⟩
theorem go_ixO {ds : List Dat} {j : Int} {x : Dat} {C : Dat → Prop} (h : atI ds j = some x) (c : C x) : dIxO ds (.int j) C := ⟨j, x, rfl, h, c⟩
theorem go_put {n j : Nat} {k : Int} {C : Nat → Prop} (h : ixN n k = some j) (c : C j) : dPut n (.int k) C := ⟨k, j, rfl, h, c⟩
theorem go_ext {n : Nat} {es : List Dat} {C : List Dat → Prop} (h : n + es.length ≤ 1000) (c : C es) : dExt n (.lst es) C := by unfold dExt; exact ⟨es, rfl, h, c⟩
theorem go_app {n : Nat} {d : Dat} {C : Dat → Prop} (h : n ≤ 1000) (c : C d) : dApp n [d] C := ⟨d, rfl, h, c⟩
theorem go_rg1 {j : Int} {C : Int → Prop} (h : -(2 ^ 62) ≤ j ∧ j < 2 ^ 62) (c : C j) : dRg1 [.int j] C := ⟨j, rfl, h.1, h.2, c⟩
theorem go_rg2 {i j : Int} {C : Int → Int → Prop} (h : -(2 ^ 62) ≤ i ∧ i < 2 ^ 62 ∧ -(2 ^ 62) ≤ j ∧ j < 2 ^ 62) (c : C i j) : dRg2 [.int i, .int j] C := ⟨i, j, rfl, h, c⟩
theorem go_rg3 {i j c : Int} {n : Nat} {C : Int → Int → Nat → Prop} (h : RgC i j c n) (q : C i c n) : dRg3 [.int i, .int j, .int c] C := ⟨i, j, c, n, rfl, h, q⟩
theorem go_enum {ds : List Dat} {C : List Dat → Prop} (c : C ds) : dEnum [.lst ds] C := ⟨ds, rfl, c⟩
theorem go_zip {ds es : List Dat} {C : List Dat → List Dat → Prop} (c : C ds es) : dZip [.lst ds, .lst es] C := ⟨ds, es, rfl, c⟩
theorem go_zipS {ds es : List Dat} {C : List Dat → List Dat → Prop} (h : ds.length = es.length) (c : C ds es) : dZipS [.lst ds, .lst es] C := ⟨ds, es, rfl, h, c⟩
theorem go_len {ds : List Dat} {q : Prop} (h : Nat.ble ds.length 1000 = true) (c : q) : ds.length ≤ 1000 ∧ q := ⟨Nat.le_of_ble_eq_true h, c⟩
section
variable {z : Cz} {g : List Sl} {m : Nat} {C : Nat → Dat → Prop} {CL : Nat → List Dat → Prop} {CT : Nat → Bool → Prop} {t ta tb tc te : TE} {tr : TA} {tt tu : TT} {ts us : TS} {E : DE} {wi : TI} {gt : TG} {K : PySem.W.Frag}
/-- a loop, turn by turn -/
def XFor0 (z : Cz) (gt : TG) (ts : TS) (E : DE) : List Dat → List Sl → Nat → Prop
  | [], g, m => E.nx g m
  | d :: ds, g, m => XG z (List.range 64) gt d g fun g3 => XS z ts g3 m { E with nx := XFor0 z gt ts E ds, ct := XFor0 z gt ts E ds, bk := E.nx }
@[irreducible] def XFor (z : Cz) (gt : TG) (ts : TS) (E : DE) : List Dat → List Sl → Nat → Prop := XFor0 z gt ts E
theorem XFor_e : XFor z gt ts E = XFor0 z gt ts E := by delta XFor; rfl
theorem XFor.at {ds : List Dat} {i : Nat} {d : Dat} (h : ds[i]? = some d) : XFor z gt ts E (ds.drop i) g m ↔ XG z (List.range 64) gt d g fun g3 => XS z ts g3 m { E with nx := XFor z gt ts E (ds.drop (i + 1)), ct := XFor z gt ts E (ds.drop (i + 1)), bk := E.nx } := by
  obtain ⟨hl, e⟩ := List.getElem?_eq_some_iff.mp h
  rw [XFor_e, List.drop_eq_getElem_cons hl, e]
  exact Iff.rfl
theorem XS.forU (h : XI z wi g m fun m1 ds => XFor z gt ts E ds g m1) : XS z (tFor wi gt ts) g m E := XS.for fun O σ H R Q k => h O σ H R Q fun m1 ds J H1 c R1 l1 w =>
  k m1 ds J H1 ⟨fun i g2 m2 => XFor z gt ts E (ds.drop i) g2 m2, c, fun i d g2 m2 hi hI => XFor.at hi |>.mp hI, fun g2 m2 hI => by
    have hI : XFor z gt ts E (ds.drop ds.length) g2 m2 := hI
    rw [List.drop_length, XFor_e] at hI
    exact hI⟩ R1 l1 w
theorem XFor.nil (c : E.nx g m) : XFor z gt ts E [] g m := by rw [XFor_e]; exact c
theorem XFor.cons {d : Dat} {ds : List Dat} (h : XG z (List.range 64) gt d g fun g3 => XS z ts g3 m { E with nx := XFor z gt ts E ds, ct := XFor z gt ts E ds, bk := E.nx }) : XFor z gt ts E (d :: ds) g m := by
  rw [XFor_e] at h ⊢
  exact h
theorem XE.cmp {r : R2} {rd : Dat → Dat → (Dat → Prop) → Prop} (hr : DR2 r rd) (h : XE z ta g m fun m1 d1 => XE z tb g m1 fun m2 d2 => rd d1 d2 (C m2)) : XE z (tOp r ta tb) g m C := XE.op hr h
theorem XG.tupG {n : Nat} {gs : TGs} {ds : List Dat} {vs : List Nat} {k : List Sl → Prop} (hn : ds.length = n) (h : XGs z vs gs ds g k) : XG z vs (gTup K n gs) (.tup ds) g k := XG.tup ⟨ds, rfl, hn, h⟩
theorem XG.unlG {n : Nat} {gs : TGs} {ds : List Dat} {vs : List Nat} {k : List Sl → Prop} (hn : ds.length = n) (h : XGs z vs gs ds g k) : XG z vs (gUnl K n gs) (.lst ds) g k := XG.unl ⟨ds, rfl, hn, h⟩
def dLen (d : Dat) (C : Dat → Prop) : Prop := ∃ xs, seqOf d = some xs ∧ C (.int xs.length)
theorem XE.len1 (h : XE z ta g m fun m1 d => dLen d (C m1)) : XE z (tCB (fun xs H Q => ∃ p ys, xs = [.ref p] ∧ (SqL K H p ys ∨ SqT K H p ys) ∧ Q (.int ys.length) H) (tCons ta tNil)) g m C := XE.cb db_len (XA.cons fun O σ H R Q k => h O σ H R Q fun m1 d v H1 ⟨xs, e, c⟩ R1 l1 q1 => k m1 d v H1 (XA.nil ⟨d, xs, rfl, e, c⟩) R1 l1 q1)
theorem go_len1 {d : Dat} {xs : List Dat} {C : Dat → Prop} (h : seqOf d = some xs) (c : C (.int xs.length)) : dLen d C := ⟨xs, h, c⟩
theorem XE.len (h : XA z tr g m fun m1 ds => ∃ d xs, ds = [d] ∧ seqOf d = some xs ∧ C m1 (.int xs.length)) : XE z (tCB (fun xs H Q => ∃ p ys, xs = [.ref p] ∧ (SqL K H p ys ∨ SqT K H p ys) ∧ Q (.int ys.length) H) tr) g m C := XE.cb db_len h
/-- a list by its turns: each item gives one -/
theorem XN.map {vs : List Nat} (h : XI z wi g m fun m1 ds => ∃ f : Dat → Dat, ds.length ≤ 1000 ∧ (∀ d, d ∈ ds → XG z vs gt d (wipeG g vs) fun g3 => XE z te g3 m1 fun m4 y => m4 = m1 ∧ y = f d) ∧ CL m1 (ds.map f)) : XN z (tLc wi gt tYes te vs) g m CL := XN.lc fun O σ H R Q k => h O σ H R Q fun m1 ds J H1 ⟨f, hl, hb, c⟩ R1 l1 w =>
  k m1 ds J H1 ⟨fun i acc m2 => acc = (ds.take i).map f ∧ m2 = m1, ⟨rfl, rfl⟩, fun i d acc m2 hi ⟨e1, e2⟩ => by
    subst e1 e2
    have hd : d ∈ ds := List.mem_of_getElem? hi
    intro O m σ H v R q R' k'
    refine hb d hd O m σ H v R q R' fun g' σ' c' R'' w' => k' g' σ' (XT.yes ?_) R'' w'
    rw [if_pos rfl]
    intro O σ H R Q k
    refine c' O σ H R Q fun m' y v H' ⟨e1, e2⟩ => k m' y v H' ⟨?_, ?_, e1⟩
    · rw [List.length_map, List.length_take]; omega
    · rw [e2, take_more hi, List.map_append]; rfl, fun acc m2 ⟨e1, e2⟩ => by
    subst e1 e2
    rw [List.take_of_length_le (Nat.le_refl _)]
    exact c⟩ R1 l1 w
/-- a list by its turns, what it is known -/
theorem XN.to {vs : List Nat} (h : XI z wi g m fun m1 ds => ∃ out : List Dat, ds.length = out.length ∧ ds.length ≤ 1000 ∧ (∀ (i : Nat) (d o : Dat), ds[i]? = some d → out[i]? = some o → XG z vs gt d (wipeG g vs) fun g3 => XE z te g3 m1 fun m4 y => m4 = m1 ∧ y = o) ∧ CL m1 out) : XN z (tLc wi gt tYes te vs) g m CL := XN.lc fun O σ H R Q k => h O σ H R Q fun m1 ds J H1 ⟨out, hl, h1, hb, c⟩ R1 l1 w =>
  k m1 ds J H1 ⟨fun i acc m2 => acc = out.take i ∧ m2 = m1, ⟨rfl, rfl⟩, fun i d acc m2 hi ⟨e1, e2⟩ => by
    subst e1 e2
    have hlt : i < out.length := by rw [← hl]; exact (List.getElem?_eq_some_iff.mp hi).1
    have ho := List.getElem?_eq_getElem hlt
    intro O m σ H v R q R' k'
    refine hb i d _ hi ho O m σ H v R q R' fun g' σ' c' R'' w' => k' g' σ' (XT.yes ?_) R'' w'
    rw [if_pos rfl]
    intro O σ H R Q k
    refine c' O σ H R Q fun m' y v H' ⟨e1, e2⟩ => k m' y v H' ⟨?_, ?_, e1⟩
    · rw [List.length_take]; omega
    · rw [e2, take_more ho], fun acc m2 ⟨e1, e2⟩ => by
    subst e1 e2
    rw [hl, List.take_of_length_le (Nat.le_refl _)]
    exact c⟩ R1 l1 w
end
/-! ### classes with their own __len__, __eq__ -/
/-- a special method, called by what is built in -/
structure SpM (P : Program) (w : World) (K : PySem.W.Frag) (mg : Str → Option Value) (base : Heap) (k : Nat) (C : Addr) (name : Str) (sp : Sp) : Prop where
  ex : ∃ (f : Addr) (fd : FuncData) (ps : List Str), FnOk P w K mg base CX0 k f fd ps sp ∧ Spc K C f name ∧ Binds K fd ps []
structure SpE (P : Program) (w : World) (K : PySem.W.Frag) (mg : Str → Option Value) (base : Heap) (k : Nat) (C : Addr) (sp : Sp) : Prop where
  ex : ∃ (f : Addr) (fd : FuncData) (ps : List Str), FnOk P w K mg base CX0 k f fd ps sp ∧ Spc K C f "__eq__" ∧ Binds K fd ps [] ∧ OwnE K C f
section
variable {X : Cx} {C : Addr} {sp : Sp} {k j : Nat}
theorem call_lenS (c : SpM X.prog X.w X.K X.mg X.base k C "__len__" sp) (hr : Room j X.A) (hk : k + 1 ≤ j) : CallR X (.builtin "len") (rLenO C sp E0) := by
  obtain ⟨f, fd, ps, F, s, b⟩ := c.ex
  exact call_lenO F s b pass0 hr hk
theorem op_eqS (c : SpE X.prog X.w X.K X.mg X.base k C sp) (hr : Room j X.A) (hk : k ≤ j) : OpR X (compareOp .Eq) (rEqO C sp E0) := by
  obtain ⟨f, fd, ps, F, s, b, _⟩ := c.ex
  exact op_eqO F s b pass0 hr hk
theorem op_neS (c : SpE X.prog X.w X.K X.mg X.base k C sp) (hr : Room j X.A) (hk : k + 1 ≤ j) : OpR X (compareOp .NotEq) (rNeO C sp E0) := by
  obtain ⟨f, fd, ps, F, s, b, o⟩ := c.ex
  exact op_neO F o b pass0 hr hk
end
theorem ins_at {O : List Addr} {H : Hp} {v : V} {C : Addr} {fs : List (Str × Dat)} (r : Rp (hid O H) v (.ins C fs)) : ∃ a dx gs, v = .ref a ∧ H a = some (.ins C dx gs) := by
  cases r with
  | ins h _ _ => exact ⟨_, _, _, rfl, (hid_some h).2⟩
theorem db_lenO {C : Addr} {W : WpD} {E : XK} : DCB (rLenO C (spD W) E) (fun ds k => ∃ d fs, ds = [d] ∧ d = .ins C fs ∧ W [d] fun r => ∃ n : Int, r = .int n ∧ 0 ≤ n ∧ n < 2 ^ 63 ∧ k (.int n)) := fun O H xs ds k Q hd r ⟨d, fs, e1, e2, w⟩ c => by
  subst e1 e2
  cases r with
  | cons r t =>
    cases t
    obtain ⟨a, dx, gs, rfl, ha⟩ := ins_at r
    refine ⟨a, dx, gs, rfl, ha, O, _, _, hd, .cons r .nil, w, fun d v H' ⟨n, e, h0, h1, q⟩ l q' => ?_⟩
    subst e; cases q'
    exact ⟨n, rfl, h0, h1, c _ _ H' q l (.int n)⟩
theorem dr_eqO {C : Addr} {W : WpD} {E : XK} : DR2 (rEqO C (spD W) E) (fun d e k => ∃ fs gs, d = .ins C fs ∧ e = .ins C gs ∧ W [d, e] fun r => ∃ b : Bool, r = .bl b ∧ k (.bl b)) := fun O H x y d e k Q hd rx ry ⟨fs, gs, e1, e2, w⟩ c => by
  subst e1 e2
  obtain ⟨a, dx, us, rfl, ha⟩ := ins_at rx
  obtain ⟨b, dy, ws, rfl, hb⟩ := ins_at ry
  refine ⟨a, b, dx, dy, us, ws, rfl, rfl, ha, hb, O, _, _, hd, .cons rx (.cons ry .nil), w, fun d v H' ⟨n, e, q⟩ l q' => ?_⟩
  subst e; cases q'
  exact ⟨n, rfl, c _ _ H' q l (.bl n)⟩
theorem dr_neO {C : Addr} {W : WpD} {E : XK} : DR2 (rNeO C (spD W) E) (fun d e k => ∃ fs gs, d = .ins C fs ∧ e = .ins C gs ∧ W [d, e] fun r => ∃ b : Bool, r = .bl b ∧ k (.bl (!b))) := fun O H x y d e k Q hd rx ry ⟨fs, gs, e1, e2, w⟩ c => by
  subst e1 e2
  obtain ⟨a, dx, us, rfl, ha⟩ := ins_at rx
  obtain ⟨b, dy, ws, rfl, hb⟩ := ins_at ry
  refine ⟨a, b, dx, dy, us, ws, rfl, rfl, ha, hb, O, _, _, hd, .cons rx (.cons ry .nil), w, fun d v H' ⟨n, e, q⟩ l q' => ?_⟩
  subst e; cases q'
  exact ⟨n, rfl, c _ _ H' q l (.bl _)⟩
end My

namespace My
open PySem PySem.Spec PyProof.Rows L2
open C8 (Cal pe_c pe_gc)
/-! ### fields, methods, classes: single steps -/
abbrev rListOf (K : PySem.W.Frag) : List V → Hp → VK → Prop := fun xs H Q => ∃ p ys, xs = [.ref p] ∧ (SqL K H p ys ∨ SqT K H p ys) ∧ ∀ l, H l = none → Q (.ref l) (upd H l (.lst ys))
def tyN : Dat → Option String
  | .non => some "NoneType"
  | .bl _ => some "bool"
  | .int _ => some "int"
  | .str _ => some "str"
  | .lst _ => some "list"
  | .tup _ => some "tuple"
  | _ => none
theorem rp_tyX {K : PySem.W.Frag} {O : List Addr} {H : Hp} {v : V} {d : Dat} {a : String} (r : Rp (hid O H) v d) (h : tyN d = some a) : TyX K H v (.type a) := by
  cases r with
  | non => cases h; exact .base .non
  | bl b => cases h; exact .base (.bl b)
  | int i => cases h; exact .base (.int i)
  | str x => cases h; exact .base (.str x)
  | lst e r => cases h; exact .base (.lst (hid_some e).2)
  | tup e r => cases h; exact .base (.tup (hid_some e).2)
  | ins _ _ _ => cases h
  | exc0 _ => cases h
  | exc1 _ _ _ => cases h
section
variable {z : Cz} {g : List Sl} {m n nk : Nat} {C : Nat → Dat → Prop} {CL : Nat → List Dat → Prop} {t tk : TA} {ta to : TE} {tm : List Pk} {E : L2.St → XK} {K : PySem.W.Frag}
theorem XE.isTy {n : String} (h : XE z ta g m fun m1 d => ∃ a b, tyN d = some a ∧ kitB a n = some b ∧ C m1 (.bl b)) : XE z (tCB (rIsi K) (tCons ta (tCons (tC (.ty n)) tNil))) g m C := fun O σ H R Q k =>
  h O σ H R _ fun m1 d v H1 ⟨a, b, e, kb, c⟩ R1 l1 q1 => ⟨v, .ty n, .type a, .type n, b, rfl, .ty n, rp_tyX q1 e, kit_ty kb, k m1 _ _ H1 c R1 l1 (.bl b)⟩
theorem XE.isC {Ca : Addr} (h : XE z ta g m fun m1 d => ∃ fs, d = .ins Ca fs ∧ C m1 (.bl true)) : XE z (tCB (fun xs H Q => ∃ a dx fs, xs = [.ref a, .ref Ca] ∧ H a = some (.ins Ca dx fs) ∧ Q (.bl true) H) (tCons ta (tCons (tC (.ref Ca)) tNil))) g m C := fun O σ H R Q k =>
  h O σ H R _ fun m1 d v H1 ⟨fs, e, c⟩ R1 l1 q1 => by
    subst e
    obtain ⟨a, dx, gs, rfl, ha⟩ := ins_at q1
    exact ⟨a, dx, gs, rfl, ha, k m1 _ _ H1 c R1 l1 (.bl true)⟩
theorem XE.kmX0 {W : WpX} {Ca : Addr} {x : Str} (ok : tm.all (pkOk n nk) = true) (h : XE z to g m fun m0 d0 => IsIns Ca x d0 ∧ XA z t g m0 fun m1 ds => XA z tk g m1 fun m2 es => ds.length + 1 = n ∧ es.length = nk ∧ W (pickD tm (d0 :: ds) es) (C m2) fun _ => False) : XE z (tKm Ca x (spX W) n nk tm E to t tk) g m C :=
  XE.kmX (X := fun _ _ => False) ok (fun _ _ _ _ _ _ _ x _ _ => x.elim) h
theorem XE.kcX0 {W : WpX} (ok : tm.all (pkOk n nk) = true) (h : XA z t g m fun m1 ds => XA z tk g m1 fun m2 es => ds.length = n ∧ es.length = nk ∧ W (pickD tm ds es) (C m2) fun _ => False) : XE z (tKc (spX W) n nk tm E t tk) g m C :=
  XE.kcX (X := fun _ _ => False) ok (fun _ _ _ _ _ _ _ x _ _ => x.elim) h
theorem XS.rai {F : Hp → Prop} {D : DE} (h : ∀ O σ H, Real z O g m σ H → F H) : XS z (fun _ _ H => F H) g m D := fun O σ H R _ _ => h O σ H R
/-- a compare with an own list -/
theorem XE.neDO {i : Nat} {ds : List Dat} (hg : g[i]? = some (.ow ds)) (h : XE z ta g m fun m1 d1 => Cmp d1 ∧ Cmp (.lst ds) ∧ C m1 (.bl (!eqD d1 (.lst ds)))) : XE z (tOp (rNeD K) ta (tVar i)) g m C := fun O σ H R Q k =>
  h O σ H R _ fun m1 d1 x H1 ⟨c1, c2, c⟩ R1 l1 q1 => by
    obtain ⟨p, vs, e, po, pG, hp, q⟩ := R1.sl i _ hg
    exact ⟨_, e, toP d1, toP (.lst ds), q1.dp c1.p, .lst (SqL.of hp) (q.dp (by simpa [plain] using c2.p)), c1.s, c2.s, k m1 _ _ H1 c R1 l1 (.bl _)⟩
theorem XE.eqDO {i : Nat} {ds : List Dat} (hg : g[i]? = some (.ow ds)) (h : XE z ta g m fun m1 d1 => Cmp d1 ∧ Cmp (.lst ds) ∧ C m1 (.bl (eqD d1 (.lst ds)))) : XE z (tOp (rEqD K) ta (tVar i)) g m C := fun O σ H R Q k =>
  h O σ H R _ fun m1 d1 x H1 ⟨c1, c2, c⟩ R1 l1 q1 => by
    obtain ⟨p, vs, e, po, pG, hp, q⟩ := R1.sl i _ hg
    exact ⟨_, e, toP d1, toP (.lst ds), q1.dp c1.p, .lst (SqL.of hp) (q.dp (by simpa [plain] using c2.p)), c1.s, c2.s, k m1 _ _ H1 c R1 l1 (.bl _)⟩
end
theorem go_fld {Ca : Addr} {gs : List (Str × Dat)} {f : Str} {x : Dat} {q : Dat → Prop} (h : gs.lookup f = some x) (c : q x) : ∃ fs y, Dat.ins Ca gs = .ins Ca fs ∧ fs.lookup f = some y ∧ q y := ⟨gs, x, rfl, h, c⟩
theorem go_ins {Ca : Addr} {gs : List (Str × Dat)} {x : Str} {q : Prop} (h1 : cachF x = false) (h2 : gs.lookup x = none) (c : q) : IsIns Ca x (.ins Ca gs) ∧ q := ⟨⟨gs, rfl, h1, h2⟩, c⟩
theorem go_kc {a b n k : Nat} {q : Prop} (h1 : a = n) (h2 : b = k) (c : q) : a = n ∧ b = k ∧ q := ⟨h1, h2, c⟩
theorem go_isC {Ca : Addr} {gs : List (Str × Dat)} {q : Prop} (c : q) : ∃ fs, Dat.ins Ca gs = .ins Ca fs ∧ q := ⟨gs, rfl, c⟩
theorem go_isTy {d : Dat} {n a : String} {b : Bool} {q : Bool → Prop} (h1 : tyN d = some a) (h2 : kitB a n = some b) (c : q b) : ∃ a b, tyN d = some a ∧ kitB a n = some b ∧ q b := ⟨a, b, h1, h2, c⟩
theorem kb_int_int : kitB "int" "int" = some true := by decide +kernel
theorem kb_int_bool : kitB "int" "bool" = some false := by decide +kernel
theorem kb_bool_int : kitB "bool" "int" = some true := by decide +kernel
theorem kb_bool_bool : kitB "bool" "bool" = some true := by decide +kernel
theorem kb_str_str : kitB "str" "str" = some true := by decide +kernel
theorem kb_list_list : kitB "list" "list" = some true := by decide +kernel
theorem kb_tuple_tuple : kitB "tuple" "tuple" = some true := by decide +kernel
theorem kb_tuple_list : kitB "tuple" "list" = some false := by decide +kernel
theorem kb_list_tuple : kitB "list" "tuple" = some false := by decide +kernel
theorem kb_NoneType_list : kitB "NoneType" "list" = some false := by decide +kernel
theorem kb_NoneType_int : kitB "NoneType" "int" = some false := by decide +kernel
theorem kb_str_int : kitB "str" "int" = some false := by decide +kernel
theorem kb_int_list : kitB "int" "list" = some false := by decide +kernel
theorem kb_int_tuple : kitB "int" "tuple" = some false := by decide +kernel
theorem kb_NoneType_tuple : kitB "NoneType" "tuple" = some false := by decide +kernel
theorem kb_list_int : kitB "list" "int" = some false := by decide +kernel
theorem kb_tuple_int : kitB "tuple" "int" = some false := by decide +kernel
theorem kb_str_bool : kitB "str" "bool" = some false := by decide +kernel
end My

/-! ### exceptions as data: made, asked of, their fields -/
namespace My
open PySem PySem.Spec PyProof.Rows L2
section
variable {z : Cz} {g : List Sl} {m : Nat} {C : Nat → Dat → Prop} {t ta te to : TE} {tr : TA} {K : PySem.W.Frag} {Cc : Addr} {kn : Str}
theorem real_not {O : List Addr} {σ : L2.St} {H : Hp} (R : Real z O g m σ H) {a : Addr} (h : H a = none) : a ∉ O := fun q => by
  obtain ⟨o, ho⟩ := R.dom a q
  rw [h] at ho; cases ho
theorem newE_data {O : List Addr} {σ : L2.St} {H : Hp} {dv : V} {dd : Dat} {Q : VK} (hk : cachF kn = false) (R : Real z O g m σ H) (r : Rp (hid O H) dv dd)
    (k : ∀ m' d v H', C m' d → Real z O g m' σ H' → LeX z.P H H' → Rp (hid O H') v d → Q v H') (c : C m (.exc Cc [(kn, dd)])) : tNewE Cc kn dv H Q := fun a d H' s ha hd ne h1 h2 => by
  have l := Le.of s
  refine k m _ _ H' c (R.up l) l.x (.exc1 (by rw [hid_out (real_not R ha)]; exact h1) (by rw [hid_out (real_not R hd)]; exact h2) (.cons hk ?_ (r.mono l.hid) .nil))
  rw [lookup_put, if_pos rfl]
theorem XE.new0 {dv : V} {dd : Dat} (hk : cachF kn = false) (hd : ∀ H, Rp H dv dd) (c : C m (.exc Cc [(kn, dd)])) : XE z (fun _ H Q => tNewE Cc kn dv H Q) g m C := fun O σ H R Q k => newE_data hk R (hd _) k c
theorem XE.newA (hk : cachF kn = false) (h : XA z tr g m fun m1 ds => ∃ dd, ds = [dd] ∧ C m1 (.exc Cc [(kn, dd)])) : XE z (fun σ H Q => tr σ H fun vs H1 => ∃ z, vs = [z] ∧ tNewE Cc kn z H1 Q) g m C := fun O σ H R Q k =>
  h O σ H R _ fun m1 ds vs H1 ⟨dd, e, c⟩ R1 l1 q1 => by
    subst e
    cases q1 with
    | cons r t =>
      cases t
      exact ⟨_, rfl, newE_data hk R1 r (fun m' d v H' c' R' l' q' => k m' d v H' c' R' (l1.trans l') q') c⟩
theorem XE.newP (c : C m (.exc Cc [])) : XE z (fun _ H Q => ∀ a, H a = none → Q (.ref a) (upd H a (ExV (.ref Cc) none a))) g m C := fun O σ H R Q k a ha => by
  have l : Le H (upd H a (ExV (.ref Cc) none a)) := .new ha
  exact k m _ _ _ c (R.up l) l.x (.exc0 (by rw [hid_out (real_not R ha)]; exact upd_same))
theorem exc_kept {O : List Addr} {H : Hp} {v : V} {fs : List (Str × Dat)} (r : Rp (hid O H) v (.exc Cc fs)) : ∃ a d, v = .ref a ∧ Kept H a Cc d := by
  cases r with
  | exc0 h => exact ⟨_, _, rfl, (hid_some h).2, .inl rfl⟩
  | exc1 h h2 _ => exact ⟨_, _, rfl, (hid_some h).2, .inr ⟨_, _, rfl, (hid_some h2).2⟩⟩
theorem XE.isE {w : V} {u : Value} (hc : ClsV w u) (h : XE z ta g m fun m1 d => ∃ (D : Addr) (fs : List (Str × Dat)) (b : Bool), d = .exc D fs ∧ ExcC K D ∧ PySem.W.kitOne K (.ref D) u = some b ∧ C m1 (.bl b)) :
    XE z (tCB (fun xs H Q => rIsi K xs H Q ∨ rIsK K xs H Q) (tCons ta (tCons (tC w) tNil))) g m C := fun O σ H R Q k => h O σ H R _ fun m1 d v H1 ⟨D, fs, b, e, x, kt, c⟩ R1 l1 q1 => by
  subst e
  obtain ⟨a, dd, rfl, hk⟩ := exc_kept q1
  exact .inr ⟨a, D, dd, w, u, b, rfl, hk, x, hc, kt, k m1 _ _ H1 c R1 l1 (.bl b)⟩
theorem XE.kf {f : Str} (h : XE z te g m fun m1 d => ∃ (D : Addr) (fs : List (Str × Dat)) (x : Dat), d = .exc D fs ∧ ExcC K D ∧ PySem.W.findIn K (.ref D) f = some none ∧ fs.lookup f = some x ∧ C m1 x) : XE z (tKFld K te f) g m C := fun O σ H R Q k =>
  h O σ H R _ fun m1 d v H1 ⟨D, fs, x, e, ex, no, hl, c⟩ R1 l1 q1 => by
    subst e
    cases q1 with
    | exc0 h1 => cases hl
    | exc1 h1 h2 rf =>
      obtain ⟨u, hu, ru⟩ := rf.look hl
      exact ⟨_, D, _, _, u, rfl, (hid_some h1).2, (hid_some h2).2, ex, no, hu, k m1 _ _ H1 c R1 l1 ru⟩
/-- x[lo:hi] of a text -/
theorem XE.slS {tl th : TO} (h : XE z ta g m fun m1 d => XO z tl g m1 fun m2 lo => XO z th g m2 fun m3 hi => ∃ x : Str, d = .str x ∧ x.length ≤ sizeLine ∧ C m3 (.str (cutS x lo hi))) : XE z (tSl rSlS ta tl th) g m C := fun O σ H R Q k =>
  h O σ H R _ fun m1 d v H1 c1 R1 l1 q1 => c1 O σ H1 R1 _ fun m2 lo H2 c2 R2 l2 => c2 O σ H2 R2 _ fun m3 hi H3 ⟨x, e, hl, c⟩ R3 l3 => by
    subst e
    cases q1
    exact ⟨x, rfl, hl, k m3 _ _ H3 c R3 ((l1.trans l2).trans l3) (.str _)⟩
end
/-! the classes of the errors, by their places -/
def clsK (c : Cs) : Nat → Addr
  | 0 => c.NoPoly | 1 => c.NoMove | 2 => c.NoHouse | 3 => c.NoLetter | 4 => c.NoCount | 5 => c.NoWord | 6 => c.Full | 7 => c.NoDeed | 8 => c.NoText | 9 => c.NoLine | 10 => c.NoOver | 11 => c.NoName | 12 => c.Twice | 13 => c.NoNumber | _ => c.RootError
def subK (i j : Nat) : Bool := i == j || (j == 14 && i < 10)
structure KO (K : PySem.W.Frag) (c : Cs) : Prop where
  kit : ∀ i, i < 15 → ∀ j, j < 15 → PySem.W.kitOne K (.ref (clsK c i)) (.ref (clsK c j)) = some (subK i j)
  ve : ∀ i, i < 15 → PySem.W.kitOne K (.ref (clsK c i)) (.type "ValueError") = some (i < 10 || 11 < i)
  ze : ∀ i, i < 15 → PySem.W.kitOne K (.ref (clsK c i)) (.type "ZeroDivisionError") = some (i == 10)
  ke : ∀ i, i < 15 → PySem.W.kitOne K (.ref (clsK c i)) (.type "KeyError") = some (i == 11)
  ex : ∀ i, i < 15 → ExcC K (clsK c i)
end My

namespace My
open PySem PySem.Spec PyProof.Rows L2
open C8 (Cal pe_c pe_gc)
/-- the classes without own __init__ -/
structure PlainOk (K : PySem.W.Frag) (c : Cs) : Prop where
  x_NoHouse : PySem.W.excIn K c.NoHouse [.type "ValueError", .type "Exception", .type "BaseException", .type "object"] "ValueError.__new__" = true
  x_NoLetter : PySem.W.excIn K c.NoLetter [.type "ValueError", .type "Exception", .type "BaseException", .type "object"] "ValueError.__new__" = true
  x_NoCount : PySem.W.excIn K c.NoCount [.type "ValueError", .type "Exception", .type "BaseException", .type "object"] "ValueError.__new__" = true
  x_NoWord : PySem.W.excIn K c.NoWord [.type "ValueError", .type "Exception", .type "BaseException", .type "object"] "ValueError.__new__" = true
  x_Full : PySem.W.excIn K c.Full [.type "ValueError", .type "Exception", .type "BaseException", .type "object"] "ValueError.__new__" = true
  x_NoDeed : PySem.W.excIn K c.NoDeed [.type "ValueError", .type "Exception", .type "BaseException", .type "object"] "ValueError.__new__" = true
  x_NoText : PySem.W.excIn K c.NoText [.type "ValueError", .type "Exception", .type "BaseException", .type "object"] "ValueError.__new__" = true
  x_NoLine : PySem.W.excIn K c.NoLine [.type "ValueError", .type "Exception", .type "BaseException", .type "object"] "ValueError.__new__" = true
  x_NoNumber : PySem.W.excIn K c.NoNumber [.type "ValueError", .type "Exception", .type "BaseException", .type "object"] "ValueError.__new__" = true
  x_RootError : PySem.W.excIn K c.RootError [.type "ValueError", .type "Exception", .type "BaseException", .type "object"] "ValueError.__new__" = true
  x_NoOver : PySem.W.excIn K c.NoOver [.type "ZeroDivisionError", .type "ArithmeticError", .type "Exception", .type "BaseException", .type "object"] "ZeroDivisionError.__new__" = true
  k_NoHouse : PySem.W.keepIn K (.ref c.NoHouse) = true
  k_NoLetter : PySem.W.keepIn K (.ref c.NoLetter) = true
  k_NoCount : PySem.W.keepIn K (.ref c.NoCount) = true
  k_NoWord : PySem.W.keepIn K (.ref c.NoWord) = true
  k_Full : PySem.W.keepIn K (.ref c.Full) = true
  k_NoDeed : PySem.W.keepIn K (.ref c.NoDeed) = true
  k_NoText : PySem.W.keepIn K (.ref c.NoText) = true
  k_NoLine : PySem.W.keepIn K (.ref c.NoLine) = true
  k_NoNumber : PySem.W.keepIn K (.ref c.NoNumber) = true
  k_RootError : PySem.W.keepIn K (.ref c.RootError) = true
  k_NoOver : PySem.W.keepIn K (.ref c.NoOver) = true
  n_at : PySem.W.findIn K (.ref c.NoPoly) "at" = some none
  n_move : PySem.W.findIn K (.ref c.NoMove) "move" = some none
  n_name : PySem.W.findIn K (.ref c.NoName) "name" = some none
  n_twice : PySem.W.findIn K (.ref c.Twice) "name" = some none
def sortsD (i : Nat) : List Dat := [.bl (subK i 0), .bl (subK i 1), .bl (subK i 2), .bl (subK i 3), .bl (subK i 4), .bl (subK i 5), .bl (subK i 6), .bl (subK i 7), .bl (subK i 8), .bl (subK i 9), .bl (subK i 10), .bl (subK i 11), .bl (subK i 12), .bl (subK i 13)]
def kindsD (i : Nat) : List Dat := [.bl (subK i 14), .bl (i < 10 || 11 < i), .bl (i == 10), .bl (i == 11)]
def W_sorts (c : Cs) : WpD := fun ds C => ∃ (i : Nat) (fs : List (Str × Dat)), ds = [.exc (clsK c i) fs] ∧ i < 15 ∧ C (.lst (sortsD i))
def W_kinds (c : Cs) : WpD := fun ds C => ∃ (i : Nat) (fs : List (Str × Dat)), ds = [.exc (clsK c i) fs] ∧ i < 15 ∧ C (.lst (kindsD i))
/-- a row of all sorts in order -/
def RowE (c : Cs) (es : List Dat) : Prop := es.length = 14 ∧ ∀ i, i < 14 → ∃ fs, es[i]? = some (.exc (clsK c i) fs)
theorem neD_self {d : Dat} {C : Dat → Prop} (h1 : plain d = true) (h2 : Nat.ble (dep d) 60 = true) (c : C (.bl false)) : dNeD d d C := by
  have h : Cmp d := .of h1 (Nat.le_of_ble_eq_true h2)
  refine ⟨h, h, ?_⟩
  rw [eqD_refl h]; exact c
theorem eqD_self {d : Dat} {C : Dat → Prop} (h1 : plain d = true) (h2 : Nat.ble (dep d) 60 = true) (c : C (.bl true)) : dEqD d d C := by
  have h : Cmp d := .of h1 (Nat.le_of_ble_eq_true h2)
  refine ⟨h, h, ?_⟩
  rw [eqD_refl h]; exact c
/-- such a row, by the four fields -/
def rowD (c : Cs) (p q x y : Dat) : List Dat := [.exc c.NoPoly [("at", p)], .exc c.NoMove [("move", q)], .exc c.NoHouse [], .exc c.NoLetter [], .exc c.NoCount [], .exc c.NoWord [], .exc c.Full [], .exc c.NoDeed [], .exc c.NoText [], .exc c.NoLine [], .exc c.NoOver [], .exc c.NoName [("name", x)], .exc c.Twice [("name", y)], .exc c.NoNumber []]
theorem rowD_ok {c : Cs} {p q x y : Dat} : RowE c (rowD c p q x y) := ⟨rfl, fun i hi => by
  match i, hi with
  | 0, _ | 1, _ | 2, _ | 3, _ | 4, _ | 5, _ | 6, _ | 7, _ | 8, _ | 9, _ | 10, _ | 11, _ | 12, _ | 13, _ => exact ⟨_, rfl⟩⟩
def W_row (c : Cs) : WpD := fun ds C => ∃ es, ds = [.lst es] ∧ RowE c es ∧ C (.bl true)
theorem rng_get {n i : Nat} {d : Dat} (h : (rngD 0 n)[i]? = some d) : i < n ∧ d = .int (0 + (i : Int)) := by
  unfold rngD at h
  rw [List.getElem?_map] at h
  by_cases l : i < n
  · rw [List.getElem?_range l] at h
    exact ⟨l, (Option.some.inj h).symm⟩
  · rw [List.getElem?_eq_none (by rw [List.length_range]; omega)] at h; cases h
theorem sorts_out {i : Nat} (hi : i < 14) : (List.range 14).map (fun j : Nat => Dat.bl (eqS (.int (0 + (j : Int))) (.int (i : Int)))) = sortsD i := by
  match i, hi with
  | 0, _ | 1, _ | 2, _ | 3, _ | 4, _ | 5, _ | 6, _ | 7, _ | 8, _ | 9, _ | 10, _ | 11, _ | 12, _ | 13, _ => rfl
theorem sorts_cmp (i : Nat) : Cmp (.lst (sortsD i)) := .of rfl (Nat.le_of_ble_eq_true rfl)
theorem kinds_cmp (i : Nat) : Cmp (.lst (kindsD i)) := .of rfl (Nat.le_of_ble_eq_true rfl)
theorem kinds_1 {i : Nat} (hi : i < 14) (hb : decide ((i : Int) < 10) = true) : [vd (V.bl (decide ((i : Int) < 10))), .bl true, .bl (eqS (.int (i : Int)) (.int 10)), .bl (eqS (.int (i : Int)) (.int 11))] = kindsD i := by
  match i, hi with
  | 0, _ | 1, _ | 2, _ | 3, _ | 4, _ | 5, _ | 6, _ | 7, _ | 8, _ | 9, _ => rfl
  | 10, _ | 11, _ | 12, _ | 13, _ => exact absurd hb (by decide)
theorem kinds_2 {i : Nat} (hi : i < 14) (hb : ¬ decide ((i : Int) < 10) = true) : [vd (V.bl (decide ((i : Int) < 10))), vd (V.bl (decide ((11 : Int) < (i : Int)))), .bl (eqS (.int (i : Int)) (.int 10)), .bl (eqS (.int (i : Int)) (.int 11))] = kindsD i := by
  match i, hi with
  | 0, _ | 1, _ | 2, _ | 3, _ | 4, _ | 5, _ | 6, _ | 7, _ | 8, _ | 9, _ => exact absurd (by decide) hb
  | 10, _ | 11, _ | 12, _ | 13, _ => rfl
section
variable {c : Cs} {P : Program} {w : World} {K : PySem.W.Frag} {mg : Str → Option Value} {base : Heap}
abbrev s_Lsorts : Stmt := top 21
abbrev N_Lsorts : List Str := ["_law_one", "_law_found"]
abbrev P_Lsorts : List Str := ["_law_one"]
theorem sc_Lsorts : FnScope N_Lsorts ["_law_one"] (defScope s_Lsorts) := ⟨rfl, rfl, rfl, by decide +kernel, rfl, by decide +kernel, by decide +kernel⟩

theorem ok_Lsorts (T : Txt K mg c) (ko : KO K c) {f : Addr} {fd : FuncData} (F : L2.Fun K "_law_sorts" "_law_sorts" s_Lsorts f fd) : FnOk P w K mg base CX0 1 f fd P_Lsorts (spD (W_sorts c)) := by
  refine okD F sc_Lsorts (fun ds C h => ?_) (fun cdv A outer s H E hr => ⟨_, (pss_cons (ps_set (i := 1) sc_Lsorts.nd rfl (by first | exact Or.inl rfl | exact Or.inr rfl) (pe_lst (pa_cons (pe_callB call_isA (by rfl) T.z_isinstance (by decide +kernel) (pa_cons (pv 0) (pa_cons (pe_gc (v := .ref c.NoPoly) rfl ⟨_, T.g_NoPoly, rfl⟩) pa_nil))) (pa_cons (pe_callB call_isA (by rfl) T.z_isinstance (by decide +kernel) (pa_cons (pv 0) (pa_cons (pe_gc (v := .ref c.NoMove) rfl ⟨_, T.g_NoMove, rfl⟩) pa_nil))) (pa_cons (pe_callB call_isA (by rfl) T.z_isinstance (by decide +kernel) (pa_cons (pv 0) (pa_cons (pe_gc (v := .ref c.NoHouse) rfl ⟨_, T.g_NoHouse, rfl⟩) pa_nil))) (pa_cons (pe_callB call_isA (by rfl) T.z_isinstance (by decide +kernel) (pa_cons (pv 0) (pa_cons (pe_gc (v := .ref c.NoLetter) rfl ⟨_, T.g_NoLetter, rfl⟩) pa_nil))) pa_nil))))))
      (pss_cons (ps_set (i := 1) sc_Lsorts.nd rfl (by first | exact Or.inl rfl | exact Or.inr rfl) (pe_op op_cat (pv 1) (pe_lst (pa_cons (pe_callB call_isA (by rfl) T.z_isinstance (by decide +kernel) (pa_cons (pv 0) (pa_cons (pe_gc (v := .ref c.NoCount) rfl ⟨_, T.g_NoCount, rfl⟩) pa_nil))) (pa_cons (pe_callB call_isA (by rfl) T.z_isinstance (by decide +kernel) (pa_cons (pv 0) (pa_cons (pe_gc (v := .ref c.NoWord) rfl ⟨_, T.g_NoWord, rfl⟩) pa_nil))) (pa_cons (pe_callB call_isA (by rfl) T.z_isinstance (by decide +kernel) (pa_cons (pv 0) (pa_cons (pe_gc (v := .ref c.Full) rfl ⟨_, T.g_Full, rfl⟩) pa_nil))) pa_nil))))))
      (pss_cons (ps_set (i := 1) sc_Lsorts.nd rfl (by first | exact Or.inl rfl | exact Or.inr rfl) (pe_op op_cat (pv 1) (pe_lst (pa_cons (pe_callB call_isA (by rfl) T.z_isinstance (by decide +kernel) (pa_cons (pv 0) (pa_cons (pe_gc (v := .ref c.NoDeed) rfl ⟨_, T.g_NoDeed, rfl⟩) pa_nil))) (pa_cons (pe_callB call_isA (by rfl) T.z_isinstance (by decide +kernel) (pa_cons (pv 0) (pa_cons (pe_gc (v := .ref c.NoText) rfl ⟨_, T.g_NoText, rfl⟩) pa_nil))) (pa_cons (pe_callB call_isA (by rfl) T.z_isinstance (by decide +kernel) (pa_cons (pv 0) (pa_cons (pe_gc (v := .ref c.NoLine) rfl ⟨_, T.g_NoLine, rfl⟩) pa_nil))) pa_nil))))))
      (pss_cons (ps_set (i := 1) sc_Lsorts.nd rfl (by first | exact Or.inl rfl | exact Or.inr rfl) (pe_op op_cat (pv 1) (pe_lst (pa_cons (pe_callB call_isA (by rfl) T.z_isinstance (by decide +kernel) (pa_cons (pv 0) (pa_cons (pe_gc (v := .ref c.NoOver) rfl ⟨_, T.g_NoOver, rfl⟩) pa_nil))) (pa_cons (pe_callB call_isA (by rfl) T.z_isinstance (by decide +kernel) (pa_cons (pv 0) (pa_cons (pe_gc (v := .ref c.NoName) rfl ⟨_, T.g_NoName, rfl⟩) pa_nil))) (pa_cons (pe_callB call_isA (by rfl) T.z_isinstance (by decide +kernel) (pa_cons (pv 0) (pa_cons (pe_gc (v := .ref c.Twice) rfl ⟨_, T.g_Twice, rfl⟩) pa_nil))) pa_nil))))))
      (pss_one (ps_ret (pe_op op_cat (pv 1) (pe_lst (pa_cons (pe_callB call_isA (by rfl) T.z_isinstance (by decide +kernel) (pa_cons (pv 0) (pa_cons (pe_gc (v := .ref c.NoNumber) rfl ⟨_, T.g_NoNumber, rfl⟩) pa_nil))) pa_nil))))))))), fun z ds C h => ?_⟩)
  · obtain ⟨i, fs, rfl, _⟩ := h; rfl
  obtain ⟨i, fs, rfl, hi, k⟩ := h
  show XS z _ [.dt (.exc (clsK c i) fs), .un] _ _
  have kt := fun j hj => ko.kit i hi j hj
  (repeat' (first | (guard_target =~ XS _ _ _ _ _; first | exact XS.next | refine XS.next ?_ | refine XS.seq ?_ | refine XS.set ?_ | refine XS.ret ?_ | refine XS.ite ?_ | refine XS.drop ?_ | refine XS.asg ?_ | refine XS.par3 ?_ | refine XS.par ?_ | refine XS.retN ?_ | refine XS.next ?_) | (guard_target =~ XE _ _ _ _ _; first | refine XE.var rfl ?_ | refine XE.int ?_ | refine XE.bl ?_ | refine XE.str ?_ | refine XE.non ?_ | refine XE.ixO rfl ?_ | refine XE.lenO rfl ?_ | refine XE.op dr_I0 ?_ | refine XE.op dr_I ?_ | refine XE.op dr_ixL ?_ | refine XE.op dr_ixT ?_ | refine XE.op dr_eq ?_ | refine XE.op dr_ne ?_ | refine XE.op dr_eqD ?_ | refine XE.op dr_neD ?_ | refine XE.op dr_isN ?_ | refine XE.op dr_notN ?_ | refine XE.op dr_eqO ?_ | refine XE.op dr_neO ?_ | refine XE.unI ?_ | refine XE.tup ?_ | refine XE.ofN (XN.lst ?_) | refine XE.ofN (XN.op dn_cat ?_) | refine XE.ofN (XN.op dn_rep ?_) | refine XE.ofN (XN.sl ?_) | refine XE.ofN (XN.cb dn_listOf ?_) | refine XE.cb db_abs ?_ | refine XE.cb db_max2 ?_ | refine XE.len1 ?_ | refine XE.cb db_lenO ?_ | refine XE.cb db_int1 ?_ | refine XE.call ?_ | refine XE.callX0 ?_ | refine XE.callP rfl ?_ | refine XE.andV ?_ | refine XE.orV ?_ | refine XE.notV ?_ | refine XE.ifE ?_ | refine XE.make ?_ | refine XE.isC ?_ | refine XE.isTy ?_ | refine XE.fld hH.cls hH.poly ?_ | refine XE.fld hH.cls hH.rows ?_ | refine XE.fld hH.cls hH.ways ?_ | refine XE.fld hN.cls hN.home ?_ | refine XE.fld hN.cls hN.parts ?_ | refine XE.km rfl ?_ | refine XE.kmX0 rfl ?_ | refine XE.kc rfl ?_ | refine XE.kcX0 rfl ?_) | (guard_target =~ XN _ _ _ _ _; first | refine XN.lst ?_ | refine XN.op dn_cat ?_ | refine XN.op dn_rep ?_ | refine XN.sl ?_ | refine XN.cb dn_listOf ?_) | (guard_target =~ XA _ _ _ _ _; first | refine XA.nil ?_ | refine XA.cons ?_) | (guard_target =~ XT _ _ _ _ _; first | refine XT.test ?_ | refine XT.b ?_ | refine XT.not ?_ | refine XT.and ?_ | refine XT.or ?_ | refine XT.yes ?_) | (guard_target =~ XO _ _ _ _ _; first | refine XO.no ?_ | refine XO.yes ?_) | (guard_target =~ XGs _ _ _ _ _ _; first | refine XGs.cons ?_ | refine XGs.nil ?_) | (guard_target =~ XG _ _ _ _ _ _; first | refine XG.name rfl ?_ | refine XG.tupG rfl ?_ | refine XG.unlG rfl ?_) | refine go_len1 rfl ?_ | refine go_fld rfl ?_ | refine go_ins rfl rfl ?_ | refine go_kc rfl rfl ?_ | refine go_isC ?_ | refine go_isTy rfl (by first | exact kb_int_int | exact kb_int_bool | exact kb_bool_int | exact kb_bool_bool | exact kb_str_str | exact kb_list_list | exact kb_tuple_tuple | exact kb_tuple_list | exact kb_list_tuple | exact kb_NoneType_list | exact kb_NoneType_int | exact kb_str_int | exact kb_int_list | exact kb_int_tuple | exact kb_NoneType_tuple | exact kb_list_int | exact kb_tuple_int | exact kb_str_bool) ?_ | refine go_non ?_ | refine go_I0 ?_ | refine go_I ?_ ?_ | refine go_ix rfl ?_ | refine go_ixT rfl ?_ | refine go_eq rfl rfl rfl ?_ | refine go_ne rfl rfl rfl ?_ | refine go_len rfl ?_ | refine go_cat ?_ ?_ | refine go_rep ?_ ?_ ?_ ?_ | refine go_un ?_ | refine go_int ?_ | refine go_lst ?_ | refine go_tup ?_ | refine go_str ?_ | refine go_bl ?_ | refine go_ixO rfl ?_ | refine go_put rfl ?_ | refine go_ext ?_ ?_ | refine go_app ?_ ?_ | refine go_rg1 ?_ ?_ | refine go_rg2 ?_ ?_ | refine go_rg3 ?_ ?_ | refine go_enum ?_ | refine go_zipS ?_ ?_ | refine go_zip ?_))
  any_goals (try exact Nat.le_of_ble_eq_true rfl)
  refine XE.isE (.own _) (XE.var rfl ⟨_, _, subK i 0, rfl, ko.ex i hi, kt 0 (by decide), ?_⟩)
  (repeat' (first | (guard_target =~ XS _ _ _ _ _; first | exact XS.next | refine XS.next ?_ | refine XS.seq ?_ | refine XS.set ?_ | refine XS.ret ?_ | refine XS.ite ?_ | refine XS.drop ?_ | refine XS.asg ?_ | refine XS.par3 ?_ | refine XS.par ?_ | refine XS.retN ?_ | refine XS.next ?_) | (guard_target =~ XE _ _ _ _ _; first | refine XE.var rfl ?_ | refine XE.int ?_ | refine XE.bl ?_ | refine XE.str ?_ | refine XE.non ?_ | refine XE.ixO rfl ?_ | refine XE.lenO rfl ?_ | refine XE.op dr_I0 ?_ | refine XE.op dr_I ?_ | refine XE.op dr_ixL ?_ | refine XE.op dr_ixT ?_ | refine XE.op dr_eq ?_ | refine XE.op dr_ne ?_ | refine XE.op dr_eqD ?_ | refine XE.op dr_neD ?_ | refine XE.op dr_isN ?_ | refine XE.op dr_notN ?_ | refine XE.op dr_eqO ?_ | refine XE.op dr_neO ?_ | refine XE.unI ?_ | refine XE.tup ?_ | refine XE.ofN (XN.lst ?_) | refine XE.ofN (XN.op dn_cat ?_) | refine XE.ofN (XN.op dn_rep ?_) | refine XE.ofN (XN.sl ?_) | refine XE.ofN (XN.cb dn_listOf ?_) | refine XE.cb db_abs ?_ | refine XE.cb db_max2 ?_ | refine XE.len1 ?_ | refine XE.cb db_lenO ?_ | refine XE.cb db_int1 ?_ | refine XE.call ?_ | refine XE.callX0 ?_ | refine XE.callP rfl ?_ | refine XE.andV ?_ | refine XE.orV ?_ | refine XE.notV ?_ | refine XE.ifE ?_ | refine XE.make ?_ | refine XE.isC ?_ | refine XE.isTy ?_ | refine XE.fld hH.cls hH.poly ?_ | refine XE.fld hH.cls hH.rows ?_ | refine XE.fld hH.cls hH.ways ?_ | refine XE.fld hN.cls hN.home ?_ | refine XE.fld hN.cls hN.parts ?_ | refine XE.km rfl ?_ | refine XE.kmX0 rfl ?_ | refine XE.kc rfl ?_ | refine XE.kcX0 rfl ?_) | (guard_target =~ XN _ _ _ _ _; first | refine XN.lst ?_ | refine XN.op dn_cat ?_ | refine XN.op dn_rep ?_ | refine XN.sl ?_ | refine XN.cb dn_listOf ?_) | (guard_target =~ XA _ _ _ _ _; first | refine XA.nil ?_ | refine XA.cons ?_) | (guard_target =~ XT _ _ _ _ _; first | refine XT.test ?_ | refine XT.b ?_ | refine XT.not ?_ | refine XT.and ?_ | refine XT.or ?_ | refine XT.yes ?_) | (guard_target =~ XO _ _ _ _ _; first | refine XO.no ?_ | refine XO.yes ?_) | (guard_target =~ XGs _ _ _ _ _ _; first | refine XGs.cons ?_ | refine XGs.nil ?_) | (guard_target =~ XG _ _ _ _ _ _; first | refine XG.name rfl ?_ | refine XG.tupG rfl ?_ | refine XG.unlG rfl ?_) | refine go_len1 rfl ?_ | refine go_fld rfl ?_ | refine go_ins rfl rfl ?_ | refine go_kc rfl rfl ?_ | refine go_isC ?_ | refine go_isTy rfl (by first | exact kb_int_int | exact kb_int_bool | exact kb_bool_int | exact kb_bool_bool | exact kb_str_str | exact kb_list_list | exact kb_tuple_tuple | exact kb_tuple_list | exact kb_list_tuple | exact kb_NoneType_list | exact kb_NoneType_int | exact kb_str_int | exact kb_int_list | exact kb_int_tuple | exact kb_NoneType_tuple | exact kb_list_int | exact kb_tuple_int | exact kb_str_bool) ?_ | refine go_non ?_ | refine go_I0 ?_ | refine go_I ?_ ?_ | refine go_ix rfl ?_ | refine go_ixT rfl ?_ | refine go_eq rfl rfl rfl ?_ | refine go_ne rfl rfl rfl ?_ | refine go_len rfl ?_ | refine go_cat ?_ ?_ | refine go_rep ?_ ?_ ?_ ?_ | refine go_un ?_ | refine go_int ?_ | refine go_lst ?_ | refine go_tup ?_ | refine go_str ?_ | refine go_bl ?_ | refine go_ixO rfl ?_ | refine go_put rfl ?_ | refine go_ext ?_ ?_ | refine go_app ?_ ?_ | refine go_rg1 ?_ ?_ | refine go_rg2 ?_ ?_ | refine go_rg3 ?_ ?_ | refine go_enum ?_ | refine go_zipS ?_ ?_ | refine go_zip ?_))
  any_goals (try exact Nat.le_of_ble_eq_true rfl)
  refine XE.isE (.own _) (XE.var rfl ⟨_, _, subK i 1, rfl, ko.ex i hi, kt 1 (by decide), ?_⟩)
  (repeat' (first | (guard_target =~ XS _ _ _ _ _; first | exact XS.next | refine XS.next ?_ | refine XS.seq ?_ | refine XS.set ?_ | refine XS.ret ?_ | refine XS.ite ?_ | refine XS.drop ?_ | refine XS.asg ?_ | refine XS.par3 ?_ | refine XS.par ?_ | refine XS.retN ?_ | refine XS.next ?_) | (guard_target =~ XE _ _ _ _ _; first | refine XE.var rfl ?_ | refine XE.int ?_ | refine XE.bl ?_ | refine XE.str ?_ | refine XE.non ?_ | refine XE.ixO rfl ?_ | refine XE.lenO rfl ?_ | refine XE.op dr_I0 ?_ | refine XE.op dr_I ?_ | refine XE.op dr_ixL ?_ | refine XE.op dr_ixT ?_ | refine XE.op dr_eq ?_ | refine XE.op dr_ne ?_ | refine XE.op dr_eqD ?_ | refine XE.op dr_neD ?_ | refine XE.op dr_isN ?_ | refine XE.op dr_notN ?_ | refine XE.op dr_eqO ?_ | refine XE.op dr_neO ?_ | refine XE.unI ?_ | refine XE.tup ?_ | refine XE.ofN (XN.lst ?_) | refine XE.ofN (XN.op dn_cat ?_) | refine XE.ofN (XN.op dn_rep ?_) | refine XE.ofN (XN.sl ?_) | refine XE.ofN (XN.cb dn_listOf ?_) | refine XE.cb db_abs ?_ | refine XE.cb db_max2 ?_ | refine XE.len1 ?_ | refine XE.cb db_lenO ?_ | refine XE.cb db_int1 ?_ | refine XE.call ?_ | refine XE.callX0 ?_ | refine XE.callP rfl ?_ | refine XE.andV ?_ | refine XE.orV ?_ | refine XE.notV ?_ | refine XE.ifE ?_ | refine XE.make ?_ | refine XE.isC ?_ | refine XE.isTy ?_ | refine XE.fld hH.cls hH.poly ?_ | refine XE.fld hH.cls hH.rows ?_ | refine XE.fld hH.cls hH.ways ?_ | refine XE.fld hN.cls hN.home ?_ | refine XE.fld hN.cls hN.parts ?_ | refine XE.km rfl ?_ | refine XE.kmX0 rfl ?_ | refine XE.kc rfl ?_ | refine XE.kcX0 rfl ?_) | (guard_target =~ XN _ _ _ _ _; first | refine XN.lst ?_ | refine XN.op dn_cat ?_ | refine XN.op dn_rep ?_ | refine XN.sl ?_ | refine XN.cb dn_listOf ?_) | (guard_target =~ XA _ _ _ _ _; first | refine XA.nil ?_ | refine XA.cons ?_) | (guard_target =~ XT _ _ _ _ _; first | refine XT.test ?_ | refine XT.b ?_ | refine XT.not ?_ | refine XT.and ?_ | refine XT.or ?_ | refine XT.yes ?_) | (guard_target =~ XO _ _ _ _ _; first | refine XO.no ?_ | refine XO.yes ?_) | (guard_target =~ XGs _ _ _ _ _ _; first | refine XGs.cons ?_ | refine XGs.nil ?_) | (guard_target =~ XG _ _ _ _ _ _; first | refine XG.name rfl ?_ | refine XG.tupG rfl ?_ | refine XG.unlG rfl ?_) | refine go_len1 rfl ?_ | refine go_fld rfl ?_ | refine go_ins rfl rfl ?_ | refine go_kc rfl rfl ?_ | refine go_isC ?_ | refine go_isTy rfl (by first | exact kb_int_int | exact kb_int_bool | exact kb_bool_int | exact kb_bool_bool | exact kb_str_str | exact kb_list_list | exact kb_tuple_tuple | exact kb_tuple_list | exact kb_list_tuple | exact kb_NoneType_list | exact kb_NoneType_int | exact kb_str_int | exact kb_int_list | exact kb_int_tuple | exact kb_NoneType_tuple | exact kb_list_int | exact kb_tuple_int | exact kb_str_bool) ?_ | refine go_non ?_ | refine go_I0 ?_ | refine go_I ?_ ?_ | refine go_ix rfl ?_ | refine go_ixT rfl ?_ | refine go_eq rfl rfl rfl ?_ | refine go_ne rfl rfl rfl ?_ | refine go_len rfl ?_ | refine go_cat ?_ ?_ | refine go_rep ?_ ?_ ?_ ?_ | refine go_un ?_ | refine go_int ?_ | refine go_lst ?_ | refine go_tup ?_ | refine go_str ?_ | refine go_bl ?_ | refine go_ixO rfl ?_ | refine go_put rfl ?_ | refine go_ext ?_ ?_ | refine go_app ?_ ?_ | refine go_rg1 ?_ ?_ | refine go_rg2 ?_ ?_ | refine go_rg3 ?_ ?_ | refine go_enum ?_ | refine go_zipS ?_ ?_ | refine go_zip ?_))
  any_goals (try exact Nat.le_of_ble_eq_true rfl)
  refine XE.isE (.own _) (XE.var rfl ⟨_, _, subK i 2, rfl, ko.ex i hi, kt 2 (by decide), ?_⟩)
  (repeat' (first | (guard_target =~ XS _ _ _ _ _; first | exact XS.next | refine XS.next ?_ | refine XS.seq ?_ | refine XS.set ?_ | refine XS.ret ?_ | refine XS.ite ?_ | refine XS.drop ?_ | refine XS.asg ?_ | refine XS.par3 ?_ | refine XS.par ?_ | refine XS.retN ?_ | refine XS.next ?_) | (guard_target =~ XE _ _ _ _ _; first | refine XE.var rfl ?_ | refine XE.int ?_ | refine XE.bl ?_ | refine XE.str ?_ | refine XE.non ?_ | refine XE.ixO rfl ?_ | refine XE.lenO rfl ?_ | refine XE.op dr_I0 ?_ | refine XE.op dr_I ?_ | refine XE.op dr_ixL ?_ | refine XE.op dr_ixT ?_ | refine XE.op dr_eq ?_ | refine XE.op dr_ne ?_ | refine XE.op dr_eqD ?_ | refine XE.op dr_neD ?_ | refine XE.op dr_isN ?_ | refine XE.op dr_notN ?_ | refine XE.op dr_eqO ?_ | refine XE.op dr_neO ?_ | refine XE.unI ?_ | refine XE.tup ?_ | refine XE.ofN (XN.lst ?_) | refine XE.ofN (XN.op dn_cat ?_) | refine XE.ofN (XN.op dn_rep ?_) | refine XE.ofN (XN.sl ?_) | refine XE.ofN (XN.cb dn_listOf ?_) | refine XE.cb db_abs ?_ | refine XE.cb db_max2 ?_ | refine XE.len1 ?_ | refine XE.cb db_lenO ?_ | refine XE.cb db_int1 ?_ | refine XE.call ?_ | refine XE.callX0 ?_ | refine XE.callP rfl ?_ | refine XE.andV ?_ | refine XE.orV ?_ | refine XE.notV ?_ | refine XE.ifE ?_ | refine XE.make ?_ | refine XE.isC ?_ | refine XE.isTy ?_ | refine XE.fld hH.cls hH.poly ?_ | refine XE.fld hH.cls hH.rows ?_ | refine XE.fld hH.cls hH.ways ?_ | refine XE.fld hN.cls hN.home ?_ | refine XE.fld hN.cls hN.parts ?_ | refine XE.km rfl ?_ | refine XE.kmX0 rfl ?_ | refine XE.kc rfl ?_ | refine XE.kcX0 rfl ?_) | (guard_target =~ XN _ _ _ _ _; first | refine XN.lst ?_ | refine XN.op dn_cat ?_ | refine XN.op dn_rep ?_ | refine XN.sl ?_ | refine XN.cb dn_listOf ?_) | (guard_target =~ XA _ _ _ _ _; first | refine XA.nil ?_ | refine XA.cons ?_) | (guard_target =~ XT _ _ _ _ _; first | refine XT.test ?_ | refine XT.b ?_ | refine XT.not ?_ | refine XT.and ?_ | refine XT.or ?_ | refine XT.yes ?_) | (guard_target =~ XO _ _ _ _ _; first | refine XO.no ?_ | refine XO.yes ?_) | (guard_target =~ XGs _ _ _ _ _ _; first | refine XGs.cons ?_ | refine XGs.nil ?_) | (guard_target =~ XG _ _ _ _ _ _; first | refine XG.name rfl ?_ | refine XG.tupG rfl ?_ | refine XG.unlG rfl ?_) | refine go_len1 rfl ?_ | refine go_fld rfl ?_ | refine go_ins rfl rfl ?_ | refine go_kc rfl rfl ?_ | refine go_isC ?_ | refine go_isTy rfl (by first | exact kb_int_int | exact kb_int_bool | exact kb_bool_int | exact kb_bool_bool | exact kb_str_str | exact kb_list_list | exact kb_tuple_tuple | exact kb_tuple_list | exact kb_list_tuple | exact kb_NoneType_list | exact kb_NoneType_int | exact kb_str_int | exact kb_int_list | exact kb_int_tuple | exact kb_NoneType_tuple | exact kb_list_int | exact kb_tuple_int | exact kb_str_bool) ?_ | refine go_non ?_ | refine go_I0 ?_ | refine go_I ?_ ?_ | refine go_ix rfl ?_ | refine go_ixT rfl ?_ | refine go_eq rfl rfl rfl ?_ | refine go_ne rfl rfl rfl ?_ | refine go_len rfl ?_ | refine go_cat ?_ ?_ | refine go_rep ?_ ?_ ?_ ?_ | refine go_un ?_ | refine go_int ?_ | refine go_lst ?_ | refine go_tup ?_ | refine go_str ?_ | refine go_bl ?_ | refine go_ixO rfl ?_ | refine go_put rfl ?_ | refine go_ext ?_ ?_ | refine go_app ?_ ?_ | refine go_rg1 ?_ ?_ | refine go_rg2 ?_ ?_ | refine go_rg3 ?_ ?_ | refine go_enum ?_ | refine go_zipS ?_ ?_ | refine go_zip ?_))
  any_goals (try exact Nat.le_of_ble_eq_true rfl)
  refine XE.isE (.own _) (XE.var rfl ⟨_, _, subK i 3, rfl, ko.ex i hi, kt 3 (by decide), ?_⟩)
  (repeat' (first | (guard_target =~ XS _ _ _ _ _; first | exact XS.next | refine XS.next ?_ | refine XS.seq ?_ | refine XS.set ?_ | refine XS.ret ?_ | refine XS.ite ?_ | refine XS.drop ?_ | refine XS.asg ?_ | refine XS.par3 ?_ | refine XS.par ?_ | refine XS.retN ?_ | refine XS.next ?_) | (guard_target =~ XE _ _ _ _ _; first | refine XE.var rfl ?_ | refine XE.int ?_ | refine XE.bl ?_ | refine XE.str ?_ | refine XE.non ?_ | refine XE.ixO rfl ?_ | refine XE.lenO rfl ?_ | refine XE.op dr_I0 ?_ | refine XE.op dr_I ?_ | refine XE.op dr_ixL ?_ | refine XE.op dr_ixT ?_ | refine XE.op dr_eq ?_ | refine XE.op dr_ne ?_ | refine XE.op dr_eqD ?_ | refine XE.op dr_neD ?_ | refine XE.op dr_isN ?_ | refine XE.op dr_notN ?_ | refine XE.op dr_eqO ?_ | refine XE.op dr_neO ?_ | refine XE.unI ?_ | refine XE.tup ?_ | refine XE.ofN (XN.lst ?_) | refine XE.ofN (XN.op dn_cat ?_) | refine XE.ofN (XN.op dn_rep ?_) | refine XE.ofN (XN.sl ?_) | refine XE.ofN (XN.cb dn_listOf ?_) | refine XE.cb db_abs ?_ | refine XE.cb db_max2 ?_ | refine XE.len1 ?_ | refine XE.cb db_lenO ?_ | refine XE.cb db_int1 ?_ | refine XE.call ?_ | refine XE.callX0 ?_ | refine XE.callP rfl ?_ | refine XE.andV ?_ | refine XE.orV ?_ | refine XE.notV ?_ | refine XE.ifE ?_ | refine XE.make ?_ | refine XE.isC ?_ | refine XE.isTy ?_ | refine XE.fld hH.cls hH.poly ?_ | refine XE.fld hH.cls hH.rows ?_ | refine XE.fld hH.cls hH.ways ?_ | refine XE.fld hN.cls hN.home ?_ | refine XE.fld hN.cls hN.parts ?_ | refine XE.km rfl ?_ | refine XE.kmX0 rfl ?_ | refine XE.kc rfl ?_ | refine XE.kcX0 rfl ?_) | (guard_target =~ XN _ _ _ _ _; first | refine XN.lst ?_ | refine XN.op dn_cat ?_ | refine XN.op dn_rep ?_ | refine XN.sl ?_ | refine XN.cb dn_listOf ?_) | (guard_target =~ XA _ _ _ _ _; first | refine XA.nil ?_ | refine XA.cons ?_) | (guard_target =~ XT _ _ _ _ _; first | refine XT.test ?_ | refine XT.b ?_ | refine XT.not ?_ | refine XT.and ?_ | refine XT.or ?_ | refine XT.yes ?_) | (guard_target =~ XO _ _ _ _ _; first | refine XO.no ?_ | refine XO.yes ?_) | (guard_target =~ XGs _ _ _ _ _ _; first | refine XGs.cons ?_ | refine XGs.nil ?_) | (guard_target =~ XG _ _ _ _ _ _; first | refine XG.name rfl ?_ | refine XG.tupG rfl ?_ | refine XG.unlG rfl ?_) | refine go_len1 rfl ?_ | refine go_fld rfl ?_ | refine go_ins rfl rfl ?_ | refine go_kc rfl rfl ?_ | refine go_isC ?_ | refine go_isTy rfl (by first | exact kb_int_int | exact kb_int_bool | exact kb_bool_int | exact kb_bool_bool | exact kb_str_str | exact kb_list_list | exact kb_tuple_tuple | exact kb_tuple_list | exact kb_list_tuple | exact kb_NoneType_list | exact kb_NoneType_int | exact kb_str_int | exact kb_int_list | exact kb_int_tuple | exact kb_NoneType_tuple | exact kb_list_int | exact kb_tuple_int | exact kb_str_bool) ?_ | refine go_non ?_ | refine go_I0 ?_ | refine go_I ?_ ?_ | refine go_ix rfl ?_ | refine go_ixT rfl ?_ | refine go_eq rfl rfl rfl ?_ | refine go_ne rfl rfl rfl ?_ | refine go_len rfl ?_ | refine go_cat ?_ ?_ | refine go_rep ?_ ?_ ?_ ?_ | refine go_un ?_ | refine go_int ?_ | refine go_lst ?_ | refine go_tup ?_ | refine go_str ?_ | refine go_bl ?_ | refine go_ixO rfl ?_ | refine go_put rfl ?_ | refine go_ext ?_ ?_ | refine go_app ?_ ?_ | refine go_rg1 ?_ ?_ | refine go_rg2 ?_ ?_ | refine go_rg3 ?_ ?_ | refine go_enum ?_ | refine go_zipS ?_ ?_ | refine go_zip ?_))
  any_goals (try exact Nat.le_of_ble_eq_true rfl)
  refine XE.isE (.own _) (XE.var rfl ⟨_, _, subK i 4, rfl, ko.ex i hi, kt 4 (by decide), ?_⟩)
  (repeat' (first | (guard_target =~ XS _ _ _ _ _; first | exact XS.next | refine XS.next ?_ | refine XS.seq ?_ | refine XS.set ?_ | refine XS.ret ?_ | refine XS.ite ?_ | refine XS.drop ?_ | refine XS.asg ?_ | refine XS.par3 ?_ | refine XS.par ?_ | refine XS.retN ?_ | refine XS.next ?_) | (guard_target =~ XE _ _ _ _ _; first | refine XE.var rfl ?_ | refine XE.int ?_ | refine XE.bl ?_ | refine XE.str ?_ | refine XE.non ?_ | refine XE.ixO rfl ?_ | refine XE.lenO rfl ?_ | refine XE.op dr_I0 ?_ | refine XE.op dr_I ?_ | refine XE.op dr_ixL ?_ | refine XE.op dr_ixT ?_ | refine XE.op dr_eq ?_ | refine XE.op dr_ne ?_ | refine XE.op dr_eqD ?_ | refine XE.op dr_neD ?_ | refine XE.op dr_isN ?_ | refine XE.op dr_notN ?_ | refine XE.op dr_eqO ?_ | refine XE.op dr_neO ?_ | refine XE.unI ?_ | refine XE.tup ?_ | refine XE.ofN (XN.lst ?_) | refine XE.ofN (XN.op dn_cat ?_) | refine XE.ofN (XN.op dn_rep ?_) | refine XE.ofN (XN.sl ?_) | refine XE.ofN (XN.cb dn_listOf ?_) | refine XE.cb db_abs ?_ | refine XE.cb db_max2 ?_ | refine XE.len1 ?_ | refine XE.cb db_lenO ?_ | refine XE.cb db_int1 ?_ | refine XE.call ?_ | refine XE.callX0 ?_ | refine XE.callP rfl ?_ | refine XE.andV ?_ | refine XE.orV ?_ | refine XE.notV ?_ | refine XE.ifE ?_ | refine XE.make ?_ | refine XE.isC ?_ | refine XE.isTy ?_ | refine XE.fld hH.cls hH.poly ?_ | refine XE.fld hH.cls hH.rows ?_ | refine XE.fld hH.cls hH.ways ?_ | refine XE.fld hN.cls hN.home ?_ | refine XE.fld hN.cls hN.parts ?_ | refine XE.km rfl ?_ | refine XE.kmX0 rfl ?_ | refine XE.kc rfl ?_ | refine XE.kcX0 rfl ?_) | (guard_target =~ XN _ _ _ _ _; first | refine XN.lst ?_ | refine XN.op dn_cat ?_ | refine XN.op dn_rep ?_ | refine XN.sl ?_ | refine XN.cb dn_listOf ?_) | (guard_target =~ XA _ _ _ _ _; first | refine XA.nil ?_ | refine XA.cons ?_) | (guard_target =~ XT _ _ _ _ _; first | refine XT.test ?_ | refine XT.b ?_ | refine XT.not ?_ | refine XT.and ?_ | refine XT.or ?_ | refine XT.yes ?_) | (guard_target =~ XO _ _ _ _ _; first | refine XO.no ?_ | refine XO.yes ?_) | (guard_target =~ XGs _ _ _ _ _ _; first | refine XGs.cons ?_ | refine XGs.nil ?_) | (guard_target =~ XG _ _ _ _ _ _; first | refine XG.name rfl ?_ | refine XG.tupG rfl ?_ | refine XG.unlG rfl ?_) | refine go_len1 rfl ?_ | refine go_fld rfl ?_ | refine go_ins rfl rfl ?_ | refine go_kc rfl rfl ?_ | refine go_isC ?_ | refine go_isTy rfl (by first | exact kb_int_int | exact kb_int_bool | exact kb_bool_int | exact kb_bool_bool | exact kb_str_str | exact kb_list_list | exact kb_tuple_tuple | exact kb_tuple_list | exact kb_list_tuple | exact kb_NoneType_list | exact kb_NoneType_int | exact kb_str_int | exact kb_int_list | exact kb_int_tuple | exact kb_NoneType_tuple | exact kb_list_int | exact kb_tuple_int | exact kb_str_bool) ?_ | refine go_non ?_ | refine go_I0 ?_ | refine go_I ?_ ?_ | refine go_ix rfl ?_ | refine go_ixT rfl ?_ | refine go_eq rfl rfl rfl ?_ | refine go_ne rfl rfl rfl ?_ | refine go_len rfl ?_ | refine go_cat ?_ ?_ | refine go_rep ?_ ?_ ?_ ?_ | refine go_un ?_ | refine go_int ?_ | refine go_lst ?_ | refine go_tup ?_ | refine go_str ?_ | refine go_bl ?_ | refine go_ixO rfl ?_ | refine go_put rfl ?_ | refine go_ext ?_ ?_ | refine go_app ?_ ?_ | refine go_rg1 ?_ ?_ | refine go_rg2 ?_ ?_ | refine go_rg3 ?_ ?_ | refine go_enum ?_ | refine go_zipS ?_ ?_ | refine go_zip ?_))
  any_goals (try exact Nat.le_of_ble_eq_true rfl)
  refine XE.isE (.own _) (XE.var rfl ⟨_, _, subK i 5, rfl, ko.ex i hi, kt 5 (by decide), ?_⟩)
  (repeat' (first | (guard_target =~ XS _ _ _ _ _; first | exact XS.next | refine XS.next ?_ | refine XS.seq ?_ | refine XS.set ?_ | refine XS.ret ?_ | refine XS.ite ?_ | refine XS.drop ?_ | refine XS.asg ?_ | refine XS.par3 ?_ | refine XS.par ?_ | refine XS.retN ?_ | refine XS.next ?_) | (guard_target =~ XE _ _ _ _ _; first | refine XE.var rfl ?_ | refine XE.int ?_ | refine XE.bl ?_ | refine XE.str ?_ | refine XE.non ?_ | refine XE.ixO rfl ?_ | refine XE.lenO rfl ?_ | refine XE.op dr_I0 ?_ | refine XE.op dr_I ?_ | refine XE.op dr_ixL ?_ | refine XE.op dr_ixT ?_ | refine XE.op dr_eq ?_ | refine XE.op dr_ne ?_ | refine XE.op dr_eqD ?_ | refine XE.op dr_neD ?_ | refine XE.op dr_isN ?_ | refine XE.op dr_notN ?_ | refine XE.op dr_eqO ?_ | refine XE.op dr_neO ?_ | refine XE.unI ?_ | refine XE.tup ?_ | refine XE.ofN (XN.lst ?_) | refine XE.ofN (XN.op dn_cat ?_) | refine XE.ofN (XN.op dn_rep ?_) | refine XE.ofN (XN.sl ?_) | refine XE.ofN (XN.cb dn_listOf ?_) | refine XE.cb db_abs ?_ | refine XE.cb db_max2 ?_ | refine XE.len1 ?_ | refine XE.cb db_lenO ?_ | refine XE.cb db_int1 ?_ | refine XE.call ?_ | refine XE.callX0 ?_ | refine XE.callP rfl ?_ | refine XE.andV ?_ | refine XE.orV ?_ | refine XE.notV ?_ | refine XE.ifE ?_ | refine XE.make ?_ | refine XE.isC ?_ | refine XE.isTy ?_ | refine XE.fld hH.cls hH.poly ?_ | refine XE.fld hH.cls hH.rows ?_ | refine XE.fld hH.cls hH.ways ?_ | refine XE.fld hN.cls hN.home ?_ | refine XE.fld hN.cls hN.parts ?_ | refine XE.km rfl ?_ | refine XE.kmX0 rfl ?_ | refine XE.kc rfl ?_ | refine XE.kcX0 rfl ?_) | (guard_target =~ XN _ _ _ _ _; first | refine XN.lst ?_ | refine XN.op dn_cat ?_ | refine XN.op dn_rep ?_ | refine XN.sl ?_ | refine XN.cb dn_listOf ?_) | (guard_target =~ XA _ _ _ _ _; first | refine XA.nil ?_ | refine XA.cons ?_) | (guard_target =~ XT _ _ _ _ _; first | refine XT.test ?_ | refine XT.b ?_ | refine XT.not ?_ | refine XT.and ?_ | refine XT.or ?_ | refine XT.yes ?_) | (guard_target =~ XO _ _ _ _ _; first | refine XO.no ?_ | refine XO.yes ?_) | (guard_target =~ XGs _ _ _ _ _ _; first | refine XGs.cons ?_ | refine XGs.nil ?_) | (guard_target =~ XG _ _ _ _ _ _; first | refine XG.name rfl ?_ | refine XG.tupG rfl ?_ | refine XG.unlG rfl ?_) | refine go_len1 rfl ?_ | refine go_fld rfl ?_ | refine go_ins rfl rfl ?_ | refine go_kc rfl rfl ?_ | refine go_isC ?_ | refine go_isTy rfl (by first | exact kb_int_int | exact kb_int_bool | exact kb_bool_int | exact kb_bool_bool | exact kb_str_str | exact kb_list_list | exact kb_tuple_tuple | exact kb_tuple_list | exact kb_list_tuple | exact kb_NoneType_list | exact kb_NoneType_int | exact kb_str_int | exact kb_int_list | exact kb_int_tuple | exact kb_NoneType_tuple | exact kb_list_int | exact kb_tuple_int | exact kb_str_bool) ?_ | refine go_non ?_ | refine go_I0 ?_ | refine go_I ?_ ?_ | refine go_ix rfl ?_ | refine go_ixT rfl ?_ | refine go_eq rfl rfl rfl ?_ | refine go_ne rfl rfl rfl ?_ | refine go_len rfl ?_ | refine go_cat ?_ ?_ | refine go_rep ?_ ?_ ?_ ?_ | refine go_un ?_ | refine go_int ?_ | refine go_lst ?_ | refine go_tup ?_ | refine go_str ?_ | refine go_bl ?_ | refine go_ixO rfl ?_ | refine go_put rfl ?_ | refine go_ext ?_ ?_ | refine go_app ?_ ?_ | refine go_rg1 ?_ ?_ | refine go_rg2 ?_ ?_ | refine go_rg3 ?_ ?_ | refine go_enum ?_ | refine go_zipS ?_ ?_ | refine go_zip ?_))
  any_goals (try exact Nat.le_of_ble_eq_true rfl)
  refine XE.isE (.own _) (XE.var rfl ⟨_, _, subK i 6, rfl, ko.ex i hi, kt 6 (by decide), ?_⟩)
  (repeat' (first | (guard_target =~ XS _ _ _ _ _; first | exact XS.next | refine XS.next ?_ | refine XS.seq ?_ | refine XS.set ?_ | refine XS.ret ?_ | refine XS.ite ?_ | refine XS.drop ?_ | refine XS.asg ?_ | refine XS.par3 ?_ | refine XS.par ?_ | refine XS.retN ?_ | refine XS.next ?_) | (guard_target =~ XE _ _ _ _ _; first | refine XE.var rfl ?_ | refine XE.int ?_ | refine XE.bl ?_ | refine XE.str ?_ | refine XE.non ?_ | refine XE.ixO rfl ?_ | refine XE.lenO rfl ?_ | refine XE.op dr_I0 ?_ | refine XE.op dr_I ?_ | refine XE.op dr_ixL ?_ | refine XE.op dr_ixT ?_ | refine XE.op dr_eq ?_ | refine XE.op dr_ne ?_ | refine XE.op dr_eqD ?_ | refine XE.op dr_neD ?_ | refine XE.op dr_isN ?_ | refine XE.op dr_notN ?_ | refine XE.op dr_eqO ?_ | refine XE.op dr_neO ?_ | refine XE.unI ?_ | refine XE.tup ?_ | refine XE.ofN (XN.lst ?_) | refine XE.ofN (XN.op dn_cat ?_) | refine XE.ofN (XN.op dn_rep ?_) | refine XE.ofN (XN.sl ?_) | refine XE.ofN (XN.cb dn_listOf ?_) | refine XE.cb db_abs ?_ | refine XE.cb db_max2 ?_ | refine XE.len1 ?_ | refine XE.cb db_lenO ?_ | refine XE.cb db_int1 ?_ | refine XE.call ?_ | refine XE.callX0 ?_ | refine XE.callP rfl ?_ | refine XE.andV ?_ | refine XE.orV ?_ | refine XE.notV ?_ | refine XE.ifE ?_ | refine XE.make ?_ | refine XE.isC ?_ | refine XE.isTy ?_ | refine XE.fld hH.cls hH.poly ?_ | refine XE.fld hH.cls hH.rows ?_ | refine XE.fld hH.cls hH.ways ?_ | refine XE.fld hN.cls hN.home ?_ | refine XE.fld hN.cls hN.parts ?_ | refine XE.km rfl ?_ | refine XE.kmX0 rfl ?_ | refine XE.kc rfl ?_ | refine XE.kcX0 rfl ?_) | (guard_target =~ XN _ _ _ _ _; first | refine XN.lst ?_ | refine XN.op dn_cat ?_ | refine XN.op dn_rep ?_ | refine XN.sl ?_ | refine XN.cb dn_listOf ?_) | (guard_target =~ XA _ _ _ _ _; first | refine XA.nil ?_ | refine XA.cons ?_) | (guard_target =~ XT _ _ _ _ _; first | refine XT.test ?_ | refine XT.b ?_ | refine XT.not ?_ | refine XT.and ?_ | refine XT.or ?_ | refine XT.yes ?_) | (guard_target =~ XO _ _ _ _ _; first | refine XO.no ?_ | refine XO.yes ?_) | (guard_target =~ XGs _ _ _ _ _ _; first | refine XGs.cons ?_ | refine XGs.nil ?_) | (guard_target =~ XG _ _ _ _ _ _; first | refine XG.name rfl ?_ | refine XG.tupG rfl ?_ | refine XG.unlG rfl ?_) | refine go_len1 rfl ?_ | refine go_fld rfl ?_ | refine go_ins rfl rfl ?_ | refine go_kc rfl rfl ?_ | refine go_isC ?_ | refine go_isTy rfl (by first | exact kb_int_int | exact kb_int_bool | exact kb_bool_int | exact kb_bool_bool | exact kb_str_str | exact kb_list_list | exact kb_tuple_tuple | exact kb_tuple_list | exact kb_list_tuple | exact kb_NoneType_list | exact kb_NoneType_int | exact kb_str_int | exact kb_int_list | exact kb_int_tuple | exact kb_NoneType_tuple | exact kb_list_int | exact kb_tuple_int | exact kb_str_bool) ?_ | refine go_non ?_ | refine go_I0 ?_ | refine go_I ?_ ?_ | refine go_ix rfl ?_ | refine go_ixT rfl ?_ | refine go_eq rfl rfl rfl ?_ | refine go_ne rfl rfl rfl ?_ | refine go_len rfl ?_ | refine go_cat ?_ ?_ | refine go_rep ?_ ?_ ?_ ?_ | refine go_un ?_ | refine go_int ?_ | refine go_lst ?_ | refine go_tup ?_ | refine go_str ?_ | refine go_bl ?_ | refine go_ixO rfl ?_ | refine go_put rfl ?_ | refine go_ext ?_ ?_ | refine go_app ?_ ?_ | refine go_rg1 ?_ ?_ | refine go_rg2 ?_ ?_ | refine go_rg3 ?_ ?_ | refine go_enum ?_ | refine go_zipS ?_ ?_ | refine go_zip ?_))
  any_goals (try exact Nat.le_of_ble_eq_true rfl)
  refine XE.isE (.own _) (XE.var rfl ⟨_, _, subK i 7, rfl, ko.ex i hi, kt 7 (by decide), ?_⟩)
  (repeat' (first | (guard_target =~ XS _ _ _ _ _; first | exact XS.next | refine XS.next ?_ | refine XS.seq ?_ | refine XS.set ?_ | refine XS.ret ?_ | refine XS.ite ?_ | refine XS.drop ?_ | refine XS.asg ?_ | refine XS.par3 ?_ | refine XS.par ?_ | refine XS.retN ?_ | refine XS.next ?_) | (guard_target =~ XE _ _ _ _ _; first | refine XE.var rfl ?_ | refine XE.int ?_ | refine XE.bl ?_ | refine XE.str ?_ | refine XE.non ?_ | refine XE.ixO rfl ?_ | refine XE.lenO rfl ?_ | refine XE.op dr_I0 ?_ | refine XE.op dr_I ?_ | refine XE.op dr_ixL ?_ | refine XE.op dr_ixT ?_ | refine XE.op dr_eq ?_ | refine XE.op dr_ne ?_ | refine XE.op dr_eqD ?_ | refine XE.op dr_neD ?_ | refine XE.op dr_isN ?_ | refine XE.op dr_notN ?_ | refine XE.op dr_eqO ?_ | refine XE.op dr_neO ?_ | refine XE.unI ?_ | refine XE.tup ?_ | refine XE.ofN (XN.lst ?_) | refine XE.ofN (XN.op dn_cat ?_) | refine XE.ofN (XN.op dn_rep ?_) | refine XE.ofN (XN.sl ?_) | refine XE.ofN (XN.cb dn_listOf ?_) | refine XE.cb db_abs ?_ | refine XE.cb db_max2 ?_ | refine XE.len1 ?_ | refine XE.cb db_lenO ?_ | refine XE.cb db_int1 ?_ | refine XE.call ?_ | refine XE.callX0 ?_ | refine XE.callP rfl ?_ | refine XE.andV ?_ | refine XE.orV ?_ | refine XE.notV ?_ | refine XE.ifE ?_ | refine XE.make ?_ | refine XE.isC ?_ | refine XE.isTy ?_ | refine XE.fld hH.cls hH.poly ?_ | refine XE.fld hH.cls hH.rows ?_ | refine XE.fld hH.cls hH.ways ?_ | refine XE.fld hN.cls hN.home ?_ | refine XE.fld hN.cls hN.parts ?_ | refine XE.km rfl ?_ | refine XE.kmX0 rfl ?_ | refine XE.kc rfl ?_ | refine XE.kcX0 rfl ?_) | (guard_target =~ XN _ _ _ _ _; first | refine XN.lst ?_ | refine XN.op dn_cat ?_ | refine XN.op dn_rep ?_ | refine XN.sl ?_ | refine XN.cb dn_listOf ?_) | (guard_target =~ XA _ _ _ _ _; first | refine XA.nil ?_ | refine XA.cons ?_) | (guard_target =~ XT _ _ _ _ _; first | refine XT.test ?_ | refine XT.b ?_ | refine XT.not ?_ | refine XT.and ?_ | refine XT.or ?_ | refine XT.yes ?_) | (guard_target =~ XO _ _ _ _ _; first | refine XO.no ?_ | refine XO.yes ?_) | (guard_target =~ XGs _ _ _ _ _ _; first | refine XGs.cons ?_ | refine XGs.nil ?_) | (guard_target =~ XG _ _ _ _ _ _; first | refine XG.name rfl ?_ | refine XG.tupG rfl ?_ | refine XG.unlG rfl ?_) | refine go_len1 rfl ?_ | refine go_fld rfl ?_ | refine go_ins rfl rfl ?_ | refine go_kc rfl rfl ?_ | refine go_isC ?_ | refine go_isTy rfl (by first | exact kb_int_int | exact kb_int_bool | exact kb_bool_int | exact kb_bool_bool | exact kb_str_str | exact kb_list_list | exact kb_tuple_tuple | exact kb_tuple_list | exact kb_list_tuple | exact kb_NoneType_list | exact kb_NoneType_int | exact kb_str_int | exact kb_int_list | exact kb_int_tuple | exact kb_NoneType_tuple | exact kb_list_int | exact kb_tuple_int | exact kb_str_bool) ?_ | refine go_non ?_ | refine go_I0 ?_ | refine go_I ?_ ?_ | refine go_ix rfl ?_ | refine go_ixT rfl ?_ | refine go_eq rfl rfl rfl ?_ | refine go_ne rfl rfl rfl ?_ | refine go_len rfl ?_ | refine go_cat ?_ ?_ | refine go_rep ?_ ?_ ?_ ?_ | refine go_un ?_ | refine go_int ?_ | refine go_lst ?_ | refine go_tup ?_ | refine go_str ?_ | refine go_bl ?_ | refine go_ixO rfl ?_ | refine go_put rfl ?_ | refine go_ext ?_ ?_ | refine go_app ?_ ?_ | refine go_rg1 ?_ ?_ | refine go_rg2 ?_ ?_ | refine go_rg3 ?_ ?_ | refine go_enum ?_ | refine go_zipS ?_ ?_ | refine go_zip ?_))
  any_goals (try exact Nat.le_of_ble_eq_true rfl)
  refine XE.isE (.own _) (XE.var rfl ⟨_, _, subK i 8, rfl, ko.ex i hi, kt 8 (by decide), ?_⟩)
  (repeat' (first | (guard_target =~ XS _ _ _ _ _; first | exact XS.next | refine XS.next ?_ | refine XS.seq ?_ | refine XS.set ?_ | refine XS.ret ?_ | refine XS.ite ?_ | refine XS.drop ?_ | refine XS.asg ?_ | refine XS.par3 ?_ | refine XS.par ?_ | refine XS.retN ?_ | refine XS.next ?_) | (guard_target =~ XE _ _ _ _ _; first | refine XE.var rfl ?_ | refine XE.int ?_ | refine XE.bl ?_ | refine XE.str ?_ | refine XE.non ?_ | refine XE.ixO rfl ?_ | refine XE.lenO rfl ?_ | refine XE.op dr_I0 ?_ | refine XE.op dr_I ?_ | refine XE.op dr_ixL ?_ | refine XE.op dr_ixT ?_ | refine XE.op dr_eq ?_ | refine XE.op dr_ne ?_ | refine XE.op dr_eqD ?_ | refine XE.op dr_neD ?_ | refine XE.op dr_isN ?_ | refine XE.op dr_notN ?_ | refine XE.op dr_eqO ?_ | refine XE.op dr_neO ?_ | refine XE.unI ?_ | refine XE.tup ?_ | refine XE.ofN (XN.lst ?_) | refine XE.ofN (XN.op dn_cat ?_) | refine XE.ofN (XN.op dn_rep ?_) | refine XE.ofN (XN.sl ?_) | refine XE.ofN (XN.cb dn_listOf ?_) | refine XE.cb db_abs ?_ | refine XE.cb db_max2 ?_ | refine XE.len1 ?_ | refine XE.cb db_lenO ?_ | refine XE.cb db_int1 ?_ | refine XE.call ?_ | refine XE.callX0 ?_ | refine XE.callP rfl ?_ | refine XE.andV ?_ | refine XE.orV ?_ | refine XE.notV ?_ | refine XE.ifE ?_ | refine XE.make ?_ | refine XE.isC ?_ | refine XE.isTy ?_ | refine XE.fld hH.cls hH.poly ?_ | refine XE.fld hH.cls hH.rows ?_ | refine XE.fld hH.cls hH.ways ?_ | refine XE.fld hN.cls hN.home ?_ | refine XE.fld hN.cls hN.parts ?_ | refine XE.km rfl ?_ | refine XE.kmX0 rfl ?_ | refine XE.kc rfl ?_ | refine XE.kcX0 rfl ?_) | (guard_target =~ XN _ _ _ _ _; first | refine XN.lst ?_ | refine XN.op dn_cat ?_ | refine XN.op dn_rep ?_ | refine XN.sl ?_ | refine XN.cb dn_listOf ?_) | (guard_target =~ XA _ _ _ _ _; first | refine XA.nil ?_ | refine XA.cons ?_) | (guard_target =~ XT _ _ _ _ _; first | refine XT.test ?_ | refine XT.b ?_ | refine XT.not ?_ | refine XT.and ?_ | refine XT.or ?_ | refine XT.yes ?_) | (guard_target =~ XO _ _ _ _ _; first | refine XO.no ?_ | refine XO.yes ?_) | (guard_target =~ XGs _ _ _ _ _ _; first | refine XGs.cons ?_ | refine XGs.nil ?_) | (guard_target =~ XG _ _ _ _ _ _; first | refine XG.name rfl ?_ | refine XG.tupG rfl ?_ | refine XG.unlG rfl ?_) | refine go_len1 rfl ?_ | refine go_fld rfl ?_ | refine go_ins rfl rfl ?_ | refine go_kc rfl rfl ?_ | refine go_isC ?_ | refine go_isTy rfl (by first | exact kb_int_int | exact kb_int_bool | exact kb_bool_int | exact kb_bool_bool | exact kb_str_str | exact kb_list_list | exact kb_tuple_tuple | exact kb_tuple_list | exact kb_list_tuple | exact kb_NoneType_list | exact kb_NoneType_int | exact kb_str_int | exact kb_int_list | exact kb_int_tuple | exact kb_NoneType_tuple | exact kb_list_int | exact kb_tuple_int | exact kb_str_bool) ?_ | refine go_non ?_ | refine go_I0 ?_ | refine go_I ?_ ?_ | refine go_ix rfl ?_ | refine go_ixT rfl ?_ | refine go_eq rfl rfl rfl ?_ | refine go_ne rfl rfl rfl ?_ | refine go_len rfl ?_ | refine go_cat ?_ ?_ | refine go_rep ?_ ?_ ?_ ?_ | refine go_un ?_ | refine go_int ?_ | refine go_lst ?_ | refine go_tup ?_ | refine go_str ?_ | refine go_bl ?_ | refine go_ixO rfl ?_ | refine go_put rfl ?_ | refine go_ext ?_ ?_ | refine go_app ?_ ?_ | refine go_rg1 ?_ ?_ | refine go_rg2 ?_ ?_ | refine go_rg3 ?_ ?_ | refine go_enum ?_ | refine go_zipS ?_ ?_ | refine go_zip ?_))
  any_goals (try exact Nat.le_of_ble_eq_true rfl)
  refine XE.isE (.own _) (XE.var rfl ⟨_, _, subK i 9, rfl, ko.ex i hi, kt 9 (by decide), ?_⟩)
  (repeat' (first | (guard_target =~ XS _ _ _ _ _; first | exact XS.next | refine XS.next ?_ | refine XS.seq ?_ | refine XS.set ?_ | refine XS.ret ?_ | refine XS.ite ?_ | refine XS.drop ?_ | refine XS.asg ?_ | refine XS.par3 ?_ | refine XS.par ?_ | refine XS.retN ?_ | refine XS.next ?_) | (guard_target =~ XE _ _ _ _ _; first | refine XE.var rfl ?_ | refine XE.int ?_ | refine XE.bl ?_ | refine XE.str ?_ | refine XE.non ?_ | refine XE.ixO rfl ?_ | refine XE.lenO rfl ?_ | refine XE.op dr_I0 ?_ | refine XE.op dr_I ?_ | refine XE.op dr_ixL ?_ | refine XE.op dr_ixT ?_ | refine XE.op dr_eq ?_ | refine XE.op dr_ne ?_ | refine XE.op dr_eqD ?_ | refine XE.op dr_neD ?_ | refine XE.op dr_isN ?_ | refine XE.op dr_notN ?_ | refine XE.op dr_eqO ?_ | refine XE.op dr_neO ?_ | refine XE.unI ?_ | refine XE.tup ?_ | refine XE.ofN (XN.lst ?_) | refine XE.ofN (XN.op dn_cat ?_) | refine XE.ofN (XN.op dn_rep ?_) | refine XE.ofN (XN.sl ?_) | refine XE.ofN (XN.cb dn_listOf ?_) | refine XE.cb db_abs ?_ | refine XE.cb db_max2 ?_ | refine XE.len1 ?_ | refine XE.cb db_lenO ?_ | refine XE.cb db_int1 ?_ | refine XE.call ?_ | refine XE.callX0 ?_ | refine XE.callP rfl ?_ | refine XE.andV ?_ | refine XE.orV ?_ | refine XE.notV ?_ | refine XE.ifE ?_ | refine XE.make ?_ | refine XE.isC ?_ | refine XE.isTy ?_ | refine XE.fld hH.cls hH.poly ?_ | refine XE.fld hH.cls hH.rows ?_ | refine XE.fld hH.cls hH.ways ?_ | refine XE.fld hN.cls hN.home ?_ | refine XE.fld hN.cls hN.parts ?_ | refine XE.km rfl ?_ | refine XE.kmX0 rfl ?_ | refine XE.kc rfl ?_ | refine XE.kcX0 rfl ?_) | (guard_target =~ XN _ _ _ _ _; first | refine XN.lst ?_ | refine XN.op dn_cat ?_ | refine XN.op dn_rep ?_ | refine XN.sl ?_ | refine XN.cb dn_listOf ?_) | (guard_target =~ XA _ _ _ _ _; first | refine XA.nil ?_ | refine XA.cons ?_) | (guard_target =~ XT _ _ _ _ _; first | refine XT.test ?_ | refine XT.b ?_ | refine XT.not ?_ | refine XT.and ?_ | refine XT.or ?_ | refine XT.yes ?_) | (guard_target =~ XO _ _ _ _ _; first | refine XO.no ?_ | refine XO.yes ?_) | (guard_target =~ XGs _ _ _ _ _ _; first | refine XGs.cons ?_ | refine XGs.nil ?_) | (guard_target =~ XG _ _ _ _ _ _; first | refine XG.name rfl ?_ | refine XG.tupG rfl ?_ | refine XG.unlG rfl ?_) | refine go_len1 rfl ?_ | refine go_fld rfl ?_ | refine go_ins rfl rfl ?_ | refine go_kc rfl rfl ?_ | refine go_isC ?_ | refine go_isTy rfl (by first | exact kb_int_int | exact kb_int_bool | exact kb_bool_int | exact kb_bool_bool | exact kb_str_str | exact kb_list_list | exact kb_tuple_tuple | exact kb_tuple_list | exact kb_list_tuple | exact kb_NoneType_list | exact kb_NoneType_int | exact kb_str_int | exact kb_int_list | exact kb_int_tuple | exact kb_NoneType_tuple | exact kb_list_int | exact kb_tuple_int | exact kb_str_bool) ?_ | refine go_non ?_ | refine go_I0 ?_ | refine go_I ?_ ?_ | refine go_ix rfl ?_ | refine go_ixT rfl ?_ | refine go_eq rfl rfl rfl ?_ | refine go_ne rfl rfl rfl ?_ | refine go_len rfl ?_ | refine go_cat ?_ ?_ | refine go_rep ?_ ?_ ?_ ?_ | refine go_un ?_ | refine go_int ?_ | refine go_lst ?_ | refine go_tup ?_ | refine go_str ?_ | refine go_bl ?_ | refine go_ixO rfl ?_ | refine go_put rfl ?_ | refine go_ext ?_ ?_ | refine go_app ?_ ?_ | refine go_rg1 ?_ ?_ | refine go_rg2 ?_ ?_ | refine go_rg3 ?_ ?_ | refine go_enum ?_ | refine go_zipS ?_ ?_ | refine go_zip ?_))
  any_goals (try exact Nat.le_of_ble_eq_true rfl)
  refine XE.isE (.own _) (XE.var rfl ⟨_, _, subK i 10, rfl, ko.ex i hi, kt 10 (by decide), ?_⟩)
  (repeat' (first | (guard_target =~ XS _ _ _ _ _; first | exact XS.next | refine XS.next ?_ | refine XS.seq ?_ | refine XS.set ?_ | refine XS.ret ?_ | refine XS.ite ?_ | refine XS.drop ?_ | refine XS.asg ?_ | refine XS.par3 ?_ | refine XS.par ?_ | refine XS.retN ?_ | refine XS.next ?_) | (guard_target =~ XE _ _ _ _ _; first | refine XE.var rfl ?_ | refine XE.int ?_ | refine XE.bl ?_ | refine XE.str ?_ | refine XE.non ?_ | refine XE.ixO rfl ?_ | refine XE.lenO rfl ?_ | refine XE.op dr_I0 ?_ | refine XE.op dr_I ?_ | refine XE.op dr_ixL ?_ | refine XE.op dr_ixT ?_ | refine XE.op dr_eq ?_ | refine XE.op dr_ne ?_ | refine XE.op dr_eqD ?_ | refine XE.op dr_neD ?_ | refine XE.op dr_isN ?_ | refine XE.op dr_notN ?_ | refine XE.op dr_eqO ?_ | refine XE.op dr_neO ?_ | refine XE.unI ?_ | refine XE.tup ?_ | refine XE.ofN (XN.lst ?_) | refine XE.ofN (XN.op dn_cat ?_) | refine XE.ofN (XN.op dn_rep ?_) | refine XE.ofN (XN.sl ?_) | refine XE.ofN (XN.cb dn_listOf ?_) | refine XE.cb db_abs ?_ | refine XE.cb db_max2 ?_ | refine XE.len1 ?_ | refine XE.cb db_lenO ?_ | refine XE.cb db_int1 ?_ | refine XE.call ?_ | refine XE.callX0 ?_ | refine XE.callP rfl ?_ | refine XE.andV ?_ | refine XE.orV ?_ | refine XE.notV ?_ | refine XE.ifE ?_ | refine XE.make ?_ | refine XE.isC ?_ | refine XE.isTy ?_ | refine XE.fld hH.cls hH.poly ?_ | refine XE.fld hH.cls hH.rows ?_ | refine XE.fld hH.cls hH.ways ?_ | refine XE.fld hN.cls hN.home ?_ | refine XE.fld hN.cls hN.parts ?_ | refine XE.km rfl ?_ | refine XE.kmX0 rfl ?_ | refine XE.kc rfl ?_ | refine XE.kcX0 rfl ?_) | (guard_target =~ XN _ _ _ _ _; first | refine XN.lst ?_ | refine XN.op dn_cat ?_ | refine XN.op dn_rep ?_ | refine XN.sl ?_ | refine XN.cb dn_listOf ?_) | (guard_target =~ XA _ _ _ _ _; first | refine XA.nil ?_ | refine XA.cons ?_) | (guard_target =~ XT _ _ _ _ _; first | refine XT.test ?_ | refine XT.b ?_ | refine XT.not ?_ | refine XT.and ?_ | refine XT.or ?_ | refine XT.yes ?_) | (guard_target =~ XO _ _ _ _ _; first | refine XO.no ?_ | refine XO.yes ?_) | (guard_target =~ XGs _ _ _ _ _ _; first | refine XGs.cons ?_ | refine XGs.nil ?_) | (guard_target =~ XG _ _ _ _ _ _; first | refine XG.name rfl ?_ | refine XG.tupG rfl ?_ | refine XG.unlG rfl ?_) | refine go_len1 rfl ?_ | refine go_fld rfl ?_ | refine go_ins rfl rfl ?_ | refine go_kc rfl rfl ?_ | refine go_isC ?_ | refine go_isTy rfl (by first | exact kb_int_int | exact kb_int_bool | exact kb_bool_int | exact kb_bool_bool | exact kb_str_str | exact kb_list_list | exact kb_tuple_tuple | exact kb_tuple_list | exact kb_list_tuple | exact kb_NoneType_list | exact kb_NoneType_int | exact kb_str_int | exact kb_int_list | exact kb_int_tuple | exact kb_NoneType_tuple | exact kb_list_int | exact kb_tuple_int | exact kb_str_bool) ?_ | refine go_non ?_ | refine go_I0 ?_ | refine go_I ?_ ?_ | refine go_ix rfl ?_ | refine go_ixT rfl ?_ | refine go_eq rfl rfl rfl ?_ | refine go_ne rfl rfl rfl ?_ | refine go_len rfl ?_ | refine go_cat ?_ ?_ | refine go_rep ?_ ?_ ?_ ?_ | refine go_un ?_ | refine go_int ?_ | refine go_lst ?_ | refine go_tup ?_ | refine go_str ?_ | refine go_bl ?_ | refine go_ixO rfl ?_ | refine go_put rfl ?_ | refine go_ext ?_ ?_ | refine go_app ?_ ?_ | refine go_rg1 ?_ ?_ | refine go_rg2 ?_ ?_ | refine go_rg3 ?_ ?_ | refine go_enum ?_ | refine go_zipS ?_ ?_ | refine go_zip ?_))
  any_goals (try exact Nat.le_of_ble_eq_true rfl)
  refine XE.isE (.own _) (XE.var rfl ⟨_, _, subK i 11, rfl, ko.ex i hi, kt 11 (by decide), ?_⟩)
  (repeat' (first | (guard_target =~ XS _ _ _ _ _; first | exact XS.next | refine XS.next ?_ | refine XS.seq ?_ | refine XS.set ?_ | refine XS.ret ?_ | refine XS.ite ?_ | refine XS.drop ?_ | refine XS.asg ?_ | refine XS.par3 ?_ | refine XS.par ?_ | refine XS.retN ?_ | refine XS.next ?_) | (guard_target =~ XE _ _ _ _ _; first | refine XE.var rfl ?_ | refine XE.int ?_ | refine XE.bl ?_ | refine XE.str ?_ | refine XE.non ?_ | refine XE.ixO rfl ?_ | refine XE.lenO rfl ?_ | refine XE.op dr_I0 ?_ | refine XE.op dr_I ?_ | refine XE.op dr_ixL ?_ | refine XE.op dr_ixT ?_ | refine XE.op dr_eq ?_ | refine XE.op dr_ne ?_ | refine XE.op dr_eqD ?_ | refine XE.op dr_neD ?_ | refine XE.op dr_isN ?_ | refine XE.op dr_notN ?_ | refine XE.op dr_eqO ?_ | refine XE.op dr_neO ?_ | refine XE.unI ?_ | refine XE.tup ?_ | refine XE.ofN (XN.lst ?_) | refine XE.ofN (XN.op dn_cat ?_) | refine XE.ofN (XN.op dn_rep ?_) | refine XE.ofN (XN.sl ?_) | refine XE.ofN (XN.cb dn_listOf ?_) | refine XE.cb db_abs ?_ | refine XE.cb db_max2 ?_ | refine XE.len1 ?_ | refine XE.cb db_lenO ?_ | refine XE.cb db_int1 ?_ | refine XE.call ?_ | refine XE.callX0 ?_ | refine XE.callP rfl ?_ | refine XE.andV ?_ | refine XE.orV ?_ | refine XE.notV ?_ | refine XE.ifE ?_ | refine XE.make ?_ | refine XE.isC ?_ | refine XE.isTy ?_ | refine XE.fld hH.cls hH.poly ?_ | refine XE.fld hH.cls hH.rows ?_ | refine XE.fld hH.cls hH.ways ?_ | refine XE.fld hN.cls hN.home ?_ | refine XE.fld hN.cls hN.parts ?_ | refine XE.km rfl ?_ | refine XE.kmX0 rfl ?_ | refine XE.kc rfl ?_ | refine XE.kcX0 rfl ?_) | (guard_target =~ XN _ _ _ _ _; first | refine XN.lst ?_ | refine XN.op dn_cat ?_ | refine XN.op dn_rep ?_ | refine XN.sl ?_ | refine XN.cb dn_listOf ?_) | (guard_target =~ XA _ _ _ _ _; first | refine XA.nil ?_ | refine XA.cons ?_) | (guard_target =~ XT _ _ _ _ _; first | refine XT.test ?_ | refine XT.b ?_ | refine XT.not ?_ | refine XT.and ?_ | refine XT.or ?_ | refine XT.yes ?_) | (guard_target =~ XO _ _ _ _ _; first | refine XO.no ?_ | refine XO.yes ?_) | (guard_target =~ XGs _ _ _ _ _ _; first | refine XGs.cons ?_ | refine XGs.nil ?_) | (guard_target =~ XG _ _ _ _ _ _; first | refine XG.name rfl ?_ | refine XG.tupG rfl ?_ | refine XG.unlG rfl ?_) | refine go_len1 rfl ?_ | refine go_fld rfl ?_ | refine go_ins rfl rfl ?_ | refine go_kc rfl rfl ?_ | refine go_isC ?_ | refine go_isTy rfl (by first | exact kb_int_int | exact kb_int_bool | exact kb_bool_int | exact kb_bool_bool | exact kb_str_str | exact kb_list_list | exact kb_tuple_tuple | exact kb_tuple_list | exact kb_list_tuple | exact kb_NoneType_list | exact kb_NoneType_int | exact kb_str_int | exact kb_int_list | exact kb_int_tuple | exact kb_NoneType_tuple | exact kb_list_int | exact kb_tuple_int | exact kb_str_bool) ?_ | refine go_non ?_ | refine go_I0 ?_ | refine go_I ?_ ?_ | refine go_ix rfl ?_ | refine go_ixT rfl ?_ | refine go_eq rfl rfl rfl ?_ | refine go_ne rfl rfl rfl ?_ | refine go_len rfl ?_ | refine go_cat ?_ ?_ | refine go_rep ?_ ?_ ?_ ?_ | refine go_un ?_ | refine go_int ?_ | refine go_lst ?_ | refine go_tup ?_ | refine go_str ?_ | refine go_bl ?_ | refine go_ixO rfl ?_ | refine go_put rfl ?_ | refine go_ext ?_ ?_ | refine go_app ?_ ?_ | refine go_rg1 ?_ ?_ | refine go_rg2 ?_ ?_ | refine go_rg3 ?_ ?_ | refine go_enum ?_ | refine go_zipS ?_ ?_ | refine go_zip ?_))
  any_goals (try exact Nat.le_of_ble_eq_true rfl)
  refine XE.isE (.own _) (XE.var rfl ⟨_, _, subK i 12, rfl, ko.ex i hi, kt 12 (by decide), ?_⟩)
  (repeat' (first | (guard_target =~ XS _ _ _ _ _; first | exact XS.next | refine XS.next ?_ | refine XS.seq ?_ | refine XS.set ?_ | refine XS.ret ?_ | refine XS.ite ?_ | refine XS.drop ?_ | refine XS.asg ?_ | refine XS.par3 ?_ | refine XS.par ?_ | refine XS.retN ?_ | refine XS.next ?_) | (guard_target =~ XE _ _ _ _ _; first | refine XE.var rfl ?_ | refine XE.int ?_ | refine XE.bl ?_ | refine XE.str ?_ | refine XE.non ?_ | refine XE.ixO rfl ?_ | refine XE.lenO rfl ?_ | refine XE.op dr_I0 ?_ | refine XE.op dr_I ?_ | refine XE.op dr_ixL ?_ | refine XE.op dr_ixT ?_ | refine XE.op dr_eq ?_ | refine XE.op dr_ne ?_ | refine XE.op dr_eqD ?_ | refine XE.op dr_neD ?_ | refine XE.op dr_isN ?_ | refine XE.op dr_notN ?_ | refine XE.op dr_eqO ?_ | refine XE.op dr_neO ?_ | refine XE.unI ?_ | refine XE.tup ?_ | refine XE.ofN (XN.lst ?_) | refine XE.ofN (XN.op dn_cat ?_) | refine XE.ofN (XN.op dn_rep ?_) | refine XE.ofN (XN.sl ?_) | refine XE.ofN (XN.cb dn_listOf ?_) | refine XE.cb db_abs ?_ | refine XE.cb db_max2 ?_ | refine XE.len1 ?_ | refine XE.cb db_lenO ?_ | refine XE.cb db_int1 ?_ | refine XE.call ?_ | refine XE.callX0 ?_ | refine XE.callP rfl ?_ | refine XE.andV ?_ | refine XE.orV ?_ | refine XE.notV ?_ | refine XE.ifE ?_ | refine XE.make ?_ | refine XE.isC ?_ | refine XE.isTy ?_ | refine XE.fld hH.cls hH.poly ?_ | refine XE.fld hH.cls hH.rows ?_ | refine XE.fld hH.cls hH.ways ?_ | refine XE.fld hN.cls hN.home ?_ | refine XE.fld hN.cls hN.parts ?_ | refine XE.km rfl ?_ | refine XE.kmX0 rfl ?_ | refine XE.kc rfl ?_ | refine XE.kcX0 rfl ?_) | (guard_target =~ XN _ _ _ _ _; first | refine XN.lst ?_ | refine XN.op dn_cat ?_ | refine XN.op dn_rep ?_ | refine XN.sl ?_ | refine XN.cb dn_listOf ?_) | (guard_target =~ XA _ _ _ _ _; first | refine XA.nil ?_ | refine XA.cons ?_) | (guard_target =~ XT _ _ _ _ _; first | refine XT.test ?_ | refine XT.b ?_ | refine XT.not ?_ | refine XT.and ?_ | refine XT.or ?_ | refine XT.yes ?_) | (guard_target =~ XO _ _ _ _ _; first | refine XO.no ?_ | refine XO.yes ?_) | (guard_target =~ XGs _ _ _ _ _ _; first | refine XGs.cons ?_ | refine XGs.nil ?_) | (guard_target =~ XG _ _ _ _ _ _; first | refine XG.name rfl ?_ | refine XG.tupG rfl ?_ | refine XG.unlG rfl ?_) | refine go_len1 rfl ?_ | refine go_fld rfl ?_ | refine go_ins rfl rfl ?_ | refine go_kc rfl rfl ?_ | refine go_isC ?_ | refine go_isTy rfl (by first | exact kb_int_int | exact kb_int_bool | exact kb_bool_int | exact kb_bool_bool | exact kb_str_str | exact kb_list_list | exact kb_tuple_tuple | exact kb_tuple_list | exact kb_list_tuple | exact kb_NoneType_list | exact kb_NoneType_int | exact kb_str_int | exact kb_int_list | exact kb_int_tuple | exact kb_NoneType_tuple | exact kb_list_int | exact kb_tuple_int | exact kb_str_bool) ?_ | refine go_non ?_ | refine go_I0 ?_ | refine go_I ?_ ?_ | refine go_ix rfl ?_ | refine go_ixT rfl ?_ | refine go_eq rfl rfl rfl ?_ | refine go_ne rfl rfl rfl ?_ | refine go_len rfl ?_ | refine go_cat ?_ ?_ | refine go_rep ?_ ?_ ?_ ?_ | refine go_un ?_ | refine go_int ?_ | refine go_lst ?_ | refine go_tup ?_ | refine go_str ?_ | refine go_bl ?_ | refine go_ixO rfl ?_ | refine go_put rfl ?_ | refine go_ext ?_ ?_ | refine go_app ?_ ?_ | refine go_rg1 ?_ ?_ | refine go_rg2 ?_ ?_ | refine go_rg3 ?_ ?_ | refine go_enum ?_ | refine go_zipS ?_ ?_ | refine go_zip ?_))
  any_goals (try exact Nat.le_of_ble_eq_true rfl)
  refine XE.isE (.own _) (XE.var rfl ⟨_, _, subK i 13, rfl, ko.ex i hi, kt 13 (by decide), ?_⟩)
  (repeat' (first | (guard_target =~ XS _ _ _ _ _; first | exact XS.next | refine XS.next ?_ | refine XS.seq ?_ | refine XS.set ?_ | refine XS.ret ?_ | refine XS.ite ?_ | refine XS.drop ?_ | refine XS.asg ?_ | refine XS.par3 ?_ | refine XS.par ?_ | refine XS.retN ?_ | refine XS.next ?_) | (guard_target =~ XE _ _ _ _ _; first | refine XE.var rfl ?_ | refine XE.int ?_ | refine XE.bl ?_ | refine XE.str ?_ | refine XE.non ?_ | refine XE.ixO rfl ?_ | refine XE.lenO rfl ?_ | refine XE.op dr_I0 ?_ | refine XE.op dr_I ?_ | refine XE.op dr_ixL ?_ | refine XE.op dr_ixT ?_ | refine XE.op dr_eq ?_ | refine XE.op dr_ne ?_ | refine XE.op dr_eqD ?_ | refine XE.op dr_neD ?_ | refine XE.op dr_isN ?_ | refine XE.op dr_notN ?_ | refine XE.op dr_eqO ?_ | refine XE.op dr_neO ?_ | refine XE.unI ?_ | refine XE.tup ?_ | refine XE.ofN (XN.lst ?_) | refine XE.ofN (XN.op dn_cat ?_) | refine XE.ofN (XN.op dn_rep ?_) | refine XE.ofN (XN.sl ?_) | refine XE.ofN (XN.cb dn_listOf ?_) | refine XE.cb db_abs ?_ | refine XE.cb db_max2 ?_ | refine XE.len1 ?_ | refine XE.cb db_lenO ?_ | refine XE.cb db_int1 ?_ | refine XE.call ?_ | refine XE.callX0 ?_ | refine XE.callP rfl ?_ | refine XE.andV ?_ | refine XE.orV ?_ | refine XE.notV ?_ | refine XE.ifE ?_ | refine XE.make ?_ | refine XE.isC ?_ | refine XE.isTy ?_ | refine XE.fld hH.cls hH.poly ?_ | refine XE.fld hH.cls hH.rows ?_ | refine XE.fld hH.cls hH.ways ?_ | refine XE.fld hN.cls hN.home ?_ | refine XE.fld hN.cls hN.parts ?_ | refine XE.km rfl ?_ | refine XE.kmX0 rfl ?_ | refine XE.kc rfl ?_ | refine XE.kcX0 rfl ?_) | (guard_target =~ XN _ _ _ _ _; first | refine XN.lst ?_ | refine XN.op dn_cat ?_ | refine XN.op dn_rep ?_ | refine XN.sl ?_ | refine XN.cb dn_listOf ?_) | (guard_target =~ XA _ _ _ _ _; first | refine XA.nil ?_ | refine XA.cons ?_) | (guard_target =~ XT _ _ _ _ _; first | refine XT.test ?_ | refine XT.b ?_ | refine XT.not ?_ | refine XT.and ?_ | refine XT.or ?_ | refine XT.yes ?_) | (guard_target =~ XO _ _ _ _ _; first | refine XO.no ?_ | refine XO.yes ?_) | (guard_target =~ XGs _ _ _ _ _ _; first | refine XGs.cons ?_ | refine XGs.nil ?_) | (guard_target =~ XG _ _ _ _ _ _; first | refine XG.name rfl ?_ | refine XG.tupG rfl ?_ | refine XG.unlG rfl ?_) | refine go_len1 rfl ?_ | refine go_fld rfl ?_ | refine go_ins rfl rfl ?_ | refine go_kc rfl rfl ?_ | refine go_isC ?_ | refine go_isTy rfl (by first | exact kb_int_int | exact kb_int_bool | exact kb_bool_int | exact kb_bool_bool | exact kb_str_str | exact kb_list_list | exact kb_tuple_tuple | exact kb_tuple_list | exact kb_list_tuple | exact kb_NoneType_list | exact kb_NoneType_int | exact kb_str_int | exact kb_int_list | exact kb_int_tuple | exact kb_NoneType_tuple | exact kb_list_int | exact kb_tuple_int | exact kb_str_bool) ?_ | refine go_non ?_ | refine go_I0 ?_ | refine go_I ?_ ?_ | refine go_ix rfl ?_ | refine go_ixT rfl ?_ | refine go_eq rfl rfl rfl ?_ | refine go_ne rfl rfl rfl ?_ | refine go_len rfl ?_ | refine go_cat ?_ ?_ | refine go_rep ?_ ?_ ?_ ?_ | refine go_un ?_ | refine go_int ?_ | refine go_lst ?_ | refine go_tup ?_ | refine go_str ?_ | refine go_bl ?_ | refine go_ixO rfl ?_ | refine go_put rfl ?_ | refine go_ext ?_ ?_ | refine go_app ?_ ?_ | refine go_rg1 ?_ ?_ | refine go_rg2 ?_ ?_ | refine go_rg3 ?_ ?_ | refine go_enum ?_ | refine go_zipS ?_ ?_ | refine go_zip ?_))
  all_goals first | exact k | exact Nat.le_of_ble_eq_true rfl
abbrev s_Lkinds : Stmt := top 22
abbrev N_Lkinds : List Str := ["_law_one", "_law_found"]
abbrev P_Lkinds : List Str := ["_law_one"]
theorem sc_Lkinds : FnScope N_Lkinds ["_law_one"] (defScope s_Lkinds) := ⟨rfl, rfl, rfl, by decide +kernel, rfl, by decide +kernel, by decide +kernel⟩

theorem ok_Lkinds (T : Txt K mg c) (ko : KO K c) {f : Addr} {fd : FuncData} (F : L2.Fun K "_law_kinds" "_law_kinds" s_Lkinds f fd) : FnOk P w K mg base CX0 1 f fd P_Lkinds (spD (W_kinds c)) := by
  refine okD F sc_Lkinds (fun ds C h => ?_) (fun cdv A outer s H E hr => ⟨_, (pss_cons (ps_set (i := 1) sc_Lkinds.nd rfl (by first | exact Or.inl rfl | exact Or.inr rfl) (pe_lst (pa_cons (pe_callB call_isA (by rfl) T.z_isinstance (by decide +kernel) (pa_cons (pv 0) (pa_cons (pe_gc (v := .ref c.RootError) rfl ⟨_, T.g_RootError, rfl⟩) pa_nil))) (pa_cons (pe_callB call_isA (by rfl) T.z_isinstance (by decide +kernel) (pa_cons (pv 0) (pa_cons (pe_bltn (v := .ty "ValueError") (by rfl) T.z_ValueError (by decide +kernel) rfl) pa_nil))) (pa_cons (pe_callB call_isA (by rfl) T.z_isinstance (by decide +kernel) (pa_cons (pv 0) (pa_cons (pe_bltn (v := .ty "ZeroDivisionError") (by rfl) T.z_ZeroDivisionError (by decide +kernel) rfl) pa_nil))) pa_nil)))))
      (pss_one (ps_ret (pe_op op_cat (pv 1) (pe_lst (pa_cons (pe_callB call_isA (by rfl) T.z_isinstance (by decide +kernel) (pa_cons (pv 0) (pa_cons (pe_bltn (v := .ty "KeyError") (by rfl) T.z_KeyError (by decide +kernel) rfl) pa_nil))) pa_nil)))))), fun z ds C h => ?_⟩)
  · obtain ⟨i, fs, rfl, _⟩ := h; rfl
  obtain ⟨i, fs, rfl, hi, k⟩ := h
  show XS z _ [.dt (.exc (clsK c i) fs), .un] _ _
  (repeat' (first | (guard_target =~ XS _ _ _ _ _; first | exact XS.next | refine XS.next ?_ | refine XS.seq ?_ | refine XS.set ?_ | refine XS.ret ?_ | refine XS.ite ?_ | refine XS.drop ?_ | refine XS.asg ?_ | refine XS.par3 ?_ | refine XS.par ?_ | refine XS.retN ?_ | refine XS.next ?_) | (guard_target =~ XE _ _ _ _ _; first | refine XE.var rfl ?_ | refine XE.int ?_ | refine XE.bl ?_ | refine XE.str ?_ | refine XE.non ?_ | refine XE.ixO rfl ?_ | refine XE.lenO rfl ?_ | refine XE.op dr_I0 ?_ | refine XE.op dr_I ?_ | refine XE.op dr_ixL ?_ | refine XE.op dr_ixT ?_ | refine XE.op dr_eq ?_ | refine XE.op dr_ne ?_ | refine XE.op dr_eqD ?_ | refine XE.op dr_neD ?_ | refine XE.op dr_isN ?_ | refine XE.op dr_notN ?_ | refine XE.op dr_eqO ?_ | refine XE.op dr_neO ?_ | refine XE.unI ?_ | refine XE.tup ?_ | refine XE.ofN (XN.lst ?_) | refine XE.ofN (XN.op dn_cat ?_) | refine XE.ofN (XN.op dn_rep ?_) | refine XE.ofN (XN.sl ?_) | refine XE.ofN (XN.cb dn_listOf ?_) | refine XE.cb db_abs ?_ | refine XE.cb db_max2 ?_ | refine XE.len1 ?_ | refine XE.cb db_lenO ?_ | refine XE.cb db_int1 ?_ | refine XE.call ?_ | refine XE.callX0 ?_ | refine XE.callP rfl ?_ | refine XE.andV ?_ | refine XE.orV ?_ | refine XE.notV ?_ | refine XE.ifE ?_ | refine XE.make ?_ | refine XE.isC ?_ | refine XE.isTy ?_ | refine XE.fld hH.cls hH.poly ?_ | refine XE.fld hH.cls hH.rows ?_ | refine XE.fld hH.cls hH.ways ?_ | refine XE.fld hN.cls hN.home ?_ | refine XE.fld hN.cls hN.parts ?_ | refine XE.km rfl ?_ | refine XE.kmX0 rfl ?_ | refine XE.kc rfl ?_ | refine XE.kcX0 rfl ?_) | (guard_target =~ XN _ _ _ _ _; first | refine XN.lst ?_ | refine XN.op dn_cat ?_ | refine XN.op dn_rep ?_ | refine XN.sl ?_ | refine XN.cb dn_listOf ?_) | (guard_target =~ XA _ _ _ _ _; first | refine XA.nil ?_ | refine XA.cons ?_) | (guard_target =~ XT _ _ _ _ _; first | refine XT.test ?_ | refine XT.b ?_ | refine XT.not ?_ | refine XT.and ?_ | refine XT.or ?_ | refine XT.yes ?_) | (guard_target =~ XO _ _ _ _ _; first | refine XO.no ?_ | refine XO.yes ?_) | (guard_target =~ XGs _ _ _ _ _ _; first | refine XGs.cons ?_ | refine XGs.nil ?_) | (guard_target =~ XG _ _ _ _ _ _; first | refine XG.name rfl ?_ | refine XG.tupG rfl ?_ | refine XG.unlG rfl ?_) | refine go_len1 rfl ?_ | refine go_fld rfl ?_ | refine go_ins rfl rfl ?_ | refine go_kc rfl rfl ?_ | refine go_isC ?_ | refine go_isTy rfl (by first | exact kb_int_int | exact kb_int_bool | exact kb_bool_int | exact kb_bool_bool | exact kb_str_str | exact kb_list_list | exact kb_tuple_tuple | exact kb_tuple_list | exact kb_list_tuple | exact kb_NoneType_list | exact kb_NoneType_int | exact kb_str_int | exact kb_int_list | exact kb_int_tuple | exact kb_NoneType_tuple | exact kb_list_int | exact kb_tuple_int | exact kb_str_bool) ?_ | refine go_non ?_ | refine go_I0 ?_ | refine go_I ?_ ?_ | refine go_ix rfl ?_ | refine go_ixT rfl ?_ | refine go_eq rfl rfl rfl ?_ | refine go_ne rfl rfl rfl ?_ | refine go_len rfl ?_ | refine go_cat ?_ ?_ | refine go_rep ?_ ?_ ?_ ?_ | refine go_un ?_ | refine go_int ?_ | refine go_lst ?_ | refine go_tup ?_ | refine go_str ?_ | refine go_bl ?_ | refine go_ixO rfl ?_ | refine go_put rfl ?_ | refine go_ext ?_ ?_ | refine go_app ?_ ?_ | refine go_rg1 ?_ ?_ | refine go_rg2 ?_ ?_ | refine go_rg3 ?_ ?_ | refine go_enum ?_ | refine go_zipS ?_ ?_ | refine go_zip ?_))
  any_goals (try exact Nat.le_of_ble_eq_true rfl)
  refine XE.isE (.own _) (XE.var rfl ⟨_, _, _, rfl, ko.ex i hi, ko.kit i hi 14 (by decide), ?_⟩)
  (repeat' (first | (guard_target =~ XS _ _ _ _ _; first | exact XS.next | refine XS.next ?_ | refine XS.seq ?_ | refine XS.set ?_ | refine XS.ret ?_ | refine XS.ite ?_ | refine XS.drop ?_ | refine XS.asg ?_ | refine XS.par3 ?_ | refine XS.par ?_ | refine XS.retN ?_ | refine XS.next ?_) | (guard_target =~ XE _ _ _ _ _; first | refine XE.var rfl ?_ | refine XE.int ?_ | refine XE.bl ?_ | refine XE.str ?_ | refine XE.non ?_ | refine XE.ixO rfl ?_ | refine XE.lenO rfl ?_ | refine XE.op dr_I0 ?_ | refine XE.op dr_I ?_ | refine XE.op dr_ixL ?_ | refine XE.op dr_ixT ?_ | refine XE.op dr_eq ?_ | refine XE.op dr_ne ?_ | refine XE.op dr_eqD ?_ | refine XE.op dr_neD ?_ | refine XE.op dr_isN ?_ | refine XE.op dr_notN ?_ | refine XE.op dr_eqO ?_ | refine XE.op dr_neO ?_ | refine XE.unI ?_ | refine XE.tup ?_ | refine XE.ofN (XN.lst ?_) | refine XE.ofN (XN.op dn_cat ?_) | refine XE.ofN (XN.op dn_rep ?_) | refine XE.ofN (XN.sl ?_) | refine XE.ofN (XN.cb dn_listOf ?_) | refine XE.cb db_abs ?_ | refine XE.cb db_max2 ?_ | refine XE.len1 ?_ | refine XE.cb db_lenO ?_ | refine XE.cb db_int1 ?_ | refine XE.call ?_ | refine XE.callX0 ?_ | refine XE.callP rfl ?_ | refine XE.andV ?_ | refine XE.orV ?_ | refine XE.notV ?_ | refine XE.ifE ?_ | refine XE.make ?_ | refine XE.isC ?_ | refine XE.isTy ?_ | refine XE.fld hH.cls hH.poly ?_ | refine XE.fld hH.cls hH.rows ?_ | refine XE.fld hH.cls hH.ways ?_ | refine XE.fld hN.cls hN.home ?_ | refine XE.fld hN.cls hN.parts ?_ | refine XE.km rfl ?_ | refine XE.kmX0 rfl ?_ | refine XE.kc rfl ?_ | refine XE.kcX0 rfl ?_) | (guard_target =~ XN _ _ _ _ _; first | refine XN.lst ?_ | refine XN.op dn_cat ?_ | refine XN.op dn_rep ?_ | refine XN.sl ?_ | refine XN.cb dn_listOf ?_) | (guard_target =~ XA _ _ _ _ _; first | refine XA.nil ?_ | refine XA.cons ?_) | (guard_target =~ XT _ _ _ _ _; first | refine XT.test ?_ | refine XT.b ?_ | refine XT.not ?_ | refine XT.and ?_ | refine XT.or ?_ | refine XT.yes ?_) | (guard_target =~ XO _ _ _ _ _; first | refine XO.no ?_ | refine XO.yes ?_) | (guard_target =~ XGs _ _ _ _ _ _; first | refine XGs.cons ?_ | refine XGs.nil ?_) | (guard_target =~ XG _ _ _ _ _ _; first | refine XG.name rfl ?_ | refine XG.tupG rfl ?_ | refine XG.unlG rfl ?_) | refine go_len1 rfl ?_ | refine go_fld rfl ?_ | refine go_ins rfl rfl ?_ | refine go_kc rfl rfl ?_ | refine go_isC ?_ | refine go_isTy rfl (by first | exact kb_int_int | exact kb_int_bool | exact kb_bool_int | exact kb_bool_bool | exact kb_str_str | exact kb_list_list | exact kb_tuple_tuple | exact kb_tuple_list | exact kb_list_tuple | exact kb_NoneType_list | exact kb_NoneType_int | exact kb_str_int | exact kb_int_list | exact kb_int_tuple | exact kb_NoneType_tuple | exact kb_list_int | exact kb_tuple_int | exact kb_str_bool) ?_ | refine go_non ?_ | refine go_I0 ?_ | refine go_I ?_ ?_ | refine go_ix rfl ?_ | refine go_ixT rfl ?_ | refine go_eq rfl rfl rfl ?_ | refine go_ne rfl rfl rfl ?_ | refine go_len rfl ?_ | refine go_cat ?_ ?_ | refine go_rep ?_ ?_ ?_ ?_ | refine go_un ?_ | refine go_int ?_ | refine go_lst ?_ | refine go_tup ?_ | refine go_str ?_ | refine go_bl ?_ | refine go_ixO rfl ?_ | refine go_put rfl ?_ | refine go_ext ?_ ?_ | refine go_app ?_ ?_ | refine go_rg1 ?_ ?_ | refine go_rg2 ?_ ?_ | refine go_rg3 ?_ ?_ | refine go_enum ?_ | refine go_zipS ?_ ?_ | refine go_zip ?_))
  any_goals (try exact Nat.le_of_ble_eq_true rfl)
  refine XE.isE (.ty _) (XE.var rfl ⟨_, _, _, rfl, ko.ex i hi, ko.ve i hi, ?_⟩)
  (repeat' (first | (guard_target =~ XS _ _ _ _ _; first | exact XS.next | refine XS.next ?_ | refine XS.seq ?_ | refine XS.set ?_ | refine XS.ret ?_ | refine XS.ite ?_ | refine XS.drop ?_ | refine XS.asg ?_ | refine XS.par3 ?_ | refine XS.par ?_ | refine XS.retN ?_ | refine XS.next ?_) | (guard_target =~ XE _ _ _ _ _; first | refine XE.var rfl ?_ | refine XE.int ?_ | refine XE.bl ?_ | refine XE.str ?_ | refine XE.non ?_ | refine XE.ixO rfl ?_ | refine XE.lenO rfl ?_ | refine XE.op dr_I0 ?_ | refine XE.op dr_I ?_ | refine XE.op dr_ixL ?_ | refine XE.op dr_ixT ?_ | refine XE.op dr_eq ?_ | refine XE.op dr_ne ?_ | refine XE.op dr_eqD ?_ | refine XE.op dr_neD ?_ | refine XE.op dr_isN ?_ | refine XE.op dr_notN ?_ | refine XE.op dr_eqO ?_ | refine XE.op dr_neO ?_ | refine XE.unI ?_ | refine XE.tup ?_ | refine XE.ofN (XN.lst ?_) | refine XE.ofN (XN.op dn_cat ?_) | refine XE.ofN (XN.op dn_rep ?_) | refine XE.ofN (XN.sl ?_) | refine XE.ofN (XN.cb dn_listOf ?_) | refine XE.cb db_abs ?_ | refine XE.cb db_max2 ?_ | refine XE.len1 ?_ | refine XE.cb db_lenO ?_ | refine XE.cb db_int1 ?_ | refine XE.call ?_ | refine XE.callX0 ?_ | refine XE.callP rfl ?_ | refine XE.andV ?_ | refine XE.orV ?_ | refine XE.notV ?_ | refine XE.ifE ?_ | refine XE.make ?_ | refine XE.isC ?_ | refine XE.isTy ?_ | refine XE.fld hH.cls hH.poly ?_ | refine XE.fld hH.cls hH.rows ?_ | refine XE.fld hH.cls hH.ways ?_ | refine XE.fld hN.cls hN.home ?_ | refine XE.fld hN.cls hN.parts ?_ | refine XE.km rfl ?_ | refine XE.kmX0 rfl ?_ | refine XE.kc rfl ?_ | refine XE.kcX0 rfl ?_) | (guard_target =~ XN _ _ _ _ _; first | refine XN.lst ?_ | refine XN.op dn_cat ?_ | refine XN.op dn_rep ?_ | refine XN.sl ?_ | refine XN.cb dn_listOf ?_) | (guard_target =~ XA _ _ _ _ _; first | refine XA.nil ?_ | refine XA.cons ?_) | (guard_target =~ XT _ _ _ _ _; first | refine XT.test ?_ | refine XT.b ?_ | refine XT.not ?_ | refine XT.and ?_ | refine XT.or ?_ | refine XT.yes ?_) | (guard_target =~ XO _ _ _ _ _; first | refine XO.no ?_ | refine XO.yes ?_) | (guard_target =~ XGs _ _ _ _ _ _; first | refine XGs.cons ?_ | refine XGs.nil ?_) | (guard_target =~ XG _ _ _ _ _ _; first | refine XG.name rfl ?_ | refine XG.tupG rfl ?_ | refine XG.unlG rfl ?_) | refine go_len1 rfl ?_ | refine go_fld rfl ?_ | refine go_ins rfl rfl ?_ | refine go_kc rfl rfl ?_ | refine go_isC ?_ | refine go_isTy rfl (by first | exact kb_int_int | exact kb_int_bool | exact kb_bool_int | exact kb_bool_bool | exact kb_str_str | exact kb_list_list | exact kb_tuple_tuple | exact kb_tuple_list | exact kb_list_tuple | exact kb_NoneType_list | exact kb_NoneType_int | exact kb_str_int | exact kb_int_list | exact kb_int_tuple | exact kb_NoneType_tuple | exact kb_list_int | exact kb_tuple_int | exact kb_str_bool) ?_ | refine go_non ?_ | refine go_I0 ?_ | refine go_I ?_ ?_ | refine go_ix rfl ?_ | refine go_ixT rfl ?_ | refine go_eq rfl rfl rfl ?_ | refine go_ne rfl rfl rfl ?_ | refine go_len rfl ?_ | refine go_cat ?_ ?_ | refine go_rep ?_ ?_ ?_ ?_ | refine go_un ?_ | refine go_int ?_ | refine go_lst ?_ | refine go_tup ?_ | refine go_str ?_ | refine go_bl ?_ | refine go_ixO rfl ?_ | refine go_put rfl ?_ | refine go_ext ?_ ?_ | refine go_app ?_ ?_ | refine go_rg1 ?_ ?_ | refine go_rg2 ?_ ?_ | refine go_rg3 ?_ ?_ | refine go_enum ?_ | refine go_zipS ?_ ?_ | refine go_zip ?_))
  any_goals (try exact Nat.le_of_ble_eq_true rfl)
  refine XE.isE (.ty _) (XE.var rfl ⟨_, _, _, rfl, ko.ex i hi, ko.ze i hi, ?_⟩)
  (repeat' (first | (guard_target =~ XS _ _ _ _ _; first | exact XS.next | refine XS.next ?_ | refine XS.seq ?_ | refine XS.set ?_ | refine XS.ret ?_ | refine XS.ite ?_ | refine XS.drop ?_ | refine XS.asg ?_ | refine XS.par3 ?_ | refine XS.par ?_ | refine XS.retN ?_ | refine XS.next ?_) | (guard_target =~ XE _ _ _ _ _; first | refine XE.var rfl ?_ | refine XE.int ?_ | refine XE.bl ?_ | refine XE.str ?_ | refine XE.non ?_ | refine XE.ixO rfl ?_ | refine XE.lenO rfl ?_ | refine XE.op dr_I0 ?_ | refine XE.op dr_I ?_ | refine XE.op dr_ixL ?_ | refine XE.op dr_ixT ?_ | refine XE.op dr_eq ?_ | refine XE.op dr_ne ?_ | refine XE.op dr_eqD ?_ | refine XE.op dr_neD ?_ | refine XE.op dr_isN ?_ | refine XE.op dr_notN ?_ | refine XE.op dr_eqO ?_ | refine XE.op dr_neO ?_ | refine XE.unI ?_ | refine XE.tup ?_ | refine XE.ofN (XN.lst ?_) | refine XE.ofN (XN.op dn_cat ?_) | refine XE.ofN (XN.op dn_rep ?_) | refine XE.ofN (XN.sl ?_) | refine XE.ofN (XN.cb dn_listOf ?_) | refine XE.cb db_abs ?_ | refine XE.cb db_max2 ?_ | refine XE.len1 ?_ | refine XE.cb db_lenO ?_ | refine XE.cb db_int1 ?_ | refine XE.call ?_ | refine XE.callX0 ?_ | refine XE.callP rfl ?_ | refine XE.andV ?_ | refine XE.orV ?_ | refine XE.notV ?_ | refine XE.ifE ?_ | refine XE.make ?_ | refine XE.isC ?_ | refine XE.isTy ?_ | refine XE.fld hH.cls hH.poly ?_ | refine XE.fld hH.cls hH.rows ?_ | refine XE.fld hH.cls hH.ways ?_ | refine XE.fld hN.cls hN.home ?_ | refine XE.fld hN.cls hN.parts ?_ | refine XE.km rfl ?_ | refine XE.kmX0 rfl ?_ | refine XE.kc rfl ?_ | refine XE.kcX0 rfl ?_) | (guard_target =~ XN _ _ _ _ _; first | refine XN.lst ?_ | refine XN.op dn_cat ?_ | refine XN.op dn_rep ?_ | refine XN.sl ?_ | refine XN.cb dn_listOf ?_) | (guard_target =~ XA _ _ _ _ _; first | refine XA.nil ?_ | refine XA.cons ?_) | (guard_target =~ XT _ _ _ _ _; first | refine XT.test ?_ | refine XT.b ?_ | refine XT.not ?_ | refine XT.and ?_ | refine XT.or ?_ | refine XT.yes ?_) | (guard_target =~ XO _ _ _ _ _; first | refine XO.no ?_ | refine XO.yes ?_) | (guard_target =~ XGs _ _ _ _ _ _; first | refine XGs.cons ?_ | refine XGs.nil ?_) | (guard_target =~ XG _ _ _ _ _ _; first | refine XG.name rfl ?_ | refine XG.tupG rfl ?_ | refine XG.unlG rfl ?_) | refine go_len1 rfl ?_ | refine go_fld rfl ?_ | refine go_ins rfl rfl ?_ | refine go_kc rfl rfl ?_ | refine go_isC ?_ | refine go_isTy rfl (by first | exact kb_int_int | exact kb_int_bool | exact kb_bool_int | exact kb_bool_bool | exact kb_str_str | exact kb_list_list | exact kb_tuple_tuple | exact kb_tuple_list | exact kb_list_tuple | exact kb_NoneType_list | exact kb_NoneType_int | exact kb_str_int | exact kb_int_list | exact kb_int_tuple | exact kb_NoneType_tuple | exact kb_list_int | exact kb_tuple_int | exact kb_str_bool) ?_ | refine go_non ?_ | refine go_I0 ?_ | refine go_I ?_ ?_ | refine go_ix rfl ?_ | refine go_ixT rfl ?_ | refine go_eq rfl rfl rfl ?_ | refine go_ne rfl rfl rfl ?_ | refine go_len rfl ?_ | refine go_cat ?_ ?_ | refine go_rep ?_ ?_ ?_ ?_ | refine go_un ?_ | refine go_int ?_ | refine go_lst ?_ | refine go_tup ?_ | refine go_str ?_ | refine go_bl ?_ | refine go_ixO rfl ?_ | refine go_put rfl ?_ | refine go_ext ?_ ?_ | refine go_app ?_ ?_ | refine go_rg1 ?_ ?_ | refine go_rg2 ?_ ?_ | refine go_rg3 ?_ ?_ | refine go_enum ?_ | refine go_zipS ?_ ?_ | refine go_zip ?_))
  any_goals (try exact Nat.le_of_ble_eq_true rfl)
  refine XE.isE (.ty _) (XE.var rfl ⟨_, _, _, rfl, ko.ex i hi, ko.ke i hi, ?_⟩)
  (repeat' (first | (guard_target =~ XS _ _ _ _ _; first | exact XS.next | refine XS.next ?_ | refine XS.seq ?_ | refine XS.set ?_ | refine XS.ret ?_ | refine XS.ite ?_ | refine XS.drop ?_ | refine XS.asg ?_ | refine XS.par3 ?_ | refine XS.par ?_ | refine XS.retN ?_ | refine XS.next ?_) | (guard_target =~ XE _ _ _ _ _; first | refine XE.var rfl ?_ | refine XE.int ?_ | refine XE.bl ?_ | refine XE.str ?_ | refine XE.non ?_ | refine XE.ixO rfl ?_ | refine XE.lenO rfl ?_ | refine XE.op dr_I0 ?_ | refine XE.op dr_I ?_ | refine XE.op dr_ixL ?_ | refine XE.op dr_ixT ?_ | refine XE.op dr_eq ?_ | refine XE.op dr_ne ?_ | refine XE.op dr_eqD ?_ | refine XE.op dr_neD ?_ | refine XE.op dr_isN ?_ | refine XE.op dr_notN ?_ | refine XE.op dr_eqO ?_ | refine XE.op dr_neO ?_ | refine XE.unI ?_ | refine XE.tup ?_ | refine XE.ofN (XN.lst ?_) | refine XE.ofN (XN.op dn_cat ?_) | refine XE.ofN (XN.op dn_rep ?_) | refine XE.ofN (XN.sl ?_) | refine XE.ofN (XN.cb dn_listOf ?_) | refine XE.cb db_abs ?_ | refine XE.cb db_max2 ?_ | refine XE.len1 ?_ | refine XE.cb db_lenO ?_ | refine XE.cb db_int1 ?_ | refine XE.call ?_ | refine XE.callX0 ?_ | refine XE.callP rfl ?_ | refine XE.andV ?_ | refine XE.orV ?_ | refine XE.notV ?_ | refine XE.ifE ?_ | refine XE.make ?_ | refine XE.isC ?_ | refine XE.isTy ?_ | refine XE.fld hH.cls hH.poly ?_ | refine XE.fld hH.cls hH.rows ?_ | refine XE.fld hH.cls hH.ways ?_ | refine XE.fld hN.cls hN.home ?_ | refine XE.fld hN.cls hN.parts ?_ | refine XE.km rfl ?_ | refine XE.kmX0 rfl ?_ | refine XE.kc rfl ?_ | refine XE.kcX0 rfl ?_) | (guard_target =~ XN _ _ _ _ _; first | refine XN.lst ?_ | refine XN.op dn_cat ?_ | refine XN.op dn_rep ?_ | refine XN.sl ?_ | refine XN.cb dn_listOf ?_) | (guard_target =~ XA _ _ _ _ _; first | refine XA.nil ?_ | refine XA.cons ?_) | (guard_target =~ XT _ _ _ _ _; first | refine XT.test ?_ | refine XT.b ?_ | refine XT.not ?_ | refine XT.and ?_ | refine XT.or ?_ | refine XT.yes ?_) | (guard_target =~ XO _ _ _ _ _; first | refine XO.no ?_ | refine XO.yes ?_) | (guard_target =~ XGs _ _ _ _ _ _; first | refine XGs.cons ?_ | refine XGs.nil ?_) | (guard_target =~ XG _ _ _ _ _ _; first | refine XG.name rfl ?_ | refine XG.tupG rfl ?_ | refine XG.unlG rfl ?_) | refine go_len1 rfl ?_ | refine go_fld rfl ?_ | refine go_ins rfl rfl ?_ | refine go_kc rfl rfl ?_ | refine go_isC ?_ | refine go_isTy rfl (by first | exact kb_int_int | exact kb_int_bool | exact kb_bool_int | exact kb_bool_bool | exact kb_str_str | exact kb_list_list | exact kb_tuple_tuple | exact kb_tuple_list | exact kb_list_tuple | exact kb_NoneType_list | exact kb_NoneType_int | exact kb_str_int | exact kb_int_list | exact kb_int_tuple | exact kb_NoneType_tuple | exact kb_list_int | exact kb_tuple_int | exact kb_str_bool) ?_ | refine go_non ?_ | refine go_I0 ?_ | refine go_I ?_ ?_ | refine go_ix rfl ?_ | refine go_ixT rfl ?_ | refine go_eq rfl rfl rfl ?_ | refine go_ne rfl rfl rfl ?_ | refine go_len rfl ?_ | refine go_cat ?_ ?_ | refine go_rep ?_ ?_ ?_ ?_ | refine go_un ?_ | refine go_int ?_ | refine go_lst ?_ | refine go_tup ?_ | refine go_str ?_ | refine go_bl ?_ | refine go_ixO rfl ?_ | refine go_put rfl ?_ | refine go_ext ?_ ?_ | refine go_app ?_ ?_ | refine go_rg1 ?_ ?_ | refine go_rg2 ?_ ?_ | refine go_rg3 ?_ ?_ | refine go_enum ?_ | refine go_zipS ?_ ?_ | refine go_zip ?_))
  all_goals first | exact k | exact Nat.le_of_ble_eq_true rfl
abbrev s_Lrow_right : Stmt := top 23
abbrev N_Lrow_right : List Str := ["_law_row", "_law_k", "_law_one", "_law_due", "_law_j"]
abbrev P_Lrow_right : List Str := ["_law_row"]
theorem sc_Lrow_right : FnScope N_Lrow_right ["_law_row"] (defScope s_Lrow_right) := ⟨rfl, rfl, rfl, by decide +kernel, rfl, by decide +kernel, by decide +kernel⟩

theorem ok_Lrow_right (T : Txt K mg c) {f : Addr} {fd : FuncData} (F : L2.Fun K "_law_row_right" "_law_row_right" s_Lrow_right f fd) (h_Lsorts : Cal P w K mg base 1 "_law_sorts" (spD (W_sorts c)) []) (h_Lkinds : Cal P w K mg base 1 "_law_kinds" (spD (W_kinds c)) []) : FnOk P w K mg base CX0 2 f fd P_Lrow_right (spD (W_row c)) := by
  refine okD F sc_Lrow_right (fun ds C h => ?_) (fun cdv A outer s H E hr => ⟨_, (pss_cons (ps_for PassesOwn.never rfl (pi_enum (by rfl) T.z_enumerate (pa_cons (pv 0) pa_nil)) (pg_tup rfl (pgs_cons (pg_name (i := 1) sc_Lrow_right.nd rfl (by first | exact Or.inl rfl | exact Or.inr rfl)) (pgs_cons (pg_name (i := 2) sc_Lrow_right.nd rfl (by first | exact Or.inl rfl | exact Or.inr rfl)) pgs_nil))) (pss_cons (ps_set (i := 3) sc_Lrow_right.nd rfl (by first | exact Or.inl rfl | exact Or.inr rfl) (pe_lst (pa_cons (pe_cmpR op_lt (pv 1) pe_int (nomark _)) (pa_cons (pe_or (pe_cmpR op_lt (pv 1) pe_int (nomark _)) (pe_one (pe_cmpR op_gt (pv 1) pe_int (nomark _)))) (pa_cons (pe_cmpR op_eq (pv 1) pe_int (nomark _)) (pa_cons (pe_cmpR op_eq (pv 1) pe_int (nomark _)) pa_nil))))))
      (pss_one (ps_if (PW.pt (pw_or (pt_cmpR (op_neD hr.units) (pe_c h_Lsorts hr (by decide) rfl (pa_cons (pv 2) pa_nil)) (pe_lc (own := [("_law_j", 4)]) (g := gName 4) (by rfl) sc_Lrow_right.nd (pi_range1 rfl T.z_range (pa_cons pe_int pa_nil)) (blkOk_by (own := [("_law_j", 4)]) (N := N_Lrow_right) (sc := defScope s_Lrow_right) (by decide +kernel)) (fun _ _ _ _ _ => (pg_name (i := 4) sc_Lrow_right.nd rfl (by first | exact Or.inl rfl | exact Or.inr rfl))) (fun _ _ _ _ _ => pts_nil) (fun _ _ _ _ _ => (pe_cmpR op_eq (pv 4) (pv 1) (nomark _)))) (nomark _)) (pw_or1 (pt_cmpR (op_neD hr.units) (pe_c h_Lkinds hr (by decide) rfl (pa_cons (pv 2) pa_nil)) (pv 3) (nomark _))))) (pss_one (ps_ret pe_bl)) pss_nil))))
      (pss_one (ps_ret pe_bl))), fun z ds C h => ?_⟩)
  · obtain ⟨es, rfl, _⟩ := h; rfl
  obtain ⟨es, rfl, ⟨hl, he⟩, k⟩ := h
  show XS z _ [.dt (.lst es), .un, .un, .un, .un] _ _
  (repeat' (first | (guard_target =~ XS _ _ _ _ _; first | exact XS.next | refine XS.next ?_ | refine XS.seq ?_ | refine XS.set ?_ | refine XS.ret ?_ | refine XS.ite ?_ | refine XS.drop ?_ | refine XS.asg ?_ | refine XS.par3 ?_ | refine XS.par ?_ | refine XS.retN ?_ | refine XS.next ?_) | (guard_target =~ XE _ _ _ _ _; first | refine XE.var rfl ?_ | refine XE.int ?_ | refine XE.bl ?_ | refine XE.str ?_ | refine XE.non ?_ | refine XE.ixO rfl ?_ | refine XE.lenO rfl ?_ | refine XE.op dr_I0 ?_ | refine XE.op dr_I ?_ | refine XE.op dr_ixL ?_ | refine XE.op dr_ixT ?_ | refine XE.op dr_eq ?_ | refine XE.op dr_ne ?_ | refine XE.op dr_eqD ?_ | refine XE.op dr_neD ?_ | refine XE.op dr_isN ?_ | refine XE.op dr_notN ?_ | refine XE.op dr_eqO ?_ | refine XE.op dr_neO ?_ | refine XE.unI ?_ | refine XE.tup ?_ | refine XE.ofN (XN.lst ?_) | refine XE.ofN (XN.op dn_cat ?_) | refine XE.ofN (XN.op dn_rep ?_) | refine XE.ofN (XN.sl ?_) | refine XE.ofN (XN.cb dn_listOf ?_) | refine XE.cb db_abs ?_ | refine XE.cb db_max2 ?_ | refine XE.len1 ?_ | refine XE.cb db_lenO ?_ | refine XE.cb db_int1 ?_ | refine XE.call ?_ | refine XE.callX0 ?_ | refine XE.callP rfl ?_ | refine XE.andV ?_ | refine XE.orV ?_ | refine XE.notV ?_ | refine XE.ifE ?_ | refine XE.make ?_ | refine XE.isC ?_ | refine XE.isTy ?_ | refine XE.fld hH.cls hH.poly ?_ | refine XE.fld hH.cls hH.rows ?_ | refine XE.fld hH.cls hH.ways ?_ | refine XE.fld hN.cls hN.home ?_ | refine XE.fld hN.cls hN.parts ?_ | refine XE.km rfl ?_ | refine XE.kmX0 rfl ?_ | refine XE.kc rfl ?_ | refine XE.kcX0 rfl ?_) | (guard_target =~ XN _ _ _ _ _; first | refine XN.lst ?_ | refine XN.op dn_cat ?_ | refine XN.op dn_rep ?_ | refine XN.sl ?_ | refine XN.cb dn_listOf ?_) | (guard_target =~ XA _ _ _ _ _; first | refine XA.nil ?_ | refine XA.cons ?_) | (guard_target =~ XT _ _ _ _ _; first | refine XT.test ?_ | refine XT.b ?_ | refine XT.not ?_ | refine XT.and ?_ | refine XT.or ?_ | refine XT.yes ?_) | (guard_target =~ XO _ _ _ _ _; first | refine XO.no ?_ | refine XO.yes ?_) | (guard_target =~ XGs _ _ _ _ _ _; first | refine XGs.cons ?_ | refine XGs.nil ?_) | (guard_target =~ XG _ _ _ _ _ _; first | refine XG.name rfl ?_ | refine XG.tupG rfl ?_ | refine XG.unlG rfl ?_) | refine go_len1 rfl ?_ | refine go_fld rfl ?_ | refine go_ins rfl rfl ?_ | refine go_kc rfl rfl ?_ | refine go_isC ?_ | refine go_isTy rfl (by first | exact kb_int_int | exact kb_int_bool | exact kb_bool_int | exact kb_bool_bool | exact kb_str_str | exact kb_list_list | exact kb_tuple_tuple | exact kb_tuple_list | exact kb_list_tuple | exact kb_NoneType_list | exact kb_NoneType_int | exact kb_str_int | exact kb_int_list | exact kb_int_tuple | exact kb_NoneType_tuple | exact kb_list_int | exact kb_tuple_int | exact kb_str_bool) ?_ | refine go_non ?_ | refine go_I0 ?_ | refine go_I ?_ ?_ | refine go_ix rfl ?_ | refine go_ixT rfl ?_ | refine go_eq rfl rfl rfl ?_ | refine go_ne rfl rfl rfl ?_ | refine go_len rfl ?_ | refine go_cat ?_ ?_ | refine go_rep ?_ ?_ ?_ ?_ | refine go_un ?_ | refine go_int ?_ | refine go_lst ?_ | refine go_tup ?_ | refine go_str ?_ | refine go_bl ?_ | refine go_ixO rfl ?_ | refine go_put rfl ?_ | refine go_ext ?_ ?_ | refine go_app ?_ ?_ | refine go_rg1 ?_ ?_ | refine go_rg2 ?_ ?_ | refine go_rg3 ?_ ?_ | refine go_enum ?_ | refine go_zipS ?_ ?_ | refine go_zip ?_))
  refine XS.for (XI.enum ?_)
  (repeat' (first | (guard_target =~ XS _ _ _ _ _; first | exact XS.next | refine XS.next ?_ | refine XS.seq ?_ | refine XS.set ?_ | refine XS.ret ?_ | refine XS.ite ?_ | refine XS.drop ?_ | refine XS.asg ?_ | refine XS.par3 ?_ | refine XS.par ?_ | refine XS.retN ?_ | refine XS.next ?_) | (guard_target =~ XE _ _ _ _ _; first | refine XE.var rfl ?_ | refine XE.int ?_ | refine XE.bl ?_ | refine XE.str ?_ | refine XE.non ?_ | refine XE.ixO rfl ?_ | refine XE.lenO rfl ?_ | refine XE.op dr_I0 ?_ | refine XE.op dr_I ?_ | refine XE.op dr_ixL ?_ | refine XE.op dr_ixT ?_ | refine XE.op dr_eq ?_ | refine XE.op dr_ne ?_ | refine XE.op dr_eqD ?_ | refine XE.op dr_neD ?_ | refine XE.op dr_isN ?_ | refine XE.op dr_notN ?_ | refine XE.op dr_eqO ?_ | refine XE.op dr_neO ?_ | refine XE.unI ?_ | refine XE.tup ?_ | refine XE.ofN (XN.lst ?_) | refine XE.ofN (XN.op dn_cat ?_) | refine XE.ofN (XN.op dn_rep ?_) | refine XE.ofN (XN.sl ?_) | refine XE.ofN (XN.cb dn_listOf ?_) | refine XE.cb db_abs ?_ | refine XE.cb db_max2 ?_ | refine XE.len1 ?_ | refine XE.cb db_lenO ?_ | refine XE.cb db_int1 ?_ | refine XE.call ?_ | refine XE.callX0 ?_ | refine XE.callP rfl ?_ | refine XE.andV ?_ | refine XE.orV ?_ | refine XE.notV ?_ | refine XE.ifE ?_ | refine XE.make ?_ | refine XE.isC ?_ | refine XE.isTy ?_ | refine XE.fld hH.cls hH.poly ?_ | refine XE.fld hH.cls hH.rows ?_ | refine XE.fld hH.cls hH.ways ?_ | refine XE.fld hN.cls hN.home ?_ | refine XE.fld hN.cls hN.parts ?_ | refine XE.km rfl ?_ | refine XE.kmX0 rfl ?_ | refine XE.kc rfl ?_ | refine XE.kcX0 rfl ?_) | (guard_target =~ XN _ _ _ _ _; first | refine XN.lst ?_ | refine XN.op dn_cat ?_ | refine XN.op dn_rep ?_ | refine XN.sl ?_ | refine XN.cb dn_listOf ?_) | (guard_target =~ XA _ _ _ _ _; first | refine XA.nil ?_ | refine XA.cons ?_) | (guard_target =~ XT _ _ _ _ _; first | refine XT.test ?_ | refine XT.b ?_ | refine XT.not ?_ | refine XT.and ?_ | refine XT.or ?_ | refine XT.yes ?_) | (guard_target =~ XO _ _ _ _ _; first | refine XO.no ?_ | refine XO.yes ?_) | (guard_target =~ XGs _ _ _ _ _ _; first | refine XGs.cons ?_ | refine XGs.nil ?_) | (guard_target =~ XG _ _ _ _ _ _; first | refine XG.name rfl ?_ | refine XG.tupG rfl ?_ | refine XG.unlG rfl ?_) | refine go_len1 rfl ?_ | refine go_fld rfl ?_ | refine go_ins rfl rfl ?_ | refine go_kc rfl rfl ?_ | refine go_isC ?_ | refine go_isTy rfl (by first | exact kb_int_int | exact kb_int_bool | exact kb_bool_int | exact kb_bool_bool | exact kb_str_str | exact kb_list_list | exact kb_tuple_tuple | exact kb_tuple_list | exact kb_list_tuple | exact kb_NoneType_list | exact kb_NoneType_int | exact kb_str_int | exact kb_int_list | exact kb_int_tuple | exact kb_NoneType_tuple | exact kb_list_int | exact kb_tuple_int | exact kb_str_bool) ?_ | refine go_non ?_ | refine go_I0 ?_ | refine go_I ?_ ?_ | refine go_ix rfl ?_ | refine go_ixT rfl ?_ | refine go_eq rfl rfl rfl ?_ | refine go_ne rfl rfl rfl ?_ | refine go_len rfl ?_ | refine go_cat ?_ ?_ | refine go_rep ?_ ?_ ?_ ?_ | refine go_un ?_ | refine go_int ?_ | refine go_lst ?_ | refine go_tup ?_ | refine go_str ?_ | refine go_bl ?_ | refine go_ixO rfl ?_ | refine go_put rfl ?_ | refine go_ext ?_ ?_ | refine go_app ?_ ?_ | refine go_rg1 ?_ ?_ | refine go_rg2 ?_ ?_ | refine go_rg3 ?_ ?_ | refine go_enum ?_ | refine go_zipS ?_ ?_ | refine go_zip ?_))
  refine ⟨fun i g2 m2 => m2 = 0 ∧ ∃ s1 s2 s3 s4, g2 = [.dt (.lst es), s1, s2, s3, s4], ⟨rfl, _, _, _, _, rfl⟩, fun i d g2 m2 hi ⟨e1, s1, s2, s3, s4, e2⟩ => ?_, fun g2 m2 ⟨e1, s1, s2, s3, s4, e2⟩ => ?_⟩
  · subst e1 e2
    obtain ⟨x, hx, rfl⟩ : ∃ x, es[i]? = some x ∧ Dat.tup [.int (i : Nat), x] = d := by
      rw [enumD_at] at hi
      cases h : es[i]? with
      | none => rw [h] at hi; cases hi
      | some x => rw [h] at hi; exact ⟨x, rfl, Option.some.inj hi⟩
    have hi' : i < 14 := by have := (List.getElem?_eq_some_iff.mp hx).1; omega
    obtain ⟨fs, ex⟩ := he i hi'
    rw [hx] at ex
    cases ex
    (repeat' (first | (guard_target =~ XS _ _ _ _ _; first | exact XS.next | refine XS.next ?_ | refine XS.seq ?_ | refine XS.set ?_ | refine XS.ret ?_ | refine XS.ite ?_ | refine XS.drop ?_ | refine XS.asg ?_ | refine XS.par3 ?_ | refine XS.par ?_ | refine XS.retN ?_ | refine XS.next ?_) | (guard_target =~ XE _ _ _ _ _; first | refine XE.var rfl ?_ | refine XE.int ?_ | refine XE.bl ?_ | refine XE.str ?_ | refine XE.non ?_ | refine XE.ixO rfl ?_ | refine XE.lenO rfl ?_ | refine XE.op dr_I0 ?_ | refine XE.op dr_I ?_ | refine XE.op dr_ixL ?_ | refine XE.op dr_ixT ?_ | refine XE.op dr_eq ?_ | refine XE.op dr_ne ?_ | refine XE.op dr_eqD ?_ | refine XE.op dr_neD ?_ | refine XE.op dr_isN ?_ | refine XE.op dr_notN ?_ | refine XE.op dr_eqO ?_ | refine XE.op dr_neO ?_ | refine XE.unI ?_ | refine XE.tup ?_ | refine XE.ofN (XN.lst ?_) | refine XE.ofN (XN.op dn_cat ?_) | refine XE.ofN (XN.op dn_rep ?_) | refine XE.ofN (XN.sl ?_) | refine XE.ofN (XN.cb dn_listOf ?_) | refine XE.cb db_abs ?_ | refine XE.cb db_max2 ?_ | refine XE.len1 ?_ | refine XE.cb db_lenO ?_ | refine XE.cb db_int1 ?_ | refine XE.call ?_ | refine XE.callX0 ?_ | refine XE.callP rfl ?_ | refine XE.andV ?_ | refine XE.orV ?_ | refine XE.notV ?_ | refine XE.ifE ?_ | refine XE.make ?_ | refine XE.isC ?_ | refine XE.isTy ?_ | refine XE.fld hH.cls hH.poly ?_ | refine XE.fld hH.cls hH.rows ?_ | refine XE.fld hH.cls hH.ways ?_ | refine XE.fld hN.cls hN.home ?_ | refine XE.fld hN.cls hN.parts ?_ | refine XE.km rfl ?_ | refine XE.kmX0 rfl ?_ | refine XE.kc rfl ?_ | refine XE.kcX0 rfl ?_) | (guard_target =~ XN _ _ _ _ _; first | refine XN.lst ?_ | refine XN.op dn_cat ?_ | refine XN.op dn_rep ?_ | refine XN.sl ?_ | refine XN.cb dn_listOf ?_) | (guard_target =~ XA _ _ _ _ _; first | refine XA.nil ?_ | refine XA.cons ?_) | (guard_target =~ XT _ _ _ _ _; first | refine XT.test ?_ | refine XT.b ?_ | refine XT.not ?_ | refine XT.and ?_ | refine XT.or ?_ | refine XT.yes ?_) | (guard_target =~ XO _ _ _ _ _; first | refine XO.no ?_ | refine XO.yes ?_) | (guard_target =~ XGs _ _ _ _ _ _; first | refine XGs.cons ?_ | refine XGs.nil ?_) | (guard_target =~ XG _ _ _ _ _ _; first | refine XG.name rfl ?_ | refine XG.tupG rfl ?_ | refine XG.unlG rfl ?_) | refine go_len1 rfl ?_ | refine go_fld rfl ?_ | refine go_ins rfl rfl ?_ | refine go_kc rfl rfl ?_ | refine go_isC ?_ | refine go_isTy rfl (by first | exact kb_int_int | exact kb_int_bool | exact kb_bool_int | exact kb_bool_bool | exact kb_str_str | exact kb_list_list | exact kb_tuple_tuple | exact kb_tuple_list | exact kb_list_tuple | exact kb_NoneType_list | exact kb_NoneType_int | exact kb_str_int | exact kb_int_list | exact kb_int_tuple | exact kb_NoneType_tuple | exact kb_list_int | exact kb_tuple_int | exact kb_str_bool) ?_ | refine go_non ?_ | refine go_I0 ?_ | refine go_I ?_ ?_ | refine go_ix rfl ?_ | refine go_ixT rfl ?_ | refine go_eq rfl rfl rfl ?_ | refine go_ne rfl rfl rfl ?_ | refine go_len rfl ?_ | refine go_cat ?_ ?_ | refine go_rep ?_ ?_ ?_ ?_ | refine go_un ?_ | refine go_int ?_ | refine go_lst ?_ | refine go_tup ?_ | refine go_str ?_ | refine go_bl ?_ | refine go_ixO rfl ?_ | refine go_put rfl ?_ | refine go_ext ?_ ?_ | refine go_app ?_ ?_ | refine go_rg1 ?_ ?_ | refine go_rg2 ?_ ?_ | refine go_rg3 ?_ ?_ | refine go_enum ?_ | refine go_zipS ?_ ?_ | refine go_zip ?_))
    split
    · rename_i hb
      (repeat' (first | (guard_target =~ XS _ _ _ _ _; first | exact XS.next | refine XS.next ?_ | refine XS.seq ?_ | refine XS.set ?_ | refine XS.ret ?_ | refine XS.ite ?_ | refine XS.drop ?_ | refine XS.asg ?_ | refine XS.par3 ?_ | refine XS.par ?_ | refine XS.retN ?_ | refine XS.next ?_) | (guard_target =~ XE _ _ _ _ _; first | refine XE.var rfl ?_ | refine XE.int ?_ | refine XE.bl ?_ | refine XE.str ?_ | refine XE.non ?_ | refine XE.ixO rfl ?_ | refine XE.lenO rfl ?_ | refine XE.op dr_I0 ?_ | refine XE.op dr_I ?_ | refine XE.op dr_ixL ?_ | refine XE.op dr_ixT ?_ | refine XE.op dr_eq ?_ | refine XE.op dr_ne ?_ | refine XE.op dr_eqD ?_ | refine XE.op dr_neD ?_ | refine XE.op dr_isN ?_ | refine XE.op dr_notN ?_ | refine XE.op dr_eqO ?_ | refine XE.op dr_neO ?_ | refine XE.unI ?_ | refine XE.tup ?_ | refine XE.ofN (XN.lst ?_) | refine XE.ofN (XN.op dn_cat ?_) | refine XE.ofN (XN.op dn_rep ?_) | refine XE.ofN (XN.sl ?_) | refine XE.ofN (XN.cb dn_listOf ?_) | refine XE.cb db_abs ?_ | refine XE.cb db_max2 ?_ | refine XE.len1 ?_ | refine XE.cb db_lenO ?_ | refine XE.cb db_int1 ?_ | refine XE.call ?_ | refine XE.callX0 ?_ | refine XE.callP rfl ?_ | refine XE.andV ?_ | refine XE.orV ?_ | refine XE.notV ?_ | refine XE.ifE ?_ | refine XE.make ?_ | refine XE.isC ?_ | refine XE.isTy ?_ | refine XE.fld hH.cls hH.poly ?_ | refine XE.fld hH.cls hH.rows ?_ | refine XE.fld hH.cls hH.ways ?_ | refine XE.fld hN.cls hN.home ?_ | refine XE.fld hN.cls hN.parts ?_ | refine XE.km rfl ?_ | refine XE.kmX0 rfl ?_ | refine XE.kc rfl ?_ | refine XE.kcX0 rfl ?_) | (guard_target =~ XN _ _ _ _ _; first | refine XN.lst ?_ | refine XN.op dn_cat ?_ | refine XN.op dn_rep ?_ | refine XN.sl ?_ | refine XN.cb dn_listOf ?_) | (guard_target =~ XA _ _ _ _ _; first | refine XA.nil ?_ | refine XA.cons ?_) | (guard_target =~ XT _ _ _ _ _; first | refine XT.test ?_ | refine XT.b ?_ | refine XT.not ?_ | refine XT.and ?_ | refine XT.or ?_ | refine XT.yes ?_) | (guard_target =~ XO _ _ _ _ _; first | refine XO.no ?_ | refine XO.yes ?_) | (guard_target =~ XGs _ _ _ _ _ _; first | refine XGs.cons ?_ | refine XGs.nil ?_) | (guard_target =~ XG _ _ _ _ _ _; first | refine XG.name rfl ?_ | refine XG.tupG rfl ?_ | refine XG.unlG rfl ?_) | refine go_len1 rfl ?_ | refine go_fld rfl ?_ | refine go_ins rfl rfl ?_ | refine go_kc rfl rfl ?_ | refine go_isC ?_ | refine go_isTy rfl (by first | exact kb_int_int | exact kb_int_bool | exact kb_bool_int | exact kb_bool_bool | exact kb_str_str | exact kb_list_list | exact kb_tuple_tuple | exact kb_tuple_list | exact kb_list_tuple | exact kb_NoneType_list | exact kb_NoneType_int | exact kb_str_int | exact kb_int_list | exact kb_int_tuple | exact kb_NoneType_tuple | exact kb_list_int | exact kb_tuple_int | exact kb_str_bool) ?_ | refine go_non ?_ | refine go_I0 ?_ | refine go_I ?_ ?_ | refine go_ix rfl ?_ | refine go_ixT rfl ?_ | refine go_eq rfl rfl rfl ?_ | refine go_ne rfl rfl rfl ?_ | refine go_len rfl ?_ | refine go_cat ?_ ?_ | refine go_rep ?_ ?_ ?_ ?_ | refine go_un ?_ | refine go_int ?_ | refine go_lst ?_ | refine go_tup ?_ | refine go_str ?_ | refine go_bl ?_ | refine go_ixO rfl ?_ | refine go_put rfl ?_ | refine go_ext ?_ ?_ | refine go_app ?_ ?_ | refine go_rg1 ?_ ?_ | refine go_rg2 ?_ ?_ | refine go_rg3 ?_ ?_ | refine go_enum ?_ | refine go_zipS ?_ ?_ | refine go_zip ?_))
      refine ⟨i, fs, rfl, by omega, ?_⟩
      refine XE.ofN (XN.to (XI.rng1 ?_))
      (repeat' (first | (guard_target =~ XS _ _ _ _ _; first | exact XS.next | refine XS.next ?_ | refine XS.seq ?_ | refine XS.set ?_ | refine XS.ret ?_ | refine XS.ite ?_ | refine XS.drop ?_ | refine XS.asg ?_ | refine XS.par3 ?_ | refine XS.par ?_ | refine XS.retN ?_ | refine XS.next ?_) | (guard_target =~ XE _ _ _ _ _; first | refine XE.var rfl ?_ | refine XE.int ?_ | refine XE.bl ?_ | refine XE.str ?_ | refine XE.non ?_ | refine XE.ixO rfl ?_ | refine XE.lenO rfl ?_ | refine XE.op dr_I0 ?_ | refine XE.op dr_I ?_ | refine XE.op dr_ixL ?_ | refine XE.op dr_ixT ?_ | refine XE.op dr_eq ?_ | refine XE.op dr_ne ?_ | refine XE.op dr_eqD ?_ | refine XE.op dr_neD ?_ | refine XE.op dr_isN ?_ | refine XE.op dr_notN ?_ | refine XE.op dr_eqO ?_ | refine XE.op dr_neO ?_ | refine XE.unI ?_ | refine XE.tup ?_ | refine XE.ofN (XN.lst ?_) | refine XE.ofN (XN.op dn_cat ?_) | refine XE.ofN (XN.op dn_rep ?_) | refine XE.ofN (XN.sl ?_) | refine XE.ofN (XN.cb dn_listOf ?_) | refine XE.cb db_abs ?_ | refine XE.cb db_max2 ?_ | refine XE.len1 ?_ | refine XE.cb db_lenO ?_ | refine XE.cb db_int1 ?_ | refine XE.call ?_ | refine XE.callX0 ?_ | refine XE.callP rfl ?_ | refine XE.andV ?_ | refine XE.orV ?_ | refine XE.notV ?_ | refine XE.ifE ?_ | refine XE.make ?_ | refine XE.isC ?_ | refine XE.isTy ?_ | refine XE.fld hH.cls hH.poly ?_ | refine XE.fld hH.cls hH.rows ?_ | refine XE.fld hH.cls hH.ways ?_ | refine XE.fld hN.cls hN.home ?_ | refine XE.fld hN.cls hN.parts ?_ | refine XE.km rfl ?_ | refine XE.kmX0 rfl ?_ | refine XE.kc rfl ?_ | refine XE.kcX0 rfl ?_) | (guard_target =~ XN _ _ _ _ _; first | refine XN.lst ?_ | refine XN.op dn_cat ?_ | refine XN.op dn_rep ?_ | refine XN.sl ?_ | refine XN.cb dn_listOf ?_) | (guard_target =~ XA _ _ _ _ _; first | refine XA.nil ?_ | refine XA.cons ?_) | (guard_target =~ XT _ _ _ _ _; first | refine XT.test ?_ | refine XT.b ?_ | refine XT.not ?_ | refine XT.and ?_ | refine XT.or ?_ | refine XT.yes ?_) | (guard_target =~ XO _ _ _ _ _; first | refine XO.no ?_ | refine XO.yes ?_) | (guard_target =~ XGs _ _ _ _ _ _; first | refine XGs.cons ?_ | refine XGs.nil ?_) | (guard_target =~ XG _ _ _ _ _ _; first | refine XG.name rfl ?_ | refine XG.tupG rfl ?_ | refine XG.unlG rfl ?_) | refine go_len1 rfl ?_ | refine go_fld rfl ?_ | refine go_ins rfl rfl ?_ | refine go_kc rfl rfl ?_ | refine go_isC ?_ | refine go_isTy rfl (by first | exact kb_int_int | exact kb_int_bool | exact kb_bool_int | exact kb_bool_bool | exact kb_str_str | exact kb_list_list | exact kb_tuple_tuple | exact kb_tuple_list | exact kb_list_tuple | exact kb_NoneType_list | exact kb_NoneType_int | exact kb_str_int | exact kb_int_list | exact kb_int_tuple | exact kb_NoneType_tuple | exact kb_list_int | exact kb_tuple_int | exact kb_str_bool) ?_ | refine go_non ?_ | refine go_I0 ?_ | refine go_I ?_ ?_ | refine go_ix rfl ?_ | refine go_ixT rfl ?_ | refine go_eq rfl rfl rfl ?_ | refine go_ne rfl rfl rfl ?_ | refine go_len rfl ?_ | refine go_cat ?_ ?_ | refine go_rep ?_ ?_ ?_ ?_ | refine go_un ?_ | refine go_int ?_ | refine go_lst ?_ | refine go_tup ?_ | refine go_str ?_ | refine go_bl ?_ | refine go_ixO rfl ?_ | refine go_put rfl ?_ | refine go_ext ?_ ?_ | refine go_app ?_ ?_ | refine go_rg1 ?_ ?_ | refine go_rg2 ?_ ?_ | refine go_rg3 ?_ ?_ | refine go_enum ?_ | refine go_zipS ?_ ?_ | refine go_zip ?_))
      · exact ⟨by decide, by decide⟩
      refine ⟨(List.range 14).map fun j : Nat => Dat.bl (eqS (.int (0 + (j : Int))) (.int (i : Int))), rfl, by decide, fun j d o hj ho => ?_, ?_⟩
      · obtain ⟨jl, rfl⟩ := rng_get hj
        have jl : j < 14 := jl
        have eo : o = Dat.bl (eqS (.int (0 + (j : Int))) (.int (i : Int))) := by
          rw [List.getElem?_map, List.getElem?_range jl] at ho
          exact (Option.some.inj ho).symm
        subst eo
        (repeat' (first | (guard_target =~ XS _ _ _ _ _; first | exact XS.next | refine XS.next ?_ | refine XS.seq ?_ | refine XS.set ?_ | refine XS.ret ?_ | refine XS.ite ?_ | refine XS.drop ?_ | refine XS.asg ?_ | refine XS.par3 ?_ | refine XS.par ?_ | refine XS.retN ?_ | refine XS.next ?_) | (guard_target =~ XE _ _ _ _ _; first | refine XE.var rfl ?_ | refine XE.int ?_ | refine XE.bl ?_ | refine XE.str ?_ | refine XE.non ?_ | refine XE.ixO rfl ?_ | refine XE.lenO rfl ?_ | refine XE.op dr_I0 ?_ | refine XE.op dr_I ?_ | refine XE.op dr_ixL ?_ | refine XE.op dr_ixT ?_ | refine XE.op dr_eq ?_ | refine XE.op dr_ne ?_ | refine XE.op dr_eqD ?_ | refine XE.op dr_neD ?_ | refine XE.op dr_isN ?_ | refine XE.op dr_notN ?_ | refine XE.op dr_eqO ?_ | refine XE.op dr_neO ?_ | refine XE.unI ?_ | refine XE.tup ?_ | refine XE.ofN (XN.lst ?_) | refine XE.ofN (XN.op dn_cat ?_) | refine XE.ofN (XN.op dn_rep ?_) | refine XE.ofN (XN.sl ?_) | refine XE.ofN (XN.cb dn_listOf ?_) | refine XE.cb db_abs ?_ | refine XE.cb db_max2 ?_ | refine XE.len1 ?_ | refine XE.cb db_lenO ?_ | refine XE.cb db_int1 ?_ | refine XE.call ?_ | refine XE.callX0 ?_ | refine XE.callP rfl ?_ | refine XE.andV ?_ | refine XE.orV ?_ | refine XE.notV ?_ | refine XE.ifE ?_ | refine XE.make ?_ | refine XE.isC ?_ | refine XE.isTy ?_ | refine XE.fld hH.cls hH.poly ?_ | refine XE.fld hH.cls hH.rows ?_ | refine XE.fld hH.cls hH.ways ?_ | refine XE.fld hN.cls hN.home ?_ | refine XE.fld hN.cls hN.parts ?_ | refine XE.km rfl ?_ | refine XE.kmX0 rfl ?_ | refine XE.kc rfl ?_ | refine XE.kcX0 rfl ?_) | (guard_target =~ XN _ _ _ _ _; first | refine XN.lst ?_ | refine XN.op dn_cat ?_ | refine XN.op dn_rep ?_ | refine XN.sl ?_ | refine XN.cb dn_listOf ?_) | (guard_target =~ XA _ _ _ _ _; first | refine XA.nil ?_ | refine XA.cons ?_) | (guard_target =~ XT _ _ _ _ _; first | refine XT.test ?_ | refine XT.b ?_ | refine XT.not ?_ | refine XT.and ?_ | refine XT.or ?_ | refine XT.yes ?_) | (guard_target =~ XO _ _ _ _ _; first | refine XO.no ?_ | refine XO.yes ?_) | (guard_target =~ XGs _ _ _ _ _ _; first | refine XGs.cons ?_ | refine XGs.nil ?_) | (guard_target =~ XG _ _ _ _ _ _; first | refine XG.name rfl ?_ | refine XG.tupG rfl ?_ | refine XG.unlG rfl ?_) | refine go_len1 rfl ?_ | refine go_fld rfl ?_ | refine go_ins rfl rfl ?_ | refine go_kc rfl rfl ?_ | refine go_isC ?_ | refine go_isTy rfl (by first | exact kb_int_int | exact kb_int_bool | exact kb_bool_int | exact kb_bool_bool | exact kb_str_str | exact kb_list_list | exact kb_tuple_tuple | exact kb_tuple_list | exact kb_list_tuple | exact kb_NoneType_list | exact kb_NoneType_int | exact kb_str_int | exact kb_int_list | exact kb_int_tuple | exact kb_NoneType_tuple | exact kb_list_int | exact kb_tuple_int | exact kb_str_bool) ?_ | refine go_non ?_ | refine go_I0 ?_ | refine go_I ?_ ?_ | refine go_ix rfl ?_ | refine go_ixT rfl ?_ | refine go_eq rfl rfl rfl ?_ | refine go_ne rfl rfl rfl ?_ | refine go_len rfl ?_ | refine go_cat ?_ ?_ | refine go_rep ?_ ?_ ?_ ?_ | refine go_un ?_ | refine go_int ?_ | refine go_lst ?_ | refine go_tup ?_ | refine go_str ?_ | refine go_bl ?_ | refine go_ixO rfl ?_ | refine go_put rfl ?_ | refine go_ext ?_ ?_ | refine go_app ?_ ?_ | refine go_rg1 ?_ ?_ | refine go_rg2 ?_ ?_ | refine go_rg3 ?_ ?_ | refine go_enum ?_ | refine go_zipS ?_ ?_ | refine go_zip ?_))
        exact ⟨rfl, rfl⟩
      rw [sorts_out hi']
      refine ⟨sorts_cmp i, sorts_cmp i, ?_⟩
      rw [eqD_refl (sorts_cmp i)]
      (repeat' (first | (guard_target =~ XS _ _ _ _ _; first | exact XS.next | refine XS.next ?_ | refine XS.seq ?_ | refine XS.set ?_ | refine XS.ret ?_ | refine XS.ite ?_ | refine XS.drop ?_ | refine XS.asg ?_ | refine XS.par3 ?_ | refine XS.par ?_ | refine XS.retN ?_ | refine XS.next ?_) | (guard_target =~ XE _ _ _ _ _; first | refine XE.var rfl ?_ | refine XE.int ?_ | refine XE.bl ?_ | refine XE.str ?_ | refine XE.non ?_ | refine XE.ixO rfl ?_ | refine XE.lenO rfl ?_ | refine XE.op dr_I0 ?_ | refine XE.op dr_I ?_ | refine XE.op dr_ixL ?_ | refine XE.op dr_ixT ?_ | refine XE.op dr_eq ?_ | refine XE.op dr_ne ?_ | refine XE.op dr_eqD ?_ | refine XE.op dr_neD ?_ | refine XE.op dr_isN ?_ | refine XE.op dr_notN ?_ | refine XE.op dr_eqO ?_ | refine XE.op dr_neO ?_ | refine XE.unI ?_ | refine XE.tup ?_ | refine XE.ofN (XN.lst ?_) | refine XE.ofN (XN.op dn_cat ?_) | refine XE.ofN (XN.op dn_rep ?_) | refine XE.ofN (XN.sl ?_) | refine XE.ofN (XN.cb dn_listOf ?_) | refine XE.cb db_abs ?_ | refine XE.cb db_max2 ?_ | refine XE.len1 ?_ | refine XE.cb db_lenO ?_ | refine XE.cb db_int1 ?_ | refine XE.call ?_ | refine XE.callX0 ?_ | refine XE.callP rfl ?_ | refine XE.andV ?_ | refine XE.orV ?_ | refine XE.notV ?_ | refine XE.ifE ?_ | refine XE.make ?_ | refine XE.isC ?_ | refine XE.isTy ?_ | refine XE.fld hH.cls hH.poly ?_ | refine XE.fld hH.cls hH.rows ?_ | refine XE.fld hH.cls hH.ways ?_ | refine XE.fld hN.cls hN.home ?_ | refine XE.fld hN.cls hN.parts ?_ | refine XE.km rfl ?_ | refine XE.kmX0 rfl ?_ | refine XE.kc rfl ?_ | refine XE.kcX0 rfl ?_) | (guard_target =~ XN _ _ _ _ _; first | refine XN.lst ?_ | refine XN.op dn_cat ?_ | refine XN.op dn_rep ?_ | refine XN.sl ?_ | refine XN.cb dn_listOf ?_) | (guard_target =~ XA _ _ _ _ _; first | refine XA.nil ?_ | refine XA.cons ?_) | (guard_target =~ XT _ _ _ _ _; first | refine XT.test ?_ | refine XT.b ?_ | refine XT.not ?_ | refine XT.and ?_ | refine XT.or ?_ | refine XT.yes ?_) | (guard_target =~ XO _ _ _ _ _; first | refine XO.no ?_ | refine XO.yes ?_) | (guard_target =~ XGs _ _ _ _ _ _; first | refine XGs.cons ?_ | refine XGs.nil ?_) | (guard_target =~ XG _ _ _ _ _ _; first | refine XG.name rfl ?_ | refine XG.tupG rfl ?_ | refine XG.unlG rfl ?_) | refine go_len1 rfl ?_ | refine go_fld rfl ?_ | refine go_ins rfl rfl ?_ | refine go_kc rfl rfl ?_ | refine go_isC ?_ | refine go_isTy rfl (by first | exact kb_int_int | exact kb_int_bool | exact kb_bool_int | exact kb_bool_bool | exact kb_str_str | exact kb_list_list | exact kb_tuple_tuple | exact kb_tuple_list | exact kb_list_tuple | exact kb_NoneType_list | exact kb_NoneType_int | exact kb_str_int | exact kb_int_list | exact kb_int_tuple | exact kb_NoneType_tuple | exact kb_list_int | exact kb_tuple_int | exact kb_str_bool) ?_ | refine go_non ?_ | refine go_I0 ?_ | refine go_I ?_ ?_ | refine go_ix rfl ?_ | refine go_ixT rfl ?_ | refine go_eq rfl rfl rfl ?_ | refine go_ne rfl rfl rfl ?_ | refine go_len rfl ?_ | refine go_cat ?_ ?_ | refine go_rep ?_ ?_ ?_ ?_ | refine go_un ?_ | refine go_int ?_ | refine go_lst ?_ | refine go_tup ?_ | refine go_str ?_ | refine go_bl ?_ | refine go_ixO rfl ?_ | refine go_put rfl ?_ | refine go_ext ?_ ?_ | refine go_app ?_ ?_ | refine go_rg1 ?_ ?_ | refine go_rg2 ?_ ?_ | refine go_rg3 ?_ ?_ | refine go_enum ?_ | refine go_zipS ?_ ?_ | refine go_zip ?_))
      refine ⟨i, fs, rfl, by omega, ?_⟩
      (repeat' (first | (guard_target =~ XS _ _ _ _ _; first | exact XS.next | refine XS.next ?_ | refine XS.seq ?_ | refine XS.set ?_ | refine XS.ret ?_ | refine XS.ite ?_ | refine XS.drop ?_ | refine XS.asg ?_ | refine XS.par3 ?_ | refine XS.par ?_ | refine XS.retN ?_ | refine XS.next ?_) | (guard_target =~ XE _ _ _ _ _; first | refine XE.var rfl ?_ | refine XE.int ?_ | refine XE.bl ?_ | refine XE.str ?_ | refine XE.non ?_ | refine XE.ixO rfl ?_ | refine XE.lenO rfl ?_ | refine XE.op dr_I0 ?_ | refine XE.op dr_I ?_ | refine XE.op dr_ixL ?_ | refine XE.op dr_ixT ?_ | refine XE.op dr_eq ?_ | refine XE.op dr_ne ?_ | refine XE.op dr_eqD ?_ | refine XE.op dr_neD ?_ | refine XE.op dr_isN ?_ | refine XE.op dr_notN ?_ | refine XE.op dr_eqO ?_ | refine XE.op dr_neO ?_ | refine XE.unI ?_ | refine XE.tup ?_ | refine XE.ofN (XN.lst ?_) | refine XE.ofN (XN.op dn_cat ?_) | refine XE.ofN (XN.op dn_rep ?_) | refine XE.ofN (XN.sl ?_) | refine XE.ofN (XN.cb dn_listOf ?_) | refine XE.cb db_abs ?_ | refine XE.cb db_max2 ?_ | refine XE.len1 ?_ | refine XE.cb db_lenO ?_ | refine XE.cb db_int1 ?_ | refine XE.call ?_ | refine XE.callX0 ?_ | refine XE.callP rfl ?_ | refine XE.andV ?_ | refine XE.orV ?_ | refine XE.notV ?_ | refine XE.ifE ?_ | refine XE.make ?_ | refine XE.isC ?_ | refine XE.isTy ?_ | refine XE.fld hH.cls hH.poly ?_ | refine XE.fld hH.cls hH.rows ?_ | refine XE.fld hH.cls hH.ways ?_ | refine XE.fld hN.cls hN.home ?_ | refine XE.fld hN.cls hN.parts ?_ | refine XE.km rfl ?_ | refine XE.kmX0 rfl ?_ | refine XE.kc rfl ?_ | refine XE.kcX0 rfl ?_) | (guard_target =~ XN _ _ _ _ _; first | refine XN.lst ?_ | refine XN.op dn_cat ?_ | refine XN.op dn_rep ?_ | refine XN.sl ?_ | refine XN.cb dn_listOf ?_) | (guard_target =~ XA _ _ _ _ _; first | refine XA.nil ?_ | refine XA.cons ?_) | (guard_target =~ XT _ _ _ _ _; first | refine XT.test ?_ | refine XT.b ?_ | refine XT.not ?_ | refine XT.and ?_ | refine XT.or ?_ | refine XT.yes ?_) | (guard_target =~ XO _ _ _ _ _; first | refine XO.no ?_ | refine XO.yes ?_) | (guard_target =~ XGs _ _ _ _ _ _; first | refine XGs.cons ?_ | refine XGs.nil ?_) | (guard_target =~ XG _ _ _ _ _ _; first | refine XG.name rfl ?_ | refine XG.tupG rfl ?_ | refine XG.unlG rfl ?_) | refine go_len1 rfl ?_ | refine go_fld rfl ?_ | refine go_ins rfl rfl ?_ | refine go_kc rfl rfl ?_ | refine go_isC ?_ | refine go_isTy rfl (by first | exact kb_int_int | exact kb_int_bool | exact kb_bool_int | exact kb_bool_bool | exact kb_str_str | exact kb_list_list | exact kb_tuple_tuple | exact kb_tuple_list | exact kb_list_tuple | exact kb_NoneType_list | exact kb_NoneType_int | exact kb_str_int | exact kb_int_list | exact kb_int_tuple | exact kb_NoneType_tuple | exact kb_list_int | exact kb_tuple_int | exact kb_str_bool) ?_ | refine go_non ?_ | refine go_I0 ?_ | refine go_I ?_ ?_ | refine go_ix rfl ?_ | refine go_ixT rfl ?_ | refine go_eq rfl rfl rfl ?_ | refine go_ne rfl rfl rfl ?_ | refine go_len rfl ?_ | refine go_cat ?_ ?_ | refine go_rep ?_ ?_ ?_ ?_ | refine go_un ?_ | refine go_int ?_ | refine go_lst ?_ | refine go_tup ?_ | refine go_str ?_ | refine go_bl ?_ | refine go_ixO rfl ?_ | refine go_put rfl ?_ | refine go_ext ?_ ?_ | refine go_app ?_ ?_ | refine go_rg1 ?_ ?_ | refine go_rg2 ?_ ?_ | refine go_rg3 ?_ ?_ | refine go_enum ?_ | refine go_zipS ?_ ?_ | refine go_zip ?_))
      rw [kinds_1 hi' hb]
      refine ⟨kinds_cmp i, kinds_cmp i, ?_⟩
      rw [eqD_refl (kinds_cmp i)]
      (repeat' (first | (guard_target =~ XS _ _ _ _ _; first | exact XS.next | refine XS.next ?_ | refine XS.seq ?_ | refine XS.set ?_ | refine XS.ret ?_ | refine XS.ite ?_ | refine XS.drop ?_ | refine XS.asg ?_ | refine XS.par3 ?_ | refine XS.par ?_ | refine XS.retN ?_ | refine XS.next ?_) | (guard_target =~ XE _ _ _ _ _; first | refine XE.var rfl ?_ | refine XE.int ?_ | refine XE.bl ?_ | refine XE.str ?_ | refine XE.non ?_ | refine XE.ixO rfl ?_ | refine XE.lenO rfl ?_ | refine XE.op dr_I0 ?_ | refine XE.op dr_I ?_ | refine XE.op dr_ixL ?_ | refine XE.op dr_ixT ?_ | refine XE.op dr_eq ?_ | refine XE.op dr_ne ?_ | refine XE.op dr_eqD ?_ | refine XE.op dr_neD ?_ | refine XE.op dr_isN ?_ | refine XE.op dr_notN ?_ | refine XE.op dr_eqO ?_ | refine XE.op dr_neO ?_ | refine XE.unI ?_ | refine XE.tup ?_ | refine XE.ofN (XN.lst ?_) | refine XE.ofN (XN.op dn_cat ?_) | refine XE.ofN (XN.op dn_rep ?_) | refine XE.ofN (XN.sl ?_) | refine XE.ofN (XN.cb dn_listOf ?_) | refine XE.cb db_abs ?_ | refine XE.cb db_max2 ?_ | refine XE.len1 ?_ | refine XE.cb db_lenO ?_ | refine XE.cb db_int1 ?_ | refine XE.call ?_ | refine XE.callX0 ?_ | refine XE.callP rfl ?_ | refine XE.andV ?_ | refine XE.orV ?_ | refine XE.notV ?_ | refine XE.ifE ?_ | refine XE.make ?_ | refine XE.isC ?_ | refine XE.isTy ?_ | refine XE.fld hH.cls hH.poly ?_ | refine XE.fld hH.cls hH.rows ?_ | refine XE.fld hH.cls hH.ways ?_ | refine XE.fld hN.cls hN.home ?_ | refine XE.fld hN.cls hN.parts ?_ | refine XE.km rfl ?_ | refine XE.kmX0 rfl ?_ | refine XE.kc rfl ?_ | refine XE.kcX0 rfl ?_) | (guard_target =~ XN _ _ _ _ _; first | refine XN.lst ?_ | refine XN.op dn_cat ?_ | refine XN.op dn_rep ?_ | refine XN.sl ?_ | refine XN.cb dn_listOf ?_) | (guard_target =~ XA _ _ _ _ _; first | refine XA.nil ?_ | refine XA.cons ?_) | (guard_target =~ XT _ _ _ _ _; first | refine XT.test ?_ | refine XT.b ?_ | refine XT.not ?_ | refine XT.and ?_ | refine XT.or ?_ | refine XT.yes ?_) | (guard_target =~ XO _ _ _ _ _; first | refine XO.no ?_ | refine XO.yes ?_) | (guard_target =~ XGs _ _ _ _ _ _; first | refine XGs.cons ?_ | refine XGs.nil ?_) | (guard_target =~ XG _ _ _ _ _ _; first | refine XG.name rfl ?_ | refine XG.tupG rfl ?_ | refine XG.unlG rfl ?_) | refine go_len1 rfl ?_ | refine go_fld rfl ?_ | refine go_ins rfl rfl ?_ | refine go_kc rfl rfl ?_ | refine go_isC ?_ | refine go_isTy rfl (by first | exact kb_int_int | exact kb_int_bool | exact kb_bool_int | exact kb_bool_bool | exact kb_str_str | exact kb_list_list | exact kb_tuple_tuple | exact kb_tuple_list | exact kb_list_tuple | exact kb_NoneType_list | exact kb_NoneType_int | exact kb_str_int | exact kb_int_list | exact kb_int_tuple | exact kb_NoneType_tuple | exact kb_list_int | exact kb_tuple_int | exact kb_str_bool) ?_ | refine go_non ?_ | refine go_I0 ?_ | refine go_I ?_ ?_ | refine go_ix rfl ?_ | refine go_ixT rfl ?_ | refine go_eq rfl rfl rfl ?_ | refine go_ne rfl rfl rfl ?_ | refine go_len rfl ?_ | refine go_cat ?_ ?_ | refine go_rep ?_ ?_ ?_ ?_ | refine go_un ?_ | refine go_int ?_ | refine go_lst ?_ | refine go_tup ?_ | refine go_str ?_ | refine go_bl ?_ | refine go_ixO rfl ?_ | refine go_put rfl ?_ | refine go_ext ?_ ?_ | refine go_app ?_ ?_ | refine go_rg1 ?_ ?_ | refine go_rg2 ?_ ?_ | refine go_rg3 ?_ ?_ | refine go_enum ?_ | refine go_zipS ?_ ?_ | refine go_zip ?_))
      exact ⟨rfl, _, _, _, _, rfl⟩
    · rename_i hb
      (repeat' (first | (guard_target =~ XS _ _ _ _ _; first | exact XS.next | refine XS.next ?_ | refine XS.seq ?_ | refine XS.set ?_ | refine XS.ret ?_ | refine XS.ite ?_ | refine XS.drop ?_ | refine XS.asg ?_ | refine XS.par3 ?_ | refine XS.par ?_ | refine XS.retN ?_ | refine XS.next ?_) | (guard_target =~ XE _ _ _ _ _; first | refine XE.var rfl ?_ | refine XE.int ?_ | refine XE.bl ?_ | refine XE.str ?_ | refine XE.non ?_ | refine XE.ixO rfl ?_ | refine XE.lenO rfl ?_ | refine XE.op dr_I0 ?_ | refine XE.op dr_I ?_ | refine XE.op dr_ixL ?_ | refine XE.op dr_ixT ?_ | refine XE.op dr_eq ?_ | refine XE.op dr_ne ?_ | refine XE.op dr_eqD ?_ | refine XE.op dr_neD ?_ | refine XE.op dr_isN ?_ | refine XE.op dr_notN ?_ | refine XE.op dr_eqO ?_ | refine XE.op dr_neO ?_ | refine XE.unI ?_ | refine XE.tup ?_ | refine XE.ofN (XN.lst ?_) | refine XE.ofN (XN.op dn_cat ?_) | refine XE.ofN (XN.op dn_rep ?_) | refine XE.ofN (XN.sl ?_) | refine XE.ofN (XN.cb dn_listOf ?_) | refine XE.cb db_abs ?_ | refine XE.cb db_max2 ?_ | refine XE.len1 ?_ | refine XE.cb db_lenO ?_ | refine XE.cb db_int1 ?_ | refine XE.call ?_ | refine XE.callX0 ?_ | refine XE.callP rfl ?_ | refine XE.andV ?_ | refine XE.orV ?_ | refine XE.notV ?_ | refine XE.ifE ?_ | refine XE.make ?_ | refine XE.isC ?_ | refine XE.isTy ?_ | refine XE.fld hH.cls hH.poly ?_ | refine XE.fld hH.cls hH.rows ?_ | refine XE.fld hH.cls hH.ways ?_ | refine XE.fld hN.cls hN.home ?_ | refine XE.fld hN.cls hN.parts ?_ | refine XE.km rfl ?_ | refine XE.kmX0 rfl ?_ | refine XE.kc rfl ?_ | refine XE.kcX0 rfl ?_) | (guard_target =~ XN _ _ _ _ _; first | refine XN.lst ?_ | refine XN.op dn_cat ?_ | refine XN.op dn_rep ?_ | refine XN.sl ?_ | refine XN.cb dn_listOf ?_) | (guard_target =~ XA _ _ _ _ _; first | refine XA.nil ?_ | refine XA.cons ?_) | (guard_target =~ XT _ _ _ _ _; first | refine XT.test ?_ | refine XT.b ?_ | refine XT.not ?_ | refine XT.and ?_ | refine XT.or ?_ | refine XT.yes ?_) | (guard_target =~ XO _ _ _ _ _; first | refine XO.no ?_ | refine XO.yes ?_) | (guard_target =~ XGs _ _ _ _ _ _; first | refine XGs.cons ?_ | refine XGs.nil ?_) | (guard_target =~ XG _ _ _ _ _ _; first | refine XG.name rfl ?_ | refine XG.tupG rfl ?_ | refine XG.unlG rfl ?_) | refine go_len1 rfl ?_ | refine go_fld rfl ?_ | refine go_ins rfl rfl ?_ | refine go_kc rfl rfl ?_ | refine go_isC ?_ | refine go_isTy rfl (by first | exact kb_int_int | exact kb_int_bool | exact kb_bool_int | exact kb_bool_bool | exact kb_str_str | exact kb_list_list | exact kb_tuple_tuple | exact kb_tuple_list | exact kb_list_tuple | exact kb_NoneType_list | exact kb_NoneType_int | exact kb_str_int | exact kb_int_list | exact kb_int_tuple | exact kb_NoneType_tuple | exact kb_list_int | exact kb_tuple_int | exact kb_str_bool) ?_ | refine go_non ?_ | refine go_I0 ?_ | refine go_I ?_ ?_ | refine go_ix rfl ?_ | refine go_ixT rfl ?_ | refine go_eq rfl rfl rfl ?_ | refine go_ne rfl rfl rfl ?_ | refine go_len rfl ?_ | refine go_cat ?_ ?_ | refine go_rep ?_ ?_ ?_ ?_ | refine go_un ?_ | refine go_int ?_ | refine go_lst ?_ | refine go_tup ?_ | refine go_str ?_ | refine go_bl ?_ | refine go_ixO rfl ?_ | refine go_put rfl ?_ | refine go_ext ?_ ?_ | refine go_app ?_ ?_ | refine go_rg1 ?_ ?_ | refine go_rg2 ?_ ?_ | refine go_rg3 ?_ ?_ | refine go_enum ?_ | refine go_zipS ?_ ?_ | refine go_zip ?_))
      refine ⟨i, fs, rfl, by omega, ?_⟩
      refine XE.ofN (XN.to (XI.rng1 ?_))
      (repeat' (first | (guard_target =~ XS _ _ _ _ _; first | exact XS.next | refine XS.next ?_ | refine XS.seq ?_ | refine XS.set ?_ | refine XS.ret ?_ | refine XS.ite ?_ | refine XS.drop ?_ | refine XS.asg ?_ | refine XS.par3 ?_ | refine XS.par ?_ | refine XS.retN ?_ | refine XS.next ?_) | (guard_target =~ XE _ _ _ _ _; first | refine XE.var rfl ?_ | refine XE.int ?_ | refine XE.bl ?_ | refine XE.str ?_ | refine XE.non ?_ | refine XE.ixO rfl ?_ | refine XE.lenO rfl ?_ | refine XE.op dr_I0 ?_ | refine XE.op dr_I ?_ | refine XE.op dr_ixL ?_ | refine XE.op dr_ixT ?_ | refine XE.op dr_eq ?_ | refine XE.op dr_ne ?_ | refine XE.op dr_eqD ?_ | refine XE.op dr_neD ?_ | refine XE.op dr_isN ?_ | refine XE.op dr_notN ?_ | refine XE.op dr_eqO ?_ | refine XE.op dr_neO ?_ | refine XE.unI ?_ | refine XE.tup ?_ | refine XE.ofN (XN.lst ?_) | refine XE.ofN (XN.op dn_cat ?_) | refine XE.ofN (XN.op dn_rep ?_) | refine XE.ofN (XN.sl ?_) | refine XE.ofN (XN.cb dn_listOf ?_) | refine XE.cb db_abs ?_ | refine XE.cb db_max2 ?_ | refine XE.len1 ?_ | refine XE.cb db_lenO ?_ | refine XE.cb db_int1 ?_ | refine XE.call ?_ | refine XE.callX0 ?_ | refine XE.callP rfl ?_ | refine XE.andV ?_ | refine XE.orV ?_ | refine XE.notV ?_ | refine XE.ifE ?_ | refine XE.make ?_ | refine XE.isC ?_ | refine XE.isTy ?_ | refine XE.fld hH.cls hH.poly ?_ | refine XE.fld hH.cls hH.rows ?_ | refine XE.fld hH.cls hH.ways ?_ | refine XE.fld hN.cls hN.home ?_ | refine XE.fld hN.cls hN.parts ?_ | refine XE.km rfl ?_ | refine XE.kmX0 rfl ?_ | refine XE.kc rfl ?_ | refine XE.kcX0 rfl ?_) | (guard_target =~ XN _ _ _ _ _; first | refine XN.lst ?_ | refine XN.op dn_cat ?_ | refine XN.op dn_rep ?_ | refine XN.sl ?_ | refine XN.cb dn_listOf ?_) | (guard_target =~ XA _ _ _ _ _; first | refine XA.nil ?_ | refine XA.cons ?_) | (guard_target =~ XT _ _ _ _ _; first | refine XT.test ?_ | refine XT.b ?_ | refine XT.not ?_ | refine XT.and ?_ | refine XT.or ?_ | refine XT.yes ?_) | (guard_target =~ XO _ _ _ _ _; first | refine XO.no ?_ | refine XO.yes ?_) | (guard_target =~ XGs _ _ _ _ _ _; first | refine XGs.cons ?_ | refine XGs.nil ?_) | (guard_target =~ XG _ _ _ _ _ _; first | refine XG.name rfl ?_ | refine XG.tupG rfl ?_ | refine XG.unlG rfl ?_) | refine go_len1 rfl ?_ | refine go_fld rfl ?_ | refine go_ins rfl rfl ?_ | refine go_kc rfl rfl ?_ | refine go_isC ?_ | refine go_isTy rfl (by first | exact kb_int_int | exact kb_int_bool | exact kb_bool_int | exact kb_bool_bool | exact kb_str_str | exact kb_list_list | exact kb_tuple_tuple | exact kb_tuple_list | exact kb_list_tuple | exact kb_NoneType_list | exact kb_NoneType_int | exact kb_str_int | exact kb_int_list | exact kb_int_tuple | exact kb_NoneType_tuple | exact kb_list_int | exact kb_tuple_int | exact kb_str_bool) ?_ | refine go_non ?_ | refine go_I0 ?_ | refine go_I ?_ ?_ | refine go_ix rfl ?_ | refine go_ixT rfl ?_ | refine go_eq rfl rfl rfl ?_ | refine go_ne rfl rfl rfl ?_ | refine go_len rfl ?_ | refine go_cat ?_ ?_ | refine go_rep ?_ ?_ ?_ ?_ | refine go_un ?_ | refine go_int ?_ | refine go_lst ?_ | refine go_tup ?_ | refine go_str ?_ | refine go_bl ?_ | refine go_ixO rfl ?_ | refine go_put rfl ?_ | refine go_ext ?_ ?_ | refine go_app ?_ ?_ | refine go_rg1 ?_ ?_ | refine go_rg2 ?_ ?_ | refine go_rg3 ?_ ?_ | refine go_enum ?_ | refine go_zipS ?_ ?_ | refine go_zip ?_))
      · exact ⟨by decide, by decide⟩
      refine ⟨(List.range 14).map fun j : Nat => Dat.bl (eqS (.int (0 + (j : Int))) (.int (i : Int))), rfl, by decide, fun j d o hj ho => ?_, ?_⟩
      · obtain ⟨jl, rfl⟩ := rng_get hj
        have jl : j < 14 := jl
        have eo : o = Dat.bl (eqS (.int (0 + (j : Int))) (.int (i : Int))) := by
          rw [List.getElem?_map, List.getElem?_range jl] at ho
          exact (Option.some.inj ho).symm
        subst eo
        (repeat' (first | (guard_target =~ XS _ _ _ _ _; first | exact XS.next | refine XS.next ?_ | refine XS.seq ?_ | refine XS.set ?_ | refine XS.ret ?_ | refine XS.ite ?_ | refine XS.drop ?_ | refine XS.asg ?_ | refine XS.par3 ?_ | refine XS.par ?_ | refine XS.retN ?_ | refine XS.next ?_) | (guard_target =~ XE _ _ _ _ _; first | refine XE.var rfl ?_ | refine XE.int ?_ | refine XE.bl ?_ | refine XE.str ?_ | refine XE.non ?_ | refine XE.ixO rfl ?_ | refine XE.lenO rfl ?_ | refine XE.op dr_I0 ?_ | refine XE.op dr_I ?_ | refine XE.op dr_ixL ?_ | refine XE.op dr_ixT ?_ | refine XE.op dr_eq ?_ | refine XE.op dr_ne ?_ | refine XE.op dr_eqD ?_ | refine XE.op dr_neD ?_ | refine XE.op dr_isN ?_ | refine XE.op dr_notN ?_ | refine XE.op dr_eqO ?_ | refine XE.op dr_neO ?_ | refine XE.unI ?_ | refine XE.tup ?_ | refine XE.ofN (XN.lst ?_) | refine XE.ofN (XN.op dn_cat ?_) | refine XE.ofN (XN.op dn_rep ?_) | refine XE.ofN (XN.sl ?_) | refine XE.ofN (XN.cb dn_listOf ?_) | refine XE.cb db_abs ?_ | refine XE.cb db_max2 ?_ | refine XE.len1 ?_ | refine XE.cb db_lenO ?_ | refine XE.cb db_int1 ?_ | refine XE.call ?_ | refine XE.callX0 ?_ | refine XE.callP rfl ?_ | refine XE.andV ?_ | refine XE.orV ?_ | refine XE.notV ?_ | refine XE.ifE ?_ | refine XE.make ?_ | refine XE.isC ?_ | refine XE.isTy ?_ | refine XE.fld hH.cls hH.poly ?_ | refine XE.fld hH.cls hH.rows ?_ | refine XE.fld hH.cls hH.ways ?_ | refine XE.fld hN.cls hN.home ?_ | refine XE.fld hN.cls hN.parts ?_ | refine XE.km rfl ?_ | refine XE.kmX0 rfl ?_ | refine XE.kc rfl ?_ | refine XE.kcX0 rfl ?_) | (guard_target =~ XN _ _ _ _ _; first | refine XN.lst ?_ | refine XN.op dn_cat ?_ | refine XN.op dn_rep ?_ | refine XN.sl ?_ | refine XN.cb dn_listOf ?_) | (guard_target =~ XA _ _ _ _ _; first | refine XA.nil ?_ | refine XA.cons ?_) | (guard_target =~ XT _ _ _ _ _; first | refine XT.test ?_ | refine XT.b ?_ | refine XT.not ?_ | refine XT.and ?_ | refine XT.or ?_ | refine XT.yes ?_) | (guard_target =~ XO _ _ _ _ _; first | refine XO.no ?_ | refine XO.yes ?_) | (guard_target =~ XGs _ _ _ _ _ _; first | refine XGs.cons ?_ | refine XGs.nil ?_) | (guard_target =~ XG _ _ _ _ _ _; first | refine XG.name rfl ?_ | refine XG.tupG rfl ?_ | refine XG.unlG rfl ?_) | refine go_len1 rfl ?_ | refine go_fld rfl ?_ | refine go_ins rfl rfl ?_ | refine go_kc rfl rfl ?_ | refine go_isC ?_ | refine go_isTy rfl (by first | exact kb_int_int | exact kb_int_bool | exact kb_bool_int | exact kb_bool_bool | exact kb_str_str | exact kb_list_list | exact kb_tuple_tuple | exact kb_tuple_list | exact kb_list_tuple | exact kb_NoneType_list | exact kb_NoneType_int | exact kb_str_int | exact kb_int_list | exact kb_int_tuple | exact kb_NoneType_tuple | exact kb_list_int | exact kb_tuple_int | exact kb_str_bool) ?_ | refine go_non ?_ | refine go_I0 ?_ | refine go_I ?_ ?_ | refine go_ix rfl ?_ | refine go_ixT rfl ?_ | refine go_eq rfl rfl rfl ?_ | refine go_ne rfl rfl rfl ?_ | refine go_len rfl ?_ | refine go_cat ?_ ?_ | refine go_rep ?_ ?_ ?_ ?_ | refine go_un ?_ | refine go_int ?_ | refine go_lst ?_ | refine go_tup ?_ | refine go_str ?_ | refine go_bl ?_ | refine go_ixO rfl ?_ | refine go_put rfl ?_ | refine go_ext ?_ ?_ | refine go_app ?_ ?_ | refine go_rg1 ?_ ?_ | refine go_rg2 ?_ ?_ | refine go_rg3 ?_ ?_ | refine go_enum ?_ | refine go_zipS ?_ ?_ | refine go_zip ?_))
        exact ⟨rfl, rfl⟩
      rw [sorts_out hi']
      refine ⟨sorts_cmp i, sorts_cmp i, ?_⟩
      rw [eqD_refl (sorts_cmp i)]
      (repeat' (first | (guard_target =~ XS _ _ _ _ _; first | exact XS.next | refine XS.next ?_ | refine XS.seq ?_ | refine XS.set ?_ | refine XS.ret ?_ | refine XS.ite ?_ | refine XS.drop ?_ | refine XS.asg ?_ | refine XS.par3 ?_ | refine XS.par ?_ | refine XS.retN ?_ | refine XS.next ?_) | (guard_target =~ XE _ _ _ _ _; first | refine XE.var rfl ?_ | refine XE.int ?_ | refine XE.bl ?_ | refine XE.str ?_ | refine XE.non ?_ | refine XE.ixO rfl ?_ | refine XE.lenO rfl ?_ | refine XE.op dr_I0 ?_ | refine XE.op dr_I ?_ | refine XE.op dr_ixL ?_ | refine XE.op dr_ixT ?_ | refine XE.op dr_eq ?_ | refine XE.op dr_ne ?_ | refine XE.op dr_eqD ?_ | refine XE.op dr_neD ?_ | refine XE.op dr_isN ?_ | refine XE.op dr_notN ?_ | refine XE.op dr_eqO ?_ | refine XE.op dr_neO ?_ | refine XE.unI ?_ | refine XE.tup ?_ | refine XE.ofN (XN.lst ?_) | refine XE.ofN (XN.op dn_cat ?_) | refine XE.ofN (XN.op dn_rep ?_) | refine XE.ofN (XN.sl ?_) | refine XE.ofN (XN.cb dn_listOf ?_) | refine XE.cb db_abs ?_ | refine XE.cb db_max2 ?_ | refine XE.len1 ?_ | refine XE.cb db_lenO ?_ | refine XE.cb db_int1 ?_ | refine XE.call ?_ | refine XE.callX0 ?_ | refine XE.callP rfl ?_ | refine XE.andV ?_ | refine XE.orV ?_ | refine XE.notV ?_ | refine XE.ifE ?_ | refine XE.make ?_ | refine XE.isC ?_ | refine XE.isTy ?_ | refine XE.fld hH.cls hH.poly ?_ | refine XE.fld hH.cls hH.rows ?_ | refine XE.fld hH.cls hH.ways ?_ | refine XE.fld hN.cls hN.home ?_ | refine XE.fld hN.cls hN.parts ?_ | refine XE.km rfl ?_ | refine XE.kmX0 rfl ?_ | refine XE.kc rfl ?_ | refine XE.kcX0 rfl ?_) | (guard_target =~ XN _ _ _ _ _; first | refine XN.lst ?_ | refine XN.op dn_cat ?_ | refine XN.op dn_rep ?_ | refine XN.sl ?_ | refine XN.cb dn_listOf ?_) | (guard_target =~ XA _ _ _ _ _; first | refine XA.nil ?_ | refine XA.cons ?_) | (guard_target =~ XT _ _ _ _ _; first | refine XT.test ?_ | refine XT.b ?_ | refine XT.not ?_ | refine XT.and ?_ | refine XT.or ?_ | refine XT.yes ?_) | (guard_target =~ XO _ _ _ _ _; first | refine XO.no ?_ | refine XO.yes ?_) | (guard_target =~ XGs _ _ _ _ _ _; first | refine XGs.cons ?_ | refine XGs.nil ?_) | (guard_target =~ XG _ _ _ _ _ _; first | refine XG.name rfl ?_ | refine XG.tupG rfl ?_ | refine XG.unlG rfl ?_) | refine go_len1 rfl ?_ | refine go_fld rfl ?_ | refine go_ins rfl rfl ?_ | refine go_kc rfl rfl ?_ | refine go_isC ?_ | refine go_isTy rfl (by first | exact kb_int_int | exact kb_int_bool | exact kb_bool_int | exact kb_bool_bool | exact kb_str_str | exact kb_list_list | exact kb_tuple_tuple | exact kb_tuple_list | exact kb_list_tuple | exact kb_NoneType_list | exact kb_NoneType_int | exact kb_str_int | exact kb_int_list | exact kb_int_tuple | exact kb_NoneType_tuple | exact kb_list_int | exact kb_tuple_int | exact kb_str_bool) ?_ | refine go_non ?_ | refine go_I0 ?_ | refine go_I ?_ ?_ | refine go_ix rfl ?_ | refine go_ixT rfl ?_ | refine go_eq rfl rfl rfl ?_ | refine go_ne rfl rfl rfl ?_ | refine go_len rfl ?_ | refine go_cat ?_ ?_ | refine go_rep ?_ ?_ ?_ ?_ | refine go_un ?_ | refine go_int ?_ | refine go_lst ?_ | refine go_tup ?_ | refine go_str ?_ | refine go_bl ?_ | refine go_ixO rfl ?_ | refine go_put rfl ?_ | refine go_ext ?_ ?_ | refine go_app ?_ ?_ | refine go_rg1 ?_ ?_ | refine go_rg2 ?_ ?_ | refine go_rg3 ?_ ?_ | refine go_enum ?_ | refine go_zipS ?_ ?_ | refine go_zip ?_))
      refine ⟨i, fs, rfl, by omega, ?_⟩
      (repeat' (first | (guard_target =~ XS _ _ _ _ _; first | exact XS.next | refine XS.next ?_ | refine XS.seq ?_ | refine XS.set ?_ | refine XS.ret ?_ | refine XS.ite ?_ | refine XS.drop ?_ | refine XS.asg ?_ | refine XS.par3 ?_ | refine XS.par ?_ | refine XS.retN ?_ | refine XS.next ?_) | (guard_target =~ XE _ _ _ _ _; first | refine XE.var rfl ?_ | refine XE.int ?_ | refine XE.bl ?_ | refine XE.str ?_ | refine XE.non ?_ | refine XE.ixO rfl ?_ | refine XE.lenO rfl ?_ | refine XE.op dr_I0 ?_ | refine XE.op dr_I ?_ | refine XE.op dr_ixL ?_ | refine XE.op dr_ixT ?_ | refine XE.op dr_eq ?_ | refine XE.op dr_ne ?_ | refine XE.op dr_eqD ?_ | refine XE.op dr_neD ?_ | refine XE.op dr_isN ?_ | refine XE.op dr_notN ?_ | refine XE.op dr_eqO ?_ | refine XE.op dr_neO ?_ | refine XE.unI ?_ | refine XE.tup ?_ | refine XE.ofN (XN.lst ?_) | refine XE.ofN (XN.op dn_cat ?_) | refine XE.ofN (XN.op dn_rep ?_) | refine XE.ofN (XN.sl ?_) | refine XE.ofN (XN.cb dn_listOf ?_) | refine XE.cb db_abs ?_ | refine XE.cb db_max2 ?_ | refine XE.len1 ?_ | refine XE.cb db_lenO ?_ | refine XE.cb db_int1 ?_ | refine XE.call ?_ | refine XE.callX0 ?_ | refine XE.callP rfl ?_ | refine XE.andV ?_ | refine XE.orV ?_ | refine XE.notV ?_ | refine XE.ifE ?_ | refine XE.make ?_ | refine XE.isC ?_ | refine XE.isTy ?_ | refine XE.fld hH.cls hH.poly ?_ | refine XE.fld hH.cls hH.rows ?_ | refine XE.fld hH.cls hH.ways ?_ | refine XE.fld hN.cls hN.home ?_ | refine XE.fld hN.cls hN.parts ?_ | refine XE.km rfl ?_ | refine XE.kmX0 rfl ?_ | refine XE.kc rfl ?_ | refine XE.kcX0 rfl ?_) | (guard_target =~ XN _ _ _ _ _; first | refine XN.lst ?_ | refine XN.op dn_cat ?_ | refine XN.op dn_rep ?_ | refine XN.sl ?_ | refine XN.cb dn_listOf ?_) | (guard_target =~ XA _ _ _ _ _; first | refine XA.nil ?_ | refine XA.cons ?_) | (guard_target =~ XT _ _ _ _ _; first | refine XT.test ?_ | refine XT.b ?_ | refine XT.not ?_ | refine XT.and ?_ | refine XT.or ?_ | refine XT.yes ?_) | (guard_target =~ XO _ _ _ _ _; first | refine XO.no ?_ | refine XO.yes ?_) | (guard_target =~ XGs _ _ _ _ _ _; first | refine XGs.cons ?_ | refine XGs.nil ?_) | (guard_target =~ XG _ _ _ _ _ _; first | refine XG.name rfl ?_ | refine XG.tupG rfl ?_ | refine XG.unlG rfl ?_) | refine go_len1 rfl ?_ | refine go_fld rfl ?_ | refine go_ins rfl rfl ?_ | refine go_kc rfl rfl ?_ | refine go_isC ?_ | refine go_isTy rfl (by first | exact kb_int_int | exact kb_int_bool | exact kb_bool_int | exact kb_bool_bool | exact kb_str_str | exact kb_list_list | exact kb_tuple_tuple | exact kb_tuple_list | exact kb_list_tuple | exact kb_NoneType_list | exact kb_NoneType_int | exact kb_str_int | exact kb_int_list | exact kb_int_tuple | exact kb_NoneType_tuple | exact kb_list_int | exact kb_tuple_int | exact kb_str_bool) ?_ | refine go_non ?_ | refine go_I0 ?_ | refine go_I ?_ ?_ | refine go_ix rfl ?_ | refine go_ixT rfl ?_ | refine go_eq rfl rfl rfl ?_ | refine go_ne rfl rfl rfl ?_ | refine go_len rfl ?_ | refine go_cat ?_ ?_ | refine go_rep ?_ ?_ ?_ ?_ | refine go_un ?_ | refine go_int ?_ | refine go_lst ?_ | refine go_tup ?_ | refine go_str ?_ | refine go_bl ?_ | refine go_ixO rfl ?_ | refine go_put rfl ?_ | refine go_ext ?_ ?_ | refine go_app ?_ ?_ | refine go_rg1 ?_ ?_ | refine go_rg2 ?_ ?_ | refine go_rg3 ?_ ?_ | refine go_enum ?_ | refine go_zipS ?_ ?_ | refine go_zip ?_))
      rw [kinds_2 hi' hb]
      refine ⟨kinds_cmp i, kinds_cmp i, ?_⟩
      rw [eqD_refl (kinds_cmp i)]
      (repeat' (first | (guard_target =~ XS _ _ _ _ _; first | exact XS.next | refine XS.next ?_ | refine XS.seq ?_ | refine XS.set ?_ | refine XS.ret ?_ | refine XS.ite ?_ | refine XS.drop ?_ | refine XS.asg ?_ | refine XS.par3 ?_ | refine XS.par ?_ | refine XS.retN ?_ | refine XS.next ?_) | (guard_target =~ XE _ _ _ _ _; first | refine XE.var rfl ?_ | refine XE.int ?_ | refine XE.bl ?_ | refine XE.str ?_ | refine XE.non ?_ | refine XE.ixO rfl ?_ | refine XE.lenO rfl ?_ | refine XE.op dr_I0 ?_ | refine XE.op dr_I ?_ | refine XE.op dr_ixL ?_ | refine XE.op dr_ixT ?_ | refine XE.op dr_eq ?_ | refine XE.op dr_ne ?_ | refine XE.op dr_eqD ?_ | refine XE.op dr_neD ?_ | refine XE.op dr_isN ?_ | refine XE.op dr_notN ?_ | refine XE.op dr_eqO ?_ | refine XE.op dr_neO ?_ | refine XE.unI ?_ | refine XE.tup ?_ | refine XE.ofN (XN.lst ?_) | refine XE.ofN (XN.op dn_cat ?_) | refine XE.ofN (XN.op dn_rep ?_) | refine XE.ofN (XN.sl ?_) | refine XE.ofN (XN.cb dn_listOf ?_) | refine XE.cb db_abs ?_ | refine XE.cb db_max2 ?_ | refine XE.len1 ?_ | refine XE.cb db_lenO ?_ | refine XE.cb db_int1 ?_ | refine XE.call ?_ | refine XE.callX0 ?_ | refine XE.callP rfl ?_ | refine XE.andV ?_ | refine XE.orV ?_ | refine XE.notV ?_ | refine XE.ifE ?_ | refine XE.make ?_ | refine XE.isC ?_ | refine XE.isTy ?_ | refine XE.fld hH.cls hH.poly ?_ | refine XE.fld hH.cls hH.rows ?_ | refine XE.fld hH.cls hH.ways ?_ | refine XE.fld hN.cls hN.home ?_ | refine XE.fld hN.cls hN.parts ?_ | refine XE.km rfl ?_ | refine XE.kmX0 rfl ?_ | refine XE.kc rfl ?_ | refine XE.kcX0 rfl ?_) | (guard_target =~ XN _ _ _ _ _; first | refine XN.lst ?_ | refine XN.op dn_cat ?_ | refine XN.op dn_rep ?_ | refine XN.sl ?_ | refine XN.cb dn_listOf ?_) | (guard_target =~ XA _ _ _ _ _; first | refine XA.nil ?_ | refine XA.cons ?_) | (guard_target =~ XT _ _ _ _ _; first | refine XT.test ?_ | refine XT.b ?_ | refine XT.not ?_ | refine XT.and ?_ | refine XT.or ?_ | refine XT.yes ?_) | (guard_target =~ XO _ _ _ _ _; first | refine XO.no ?_ | refine XO.yes ?_) | (guard_target =~ XGs _ _ _ _ _ _; first | refine XGs.cons ?_ | refine XGs.nil ?_) | (guard_target =~ XG _ _ _ _ _ _; first | refine XG.name rfl ?_ | refine XG.tupG rfl ?_ | refine XG.unlG rfl ?_) | refine go_len1 rfl ?_ | refine go_fld rfl ?_ | refine go_ins rfl rfl ?_ | refine go_kc rfl rfl ?_ | refine go_isC ?_ | refine go_isTy rfl (by first | exact kb_int_int | exact kb_int_bool | exact kb_bool_int | exact kb_bool_bool | exact kb_str_str | exact kb_list_list | exact kb_tuple_tuple | exact kb_tuple_list | exact kb_list_tuple | exact kb_NoneType_list | exact kb_NoneType_int | exact kb_str_int | exact kb_int_list | exact kb_int_tuple | exact kb_NoneType_tuple | exact kb_list_int | exact kb_tuple_int | exact kb_str_bool) ?_ | refine go_non ?_ | refine go_I0 ?_ | refine go_I ?_ ?_ | refine go_ix rfl ?_ | refine go_ixT rfl ?_ | refine go_eq rfl rfl rfl ?_ | refine go_ne rfl rfl rfl ?_ | refine go_len rfl ?_ | refine go_cat ?_ ?_ | refine go_rep ?_ ?_ ?_ ?_ | refine go_un ?_ | refine go_int ?_ | refine go_lst ?_ | refine go_tup ?_ | refine go_str ?_ | refine go_bl ?_ | refine go_ixO rfl ?_ | refine go_put rfl ?_ | refine go_ext ?_ ?_ | refine go_app ?_ ?_ | refine go_rg1 ?_ ?_ | refine go_rg2 ?_ ?_ | refine go_rg3 ?_ ?_ | refine go_enum ?_ | refine go_zipS ?_ ?_ | refine go_zip ?_))
      exact ⟨rfl, _, _, _, _, rfl⟩
  · subst e1 e2
    (repeat' (first | (guard_target =~ XS _ _ _ _ _; first | exact XS.next | refine XS.next ?_ | refine XS.seq ?_ | refine XS.set ?_ | refine XS.ret ?_ | refine XS.ite ?_ | refine XS.drop ?_ | refine XS.asg ?_ | refine XS.par3 ?_ | refine XS.par ?_ | refine XS.retN ?_ | refine XS.next ?_) | (guard_target =~ XE _ _ _ _ _; first | refine XE.var rfl ?_ | refine XE.int ?_ | refine XE.bl ?_ | refine XE.str ?_ | refine XE.non ?_ | refine XE.ixO rfl ?_ | refine XE.lenO rfl ?_ | refine XE.op dr_I0 ?_ | refine XE.op dr_I ?_ | refine XE.op dr_ixL ?_ | refine XE.op dr_ixT ?_ | refine XE.op dr_eq ?_ | refine XE.op dr_ne ?_ | refine XE.op dr_eqD ?_ | refine XE.op dr_neD ?_ | refine XE.op dr_isN ?_ | refine XE.op dr_notN ?_ | refine XE.op dr_eqO ?_ | refine XE.op dr_neO ?_ | refine XE.unI ?_ | refine XE.tup ?_ | refine XE.ofN (XN.lst ?_) | refine XE.ofN (XN.op dn_cat ?_) | refine XE.ofN (XN.op dn_rep ?_) | refine XE.ofN (XN.sl ?_) | refine XE.ofN (XN.cb dn_listOf ?_) | refine XE.cb db_abs ?_ | refine XE.cb db_max2 ?_ | refine XE.len1 ?_ | refine XE.cb db_lenO ?_ | refine XE.cb db_int1 ?_ | refine XE.call ?_ | refine XE.callX0 ?_ | refine XE.callP rfl ?_ | refine XE.andV ?_ | refine XE.orV ?_ | refine XE.notV ?_ | refine XE.ifE ?_ | refine XE.make ?_ | refine XE.isC ?_ | refine XE.isTy ?_ | refine XE.fld hH.cls hH.poly ?_ | refine XE.fld hH.cls hH.rows ?_ | refine XE.fld hH.cls hH.ways ?_ | refine XE.fld hN.cls hN.home ?_ | refine XE.fld hN.cls hN.parts ?_ | refine XE.km rfl ?_ | refine XE.kmX0 rfl ?_ | refine XE.kc rfl ?_ | refine XE.kcX0 rfl ?_) | (guard_target =~ XN _ _ _ _ _; first | refine XN.lst ?_ | refine XN.op dn_cat ?_ | refine XN.op dn_rep ?_ | refine XN.sl ?_ | refine XN.cb dn_listOf ?_) | (guard_target =~ XA _ _ _ _ _; first | refine XA.nil ?_ | refine XA.cons ?_) | (guard_target =~ XT _ _ _ _ _; first | refine XT.test ?_ | refine XT.b ?_ | refine XT.not ?_ | refine XT.and ?_ | refine XT.or ?_ | refine XT.yes ?_) | (guard_target =~ XO _ _ _ _ _; first | refine XO.no ?_ | refine XO.yes ?_) | (guard_target =~ XGs _ _ _ _ _ _; first | refine XGs.cons ?_ | refine XGs.nil ?_) | (guard_target =~ XG _ _ _ _ _ _; first | refine XG.name rfl ?_ | refine XG.tupG rfl ?_ | refine XG.unlG rfl ?_) | refine go_len1 rfl ?_ | refine go_fld rfl ?_ | refine go_ins rfl rfl ?_ | refine go_kc rfl rfl ?_ | refine go_isC ?_ | refine go_isTy rfl (by first | exact kb_int_int | exact kb_int_bool | exact kb_bool_int | exact kb_bool_bool | exact kb_str_str | exact kb_list_list | exact kb_tuple_tuple | exact kb_tuple_list | exact kb_list_tuple | exact kb_NoneType_list | exact kb_NoneType_int | exact kb_str_int | exact kb_int_list | exact kb_int_tuple | exact kb_NoneType_tuple | exact kb_list_int | exact kb_tuple_int | exact kb_str_bool) ?_ | refine go_non ?_ | refine go_I0 ?_ | refine go_I ?_ ?_ | refine go_ix rfl ?_ | refine go_ixT rfl ?_ | refine go_eq rfl rfl rfl ?_ | refine go_ne rfl rfl rfl ?_ | refine go_len rfl ?_ | refine go_cat ?_ ?_ | refine go_rep ?_ ?_ ?_ ?_ | refine go_un ?_ | refine go_int ?_ | refine go_lst ?_ | refine go_tup ?_ | refine go_str ?_ | refine go_bl ?_ | refine go_ixO rfl ?_ | refine go_put rfl ?_ | refine go_ext ?_ ?_ | refine go_app ?_ ?_ | refine go_rg1 ?_ ?_ | refine go_rg2 ?_ ?_ | refine go_rg3 ?_ ?_ | refine go_enum ?_ | refine go_zipS ?_ ?_ | refine go_zip ?_))
    exact k
end
end My

namespace My
open PySem PySem.Spec PyProof.Rows L2
open C8 (Cal pe_c pe_gc)
section
variable {c : Cs} {P : Program} {w : World} {K : PySem.W.Frag} {mg : Str → Option Value} {base : Heap}
abbrev s_NoPoly_init : Stmt := inClass (top 2) 0
abbrev N_NoPoly_init : List Str := ["self", "at"]
abbrev P_NoPoly_init : List Str := ["self", "at"]
theorem sc_NoPoly_init : FnScope N_NoPoly_init ["self", "at"] (defScope s_NoPoly_init) := ⟨rfl, rfl, rfl, by decide +kernel, rfl, by decide +kernel, by decide +kernel⟩

theorem ok_NoPoly_init (T : Txt K mg c) (ini_RootError : Ini K c.RootError) {dvs : List V} {kws : List (Str × V)} {f : Addr} {fd : FuncData} (F : FunD K "__init__" "NoPoly.__init__" (defArgs s_NoPoly_init) (defBody s_NoPoly_init) (defScope s_NoPoly_init) dvs kws f fd) : FnOk P w K mg base CX0 1 f fd P_NoPoly_init (sp_Ini K "at") := by
  refine F.ok sc_NoPoly_init (fun vs H Q E h => ?_) (fun cdv A outer s H vs Q E hr h => ?_)
  · obtain ⟨a, C, v, rfl, _⟩ := h
    rfl
  · obtain ⟨a, C, v, rfl, o, no, ha, k⟩ := h
    refine ⟨_, (pss_cons (ps_expr (pe_reinit rfl T.g_RootError ini_RootError (pa_cons (pv 0) (pa_cons pe_str pa_nil))))
      (pss_one (ps_ost (pv 0) (pv 1)))), ?_⟩
    refine ⟨_, rfl, a, C, _, rfl, (by decide), o, ha, ?_⟩
    exact ⟨_, rfl, _, rfl, a, C, rfl, o, no, .inl ⟨ha, fun dx n ne => k dx n ne⟩⟩
abbrev s_NoMove_init : Stmt := inClass (top 3) 0
abbrev N_NoMove_init : List Str := ["self", "move"]
abbrev P_NoMove_init : List Str := ["self", "move"]
theorem sc_NoMove_init : FnScope N_NoMove_init ["self", "move"] (defScope s_NoMove_init) := ⟨rfl, rfl, rfl, by decide +kernel, rfl, by decide +kernel, by decide +kernel⟩

theorem ok_NoMove_init (T : Txt K mg c) (ini_RootError : Ini K c.RootError) {dvs : List V} {kws : List (Str × V)} {f : Addr} {fd : FuncData} (F : FunD K "__init__" "NoMove.__init__" (defArgs s_NoMove_init) (defBody s_NoMove_init) (defScope s_NoMove_init) dvs kws f fd) : FnOk P w K mg base CX0 1 f fd P_NoMove_init (sp_Ini K "move") := by
  refine F.ok sc_NoMove_init (fun vs H Q E h => ?_) (fun cdv A outer s H vs Q E hr h => ?_)
  · obtain ⟨a, C, v, rfl, _⟩ := h
    rfl
  · obtain ⟨a, C, v, rfl, o, no, ha, k⟩ := h
    refine ⟨_, (pss_cons (ps_expr (pe_reinit rfl T.g_RootError ini_RootError (pa_cons (pv 0) (pa_cons pe_str pa_nil))))
      (pss_one (ps_ost (pv 0) (pv 1)))), ?_⟩
    refine ⟨_, rfl, a, C, _, rfl, (by decide), o, ha, ?_⟩
    exact ⟨_, rfl, _, rfl, a, C, rfl, o, no, .inl ⟨ha, fun dx n ne => k dx n ne⟩⟩
abbrev s_Twice_init : Stmt := inClass (top 5) 0
abbrev N_Twice_init : List Str := ["self", "name"]
abbrev P_Twice_init : List Str := ["self", "name"]
theorem sc_Twice_init : FnScope N_Twice_init ["self", "name"] (defScope s_Twice_init) := ⟨rfl, rfl, rfl, by decide +kernel, rfl, by decide +kernel, by decide +kernel⟩

theorem ok_Twice_init (T : Txt K mg c) (vV : PySem.W.findCls K (.type "ValueError") (.type "type") "__init__" = some (.val (.builtin "ValueError.__init__"))) {dvs : List V} {kws : List (Str × V)} {f : Addr} {fd : FuncData} (F : FunD K "__init__" "Twice.__init__" (defArgs s_Twice_init) (defBody s_Twice_init) (defScope s_Twice_init) dvs kws f fd) : FnOk P w K mg base CX0 1 f fd P_Twice_init (sp_Ini K "name") := by
  refine F.ok sc_Twice_init (fun vs H Q E h => ?_) (fun cdv A outer s H vs Q E hr h => ?_)
  · obtain ⟨a, C, v, rfl, _⟩ := h
    rfl
  · obtain ⟨a, C, v, rfl, o, no, ha, k⟩ := h
    refine ⟨_, (pss_cons (ps_expr (pe_veinit rfl T.z_ValueError vV (pa_cons (pv 0) (pa_cons pe_str pa_nil))))
      (pss_one (ps_ost (pv 0) (pv 1)))), ?_⟩
    refine ⟨_, rfl, a, C, _, rfl, (by decide), o, ha, ?_⟩
    exact ⟨_, rfl, _, rfl, a, C, rfl, o, no, .inl ⟨ha, fun dx n ne => k dx n ne⟩⟩
abbrev s_NoName_init : Stmt := inClass (top 4) 0
abbrev N_NoName_init : List Str := ["self", "name"]
abbrev P_NoName_init : List Str := ["self", "name"]
theorem sc_NoName_init : FnScope N_NoName_init ["self", "name"] (defScope s_NoName_init) := ⟨rfl, rfl, rfl, by decide +kernel, rfl, by decide +kernel, by decide +kernel⟩

theorem ok_NoName_init (T : Txt K mg c) (vK : PySem.W.findCls K (.type "KeyError") (.type "type") "__init__" = some (.val (.builtin "KeyError.__init__"))) {dvs : List V} {kws : List (Str × V)} {f : Addr} {fd : FuncData} (F : FunD K "__init__" "NoName.__init__" (defArgs s_NoName_init) (defBody s_NoName_init) (defScope s_NoName_init) dvs kws f fd) : FnOk P w K mg base CX0 1 f fd P_NoName_init (sp_IniK K "name") := by
  refine F.ok sc_NoName_init (fun vs H Q E h => ?_) (fun cdv A outer s H vs Q E hr h => ?_)
  · obtain ⟨a, C, v, rfl, _⟩ := h
    rfl
  · obtain ⟨a, C, v, rfl, o, no, ha, k⟩ := h
    refine ⟨_, (pss_cons (ps_expr (pe_keinit rfl T.z_KeyError vK (pa_cons (pv 0) (pa_cons pe_str pa_nil))))
      (pss_one (ps_ostK (pv 0) (pv 1)))), ?_⟩
    refine ⟨_, rfl, a, C, _, rfl, (by decide), o, ha, ?_⟩
    exact ⟨_, rfl, _, rfl, a, C, rfl, o, no, ha, fun dx n ne => k dx n ne⟩
/-! the draw, told of data -/
theorem Cal.imp {P : Program} {w : World} {K : PySem.W.Frag} {mg : Str → Option Value} {base : Heap} {k : Nat} {x : Str} {sp sp' : Sp} {dvs : List V} (c : Cal P w K mg base k x sp dvs) (h : ∀ vs H Q E, sp' vs H Q E → sp vs H Q E) : Cal P w K mg base k x sp' dvs := by
  obtain ⟨f, fd, ps, ds, F, q⟩ := c.ex
  exact ⟨f, fd, ps, ds, ⟨fun vs H Q E z => F.len vs H Q E (h _ _ _ _ z), fun A st s H args us vs Q E r e b v z => F.run A st s H args us vs Q E r e b v (h _ _ _ _ z)⟩, q⟩
def W_Ldraw : WpP := fun m ds C => ∃ n : Int, ds = [.int n] ∧ 0 < n ∧ n < 2 ^ 200 ∧ m ≤ 2 ^ 30 ∧ ∀ z : Int, 0 ≤ z → z < n → C (m + 20) (.int z)
theorem LeX.ofXt {a : Addr} {H H' : Hp} (x : Xt a H H') : LeX [a] H H' := fun b o hb ho => .inl (x b o (by simpa using hb) ho)
theorem ad_Ldraw {vs : List V} {H : Hp} {Q : VK} {E : XK} (h : spP W_Ldraw vs H Q E) : sp_Ldraw vs H Q E := by
  obtain ⟨a, us, G, m, ds, C, rfl, aG, hp, hd, r, ⟨n, rfl, h0, h1, hm, c⟩, k⟩ := h
  cases r with
  | cons r t =>
    cases r; cases t
    exact ⟨a, n, m, rfl, h0, h1, hp, hm, fun H' z x p z0 z1 => k _ _ _ H' (c z z0 z1) (.ofXt x) p (.int _)⟩
theorem XS.enter {z : Cz} {O : List Addr} {g : List Sl} {m : Nat} {σ : L2.St} {H : Hp} {t : TS} {D : Ends} {E : DE} (R : Real z O g m σ H) (k : DK z O H E D) (h : XS z t g m E) : t D σ H := h O σ H R D k
theorem real_95 {a p : Addr} {m : Nat} {os : List (Option V)} {H : Hp} (hp : Pur H p m) :
    Real ⟨[p], [p], H⟩ [p] ([.raw (.ref a), .pu] ++ os.map fun _ => Sl.un) m ([some (.ref a), some (.ref p)] ++ os) H where
  dom := fun q h => by rw [List.mem_singleton.mp h]; exact hp.at
  sub := fun _ h => h
  new := fun _ h => .inl h
  pg := fun _ h => h
  pur := fun b hb => by rw [List.mem_singleton.mp hb]; exact hp
  le := LeX.refl _ _
  len := by simp
  sl := fun j x h => by
    rcases j with _ | _ | j
    · cases (Option.some.inj h : _ = x); exact rfl
    · cases (Option.some.inj h : _ = x); exact ⟨p, rfl, rfl⟩
    · have h2 : (os.map fun _ => Sl.un)[j]? = some x := h
      rw [List.getElem?_map] at h2
      cases e : os[j]? with
      | none => rw [e] at h2; cases h2
      | some o => rw [e] at h2; cases h2; trivial
  inj := fun j k q ds es h => by
    rcases j with _ | _ | j
    · cases (Option.some.inj h : Sl.raw _ = Sl.ow ds)
    · cases (Option.some.inj h : Sl.pu = Sl.ow ds)
    · have h2 : (os.map fun _ => Sl.un)[j]? = some (.ow ds) := h
      rw [List.getElem?_map] at h2
      cases e : os[j]? with
      | none => rw [e] at h2; cases h2
      | some o => rw [e] at h2; cases h2
theorem law_one {K : PySem.W.Frag} {N : Nat} {rest : TS} {a : Addr} {ns : List Int} {Ex : XK} {H : Hp} {X : L2.St → Hp → Prop} {Q : VK} (hS : SqL K H a (ns.map V.int))
    (hb : ∀ z : Cz, XS z rest ([.raw (.ref a), .pu] ++ List.replicate N .un) 0 { nx := fun _ _ => False, rt := fun _ d => d = .bl true }) (k : ∀ H', Q (.bl true) H') :
    (tSeq (tAsg (tCall (sp_Lpurse K) [] Ex (tCons (tVar 0) (tCons (tC (V.int 0)) tNil))) (gName 1)) rest) { nx := X, rt := Q } (([some (.ref a), none] : L2.St) ++ List.replicate N none) H := by
  refine ⟨_, rfl, a, ns, 0, rfl, hS, by omega, fun H1 pu s1 hpu0 hpu => ?_⟩
  have R := real_95 (a := a) (os := List.replicate N none) hpu
  rw [List.map_replicate] at R
  refine XS.enter (t := rest) (σ := ((([some (.ref a), none] : L2.St) ++ List.replicate N none).set 1 (some (V.ref pu)))) R ?_ (hb _)
  refine ⟨fun _ _ _ _ _ c => c.elim, fun _ _ _ _ d v H' c _ r => ?_, fun _ _ _ _ _ _ _ c => c.elim, fun _ _ _ _ _ c => c.elim, fun _ _ _ _ _ c => c.elim⟩
  have c : d = .bl true := c
  subst c
  cases r
  exact k H'
def spLaw (K : PySem.W.Frag) : Sp := fun vs H Q _ => ∃ (a : Addr) (ns : List Int), vs = [.ref a] ∧ SqL K H a (ns.map V.int) ∧ ns.length ≤ 63 ∧ ∀ H', Q (.bl true) H'
abbrev s_law : Stmt := top 24
abbrev N_law : List Str := ["_law_script", "_law_purse_here", "_law_place", "_law_number", "_law_word", "_law_some", "_law_told", "_law_other", "_law_row", "_law_k"]
abbrev P_law : List Str := ["_law_script"]
theorem sc_law : FnScope N_law ["_law_script"] (defScope s_law) := ⟨rfl, rfl, rfl, by decide +kernel, rfl, by decide +kernel, by decide +kernel⟩

theorem ok_law (T : Txt K mg c) (PK : PlainOk K c) (ko : KO K c) {f : Addr} {fd : FuncData} (F : L2.Fun K "law" "law" s_law f fd) (h_Lpurse : Cal P w K mg base 2 "_law_purse" (sp_Lpurse K) []) (h_Ldraw : Cal P w K mg base 2 "_law_draw" (spP W_Ldraw) []) (h_Lsorts : Cal P w K mg base 1 "_law_sorts" (spD (W_sorts c)) []) (h_Lkinds : Cal P w K mg base 1 "_law_kinds" (spD (W_kinds c)) []) (h_Lrow_right : Cal P w K mg base 2 "_law_row_right" (spD (W_row c)) [])
    (i_NoPoly : MkCal P w K mg base 1 "NoPoly" c.NoPoly "at" .non) (i_NoMove : MkCal P w K mg base 1 "NoMove" c.NoMove "move" .non) (i_NoName : MkCal P w K mg base 1 "NoName" c.NoName "name" (.str "")) (i_Twice : MkCal P w K mg base 1 "Twice" c.Twice "name" (.str "")) : FnOk P w K mg base CX0 3 f fd ["_law_script"] (spLaw K) := by
  refine F.ok sc_law (fun vs H Q E h => ?_) (fun cdv A outer s H vs Q E hr h => ?_)
  · obtain ⟨a, ns, rfl, _⟩ := h
    rfl
  · obtain ⟨a, ns, rfl, hS, _, k⟩ := h
    refine ⟨_, (pss_cons (ps_set (i := 1) sc_law.nd rfl (by first | exact Or.inl rfl | exact Or.inr rfl) (pe_c h_Lpurse hr (by decide) rfl (pa_cons (pv 0) (pa_cons pe_int pa_nil))))
      (pss_cons (ps_set (i := 2) sc_law.nd rfl (by first | exact Or.inl rfl | exact Or.inr rfl) (pe_c h_Ldraw hr (by decide) rfl (pa_cons (pv 1) (pa_cons pe_int pa_nil))))
      (pss_cons (ps_set (i := 3) sc_law.nd rfl (by first | exact Or.inl rfl | exact Or.inr rfl) (pe_op op_sub (pe_c h_Ldraw hr (by decide) rfl (pa_cons (pv 1) (pa_cons pe_int pa_nil))) pe_int))
      (pss_cons (ps_set (i := 4) sc_law.nd rfl (by first | exact Or.inl rfl | exact Or.inr rfl) (pe_slice sl_str pe_str (po_some (pe_c h_Ldraw hr (by decide) rfl (pa_cons (pv 1) (pa_cons pe_int pa_nil)))) po_none))
      (pss_cons (ps_set (i := 5) sc_law.nd rfl (by first | exact Or.inl rfl | exact Or.inr rfl) (pe_lst (pa_cons (pe_mk0E i_NoPoly hr (by decide) rfl) (pa_cons (pe_mk0E i_NoMove hr (by decide) rfl) (pa_cons (pe_mkP PySem.F.excBase_ValueError PK.x_NoHouse T.g_NoHouse PK.k_NoHouse rfl) (pa_cons (pe_mkP PySem.F.excBase_ValueError PK.x_NoLetter T.g_NoLetter PK.k_NoLetter rfl) (pa_cons (pe_mkP PySem.F.excBase_ValueError PK.x_NoCount T.g_NoCount PK.k_NoCount rfl) (pa_cons (pe_mkP PySem.F.excBase_ValueError PK.x_NoWord T.g_NoWord PK.k_NoWord rfl) (pa_cons (pe_mkP PySem.F.excBase_ValueError PK.x_Full T.g_Full PK.k_Full rfl) (pa_cons (pe_mkP PySem.F.excBase_ValueError PK.x_NoDeed T.g_NoDeed PK.k_NoDeed rfl) (pa_cons (pe_mkP PySem.F.excBase_ValueError PK.x_NoText T.g_NoText PK.k_NoText rfl) (pa_cons (pe_mkP PySem.F.excBase_ValueError PK.x_NoLine T.g_NoLine PK.k_NoLine rfl) pa_nil))))))))))))
      (pss_cons (ps_set (i := 5) sc_law.nd rfl (by first | exact Or.inl rfl | exact Or.inr rfl) (pe_op op_cat (pv 5) (pe_lst (pa_cons (pe_mkP PySem.F.excBase_ZeroDivisionError PK.x_NoOver T.g_NoOver PK.k_NoOver rfl) (pa_cons (pe_mk0E i_NoName hr (by decide) rfl) (pa_cons (pe_mk0E i_Twice hr (by decide) rfl) (pa_cons (pe_mkP PySem.F.excBase_ValueError PK.x_NoNumber T.g_NoNumber PK.k_NoNumber rfl) pa_nil)))))))
      (pss_cons (ps_if (PW.pt (pw_or (pt_not (pt_val (pe_c h_Lrow_right hr (by decide) rfl (pa_cons (pv 5) pa_nil)))) (pw_or1 (pt_cmpR (op_neD hr.units) (pe_lst (pa_cons (pe_kf (pe_ix ix_list (pv 5) pe_int (fun _ _ => rfl)) rfl) (pa_cons (pe_kf (pe_ix ix_list (pv 5) pe_int (fun _ _ => rfl)) rfl) (pa_cons (pe_kf (pe_ix ix_list (pv 5) pe_int (fun _ _ => rfl)) rfl) (pa_cons (pe_kf (pe_ix ix_list (pv 5) pe_int (fun _ _ => rfl)) rfl) pa_nil))))) (pe_lst (pa_cons pe_non (pa_cons pe_non (pa_cons pe_str (pa_cons pe_str pa_nil))))) (nomark _))))) (pss_one (ps_ret pe_bl)) pss_nil)
      (pss_cons (ps_set (i := 6) sc_law.nd rfl (by first | exact Or.inl rfl | exact Or.inr rfl) (pe_op op_cat (pe_op op_cat (pe_op op_cat (pe_lst (pa_cons (pe_mk1E i_NoPoly hr (by decide) rfl (pa_cons (pv 2) pa_nil)) (pa_cons (pe_mk1E i_NoMove hr (by decide) rfl (pa_cons (pv 3) pa_nil)) pa_nil))) (pe_slice sl_list (pv 5) (po_some pe_int) (po_some pe_int))) (pe_lst (pa_cons (pe_mk1E i_NoName hr (by decide) rfl (pa_cons (pv 4) pa_nil)) (pa_cons (pe_mk1E i_Twice hr (by decide) rfl (pa_cons (pv 4) pa_nil)) pa_nil)))) (pe_slice sl_list (pv 5) (po_some pe_int) po_none)))
      (pss_cons (ps_set (i := 7) sc_law.nd rfl (by first | exact Or.inl rfl | exact Or.inr rfl) (pe_op op_cat (pe_op op_cat (pe_op op_cat (pe_lst (pa_cons (pe_mkKE i_NoPoly hr (by decide) rfl (pk_cons (pv 2) pk_nil)) (pa_cons (pe_mkKE i_NoMove hr (by decide) rfl (pk_cons (pv 3) pk_nil)) pa_nil))) (pe_slice sl_list (pv 5) (po_some pe_int) (po_some pe_int))) (pe_lst (pa_cons (pe_mkKE i_NoName hr (by decide) rfl (pk_cons (pv 4) pk_nil)) (pa_cons (pe_mkKE i_Twice hr (by decide) rfl (pk_cons (pv 4) pk_nil)) pa_nil)))) (pe_slice sl_list (pv 5) (po_some pe_int) po_none)))
      (pss_cons (ps_for PassesOwn.never rfl (pi_list (pe_lst (pa_cons (pv 6) (pa_cons (pv 7) pa_nil)))) (pg_name (i := 8) sc_law.nd rfl (by first | exact Or.inl rfl | exact Or.inr rfl)) (pss_cons (ps_if (PW.pt (pw_or (pt_not (pt_val (pe_c h_Lrow_right hr (by decide) rfl (pa_cons (pv 8) pa_nil)))) (pw_or1 (pt_cmpR (op_neD hr.units) (pe_lst (pa_cons (pe_kf (pe_ix ix_list (pv 8) pe_int (fun _ _ => rfl)) rfl) (pa_cons (pe_kf (pe_ix ix_list (pv 8) pe_int (fun _ _ => rfl)) rfl) pa_nil))) (pe_lst (pa_cons (pv 2) (pa_cons (pv 3) pa_nil))) (nomark _))))) (pss_one (ps_ret pe_bl)) pss_nil)
      (pss_one (ps_if (pt_cmpR (op_neD hr.units) (pe_lst (pa_cons (pe_kf (pe_ix ix_list (pv 8) pe_int (fun _ _ => rfl)) rfl) (pa_cons (pe_kf (pe_ix ix_list (pv 8) pe_int (fun _ _ => rfl)) rfl) pa_nil))) (pe_lst (pa_cons (pv 4) (pa_cons (pv 4) pa_nil))) (nomark _)) (pss_one (ps_ret pe_bl)) pss_nil))))
      (pss_cons (ps_if (PW.pt (pw_or (pt_cmpR op_notN (pe_kf (pe_ix ix_list (pv 5) pe_int (fun _ _ => rfl)) rfl) pe_non (nomark _)) (pw_or (pt_cmpR op_ne (pe_kf (pe_ix ix_list (pv 5) pe_int (fun _ _ => rfl)) rfl) pe_str (nomark _)) (pw_or1 (pt_cmpR (op_neD hr.units) (pe_c h_Lsorts hr (by decide) rfl (pa_cons (pe_mkP PySem.F.excBase_ValueError PK.x_RootError T.g_RootError PK.k_RootError rfl) pa_nil)) (pe_lc (own := [("_law_k", 9)]) (g := gName 9) (by rfl) sc_law.nd (pi_range1 rfl T.z_range (pa_cons pe_int pa_nil)) (blkOk_by (own := [("_law_k", 9)]) (N := N_law) (sc := defScope s_law) (by decide +kernel)) (fun _ _ _ _ _ => (pg_name (i := 9) sc_law.nd rfl (by first | exact Or.inl rfl | exact Or.inr rfl))) (fun _ _ _ _ _ => pts_nil) (fun _ _ _ _ _ => pe_bl)) (nomark _)))))) (pss_one (ps_ret pe_bl)) pss_nil)
      (pss_one (ps_ret (pe_cmpR (op_eqD hr.units) (pe_c h_Lkinds hr (by decide) rfl (pa_cons (pe_mkP PySem.F.excBase_ValueError PK.x_RootError T.g_RootError PK.k_RootError rfl) pa_nil)) (pe_lst (pa_cons pe_bl (pa_cons pe_bl (pa_cons pe_bl (pa_cons pe_bl pa_nil))))) (nomark _))))))))))))))), ?_⟩
    refine law_one (N := 8) hS (fun z => ?_) k
    show XS z _ [.raw (.ref a), .pu, .un, .un, .un, .un, .un, .un, .un, .un] _ _
    (repeat' (first | (guard_target =~ XS _ _ _ _ _; first | exact XS.next | refine XS.next ?_ | refine XS.seq ?_ | refine XS.set ?_ | refine XS.ret ?_ | refine XS.ite ?_ | refine XS.drop ?_ | refine XS.asg ?_ | refine XS.par3 ?_ | refine XS.par ?_ | refine XS.retN ?_ | refine XS.next ?_) | (guard_target =~ XE _ _ _ _ _; first | refine XE.var rfl ?_ | refine XE.int ?_ | refine XE.bl ?_ | refine XE.str ?_ | refine XE.non ?_ | refine XE.ixO rfl ?_ | refine XE.lenO rfl ?_ | refine XE.op dr_I0 ?_ | refine XE.op dr_I ?_ | refine XE.op dr_ixL ?_ | refine XE.op dr_ixT ?_ | refine XE.op dr_eq ?_ | refine XE.op dr_ne ?_ | refine XE.op dr_eqD ?_ | refine XE.op dr_neD ?_ | refine XE.op dr_isN ?_ | refine XE.op dr_notN ?_ | refine XE.op dr_eqO ?_ | refine XE.op dr_neO ?_ | refine XE.unI ?_ | refine XE.tup ?_ | refine XE.ofN (XN.lst ?_) | refine XE.ofN (XN.op dn_cat ?_) | refine XE.ofN (XN.op dn_rep ?_) | refine XE.ofN (XN.sl ?_) | refine XE.ofN (XN.cb dn_listOf ?_) | refine XE.cb db_abs ?_ | refine XE.cb db_max2 ?_ | refine XE.len1 ?_ | refine XE.cb db_lenO ?_ | refine XE.cb db_int1 ?_ | refine XE.call ?_ | refine XE.callX0 ?_ | refine XE.callP rfl ?_ | refine XE.andV ?_ | refine XE.orV ?_ | refine XE.notV ?_ | refine XE.ifE ?_ | refine XE.make ?_ | refine XE.isC ?_ | refine XE.isTy ?_ | refine XE.fld hH.cls hH.poly ?_ | refine XE.fld hH.cls hH.rows ?_ | refine XE.fld hH.cls hH.ways ?_ | refine XE.fld hN.cls hN.home ?_ | refine XE.fld hN.cls hN.parts ?_ | refine XE.km rfl ?_ | refine XE.kmX0 rfl ?_ | refine XE.kc rfl ?_ | refine XE.kcX0 rfl ?_) | (guard_target =~ XN _ _ _ _ _; first | refine XN.lst ?_ | refine XN.op dn_cat ?_ | refine XN.op dn_rep ?_ | refine XN.sl ?_ | refine XN.cb dn_listOf ?_) | (guard_target =~ XA _ _ _ _ _; first | refine XA.nil ?_ | refine XA.cons ?_) | (guard_target =~ XT _ _ _ _ _; first | refine XT.test ?_ | refine XT.b ?_ | refine XT.not ?_ | refine XT.and ?_ | refine XT.or ?_ | refine XT.yes ?_) | (guard_target =~ XO _ _ _ _ _; first | refine XO.no ?_ | refine XO.yes ?_) | (guard_target =~ XGs _ _ _ _ _ _; first | refine XGs.cons ?_ | refine XGs.nil ?_) | (guard_target =~ XG _ _ _ _ _ _; first | refine XG.name rfl ?_ | refine XG.tupG rfl ?_ | refine XG.unlG rfl ?_) | refine go_len1 rfl ?_ | refine go_fld rfl ?_ | refine go_ins rfl rfl ?_ | refine go_kc rfl rfl ?_ | refine go_isC ?_ | refine go_isTy rfl (by first | exact kb_int_int | exact kb_int_bool | exact kb_bool_int | exact kb_bool_bool | exact kb_str_str | exact kb_list_list | exact kb_tuple_tuple | exact kb_tuple_list | exact kb_list_tuple | exact kb_NoneType_list | exact kb_NoneType_int | exact kb_str_int | exact kb_int_list | exact kb_int_tuple | exact kb_NoneType_tuple | exact kb_list_int | exact kb_tuple_int | exact kb_str_bool) ?_ | refine go_non ?_ | refine go_I0 ?_ | refine go_I ?_ ?_ | refine go_ix rfl ?_ | refine go_ixT rfl ?_ | refine go_eq rfl rfl rfl ?_ | refine go_ne rfl rfl rfl ?_ | refine go_len rfl ?_ | refine go_cat ?_ ?_ | refine go_rep ?_ ?_ ?_ ?_ | refine go_un ?_ | refine go_int ?_ | refine go_lst ?_ | refine go_tup ?_ | refine go_str ?_ | refine go_bl ?_ | refine go_ixO rfl ?_ | refine go_put rfl ?_ | refine go_ext ?_ ?_ | refine go_app ?_ ?_ | refine go_rg1 ?_ ?_ | refine go_rg2 ?_ ?_ | refine go_rg3 ?_ ?_ | refine go_enum ?_ | refine go_zipS ?_ ?_ | refine go_zip ?_))
    refine ⟨5, rfl, by decide, by decide, by decide, fun pl pl0 pl1 => ?_⟩
    (repeat' (first | (guard_target =~ XS _ _ _ _ _; first | exact XS.next | refine XS.next ?_ | refine XS.seq ?_ | refine XS.set ?_ | refine XS.ret ?_ | refine XS.ite ?_ | refine XS.drop ?_ | refine XS.asg ?_ | refine XS.par3 ?_ | refine XS.par ?_ | refine XS.retN ?_ | refine XS.next ?_) | (guard_target =~ XE _ _ _ _ _; first | refine XE.var rfl ?_ | refine XE.int ?_ | refine XE.bl ?_ | refine XE.str ?_ | refine XE.non ?_ | refine XE.ixO rfl ?_ | refine XE.lenO rfl ?_ | refine XE.op dr_I0 ?_ | refine XE.op dr_I ?_ | refine XE.op dr_ixL ?_ | refine XE.op dr_ixT ?_ | refine XE.op dr_eq ?_ | refine XE.op dr_ne ?_ | refine XE.op dr_eqD ?_ | refine XE.op dr_neD ?_ | refine XE.op dr_isN ?_ | refine XE.op dr_notN ?_ | refine XE.op dr_eqO ?_ | refine XE.op dr_neO ?_ | refine XE.unI ?_ | refine XE.tup ?_ | refine XE.ofN (XN.lst ?_) | refine XE.ofN (XN.op dn_cat ?_) | refine XE.ofN (XN.op dn_rep ?_) | refine XE.ofN (XN.sl ?_) | refine XE.ofN (XN.cb dn_listOf ?_) | refine XE.cb db_abs ?_ | refine XE.cb db_max2 ?_ | refine XE.len1 ?_ | refine XE.cb db_lenO ?_ | refine XE.cb db_int1 ?_ | refine XE.call ?_ | refine XE.callX0 ?_ | refine XE.callP rfl ?_ | refine XE.andV ?_ | refine XE.orV ?_ | refine XE.notV ?_ | refine XE.ifE ?_ | refine XE.make ?_ | refine XE.isC ?_ | refine XE.isTy ?_ | refine XE.fld hH.cls hH.poly ?_ | refine XE.fld hH.cls hH.rows ?_ | refine XE.fld hH.cls hH.ways ?_ | refine XE.fld hN.cls hN.home ?_ | refine XE.fld hN.cls hN.parts ?_ | refine XE.km rfl ?_ | refine XE.kmX0 rfl ?_ | refine XE.kc rfl ?_ | refine XE.kcX0 rfl ?_) | (guard_target =~ XN _ _ _ _ _; first | refine XN.lst ?_ | refine XN.op dn_cat ?_ | refine XN.op dn_rep ?_ | refine XN.sl ?_ | refine XN.cb dn_listOf ?_) | (guard_target =~ XA _ _ _ _ _; first | refine XA.nil ?_ | refine XA.cons ?_) | (guard_target =~ XT _ _ _ _ _; first | refine XT.test ?_ | refine XT.b ?_ | refine XT.not ?_ | refine XT.and ?_ | refine XT.or ?_ | refine XT.yes ?_) | (guard_target =~ XO _ _ _ _ _; first | refine XO.no ?_ | refine XO.yes ?_) | (guard_target =~ XGs _ _ _ _ _ _; first | refine XGs.cons ?_ | refine XGs.nil ?_) | (guard_target =~ XG _ _ _ _ _ _; first | refine XG.name rfl ?_ | refine XG.tupG rfl ?_ | refine XG.unlG rfl ?_) | refine go_len1 rfl ?_ | refine go_fld rfl ?_ | refine go_ins rfl rfl ?_ | refine go_kc rfl rfl ?_ | refine go_isC ?_ | refine go_isTy rfl (by first | exact kb_int_int | exact kb_int_bool | exact kb_bool_int | exact kb_bool_bool | exact kb_str_str | exact kb_list_list | exact kb_tuple_tuple | exact kb_tuple_list | exact kb_list_tuple | exact kb_NoneType_list | exact kb_NoneType_int | exact kb_str_int | exact kb_int_list | exact kb_int_tuple | exact kb_NoneType_tuple | exact kb_list_int | exact kb_tuple_int | exact kb_str_bool) ?_ | refine go_non ?_ | refine go_I0 ?_ | refine go_I ?_ ?_ | refine go_ix rfl ?_ | refine go_ixT rfl ?_ | refine go_eq rfl rfl rfl ?_ | refine go_ne rfl rfl rfl ?_ | refine go_len rfl ?_ | refine go_cat ?_ ?_ | refine go_rep ?_ ?_ ?_ ?_ | refine go_un ?_ | refine go_int ?_ | refine go_lst ?_ | refine go_tup ?_ | refine go_str ?_ | refine go_bl ?_ | refine go_ixO rfl ?_ | refine go_put rfl ?_ | refine go_ext ?_ ?_ | refine go_app ?_ ?_ | refine go_rg1 ?_ ?_ | refine go_rg2 ?_ ?_ | refine go_rg3 ?_ ?_ | refine go_enum ?_ | refine go_zipS ?_ ?_ | refine go_zip ?_))
    refine ⟨99, rfl, by decide, by decide, by decide, fun nu nu0 nu1 => ?_⟩
    (repeat' (first | (guard_target =~ XS _ _ _ _ _; first | exact XS.next | refine XS.next ?_ | refine XS.seq ?_ | refine XS.set ?_ | refine XS.ret ?_ | refine XS.ite ?_ | refine XS.drop ?_ | refine XS.asg ?_ | refine XS.par3 ?_ | refine XS.par ?_ | refine XS.retN ?_ | refine XS.next ?_) | (guard_target =~ XE _ _ _ _ _; first | refine XE.var rfl ?_ | refine XE.int ?_ | refine XE.bl ?_ | refine XE.str ?_ | refine XE.non ?_ | refine XE.ixO rfl ?_ | refine XE.lenO rfl ?_ | refine XE.op dr_I0 ?_ | refine XE.op dr_I ?_ | refine XE.op dr_ixL ?_ | refine XE.op dr_ixT ?_ | refine XE.op dr_eq ?_ | refine XE.op dr_ne ?_ | refine XE.op dr_eqD ?_ | refine XE.op dr_neD ?_ | refine XE.op dr_isN ?_ | refine XE.op dr_notN ?_ | refine XE.op dr_eqO ?_ | refine XE.op dr_neO ?_ | refine XE.unI ?_ | refine XE.tup ?_ | refine XE.ofN (XN.lst ?_) | refine XE.ofN (XN.op dn_cat ?_) | refine XE.ofN (XN.op dn_rep ?_) | refine XE.ofN (XN.sl ?_) | refine XE.ofN (XN.cb dn_listOf ?_) | refine XE.cb db_abs ?_ | refine XE.cb db_max2 ?_ | refine XE.len1 ?_ | refine XE.cb db_lenO ?_ | refine XE.cb db_int1 ?_ | refine XE.call ?_ | refine XE.callX0 ?_ | refine XE.callP rfl ?_ | refine XE.andV ?_ | refine XE.orV ?_ | refine XE.notV ?_ | refine XE.ifE ?_ | refine XE.make ?_ | refine XE.isC ?_ | refine XE.isTy ?_ | refine XE.fld hH.cls hH.poly ?_ | refine XE.fld hH.cls hH.rows ?_ | refine XE.fld hH.cls hH.ways ?_ | refine XE.fld hN.cls hN.home ?_ | refine XE.fld hN.cls hN.parts ?_ | refine XE.km rfl ?_ | refine XE.kmX0 rfl ?_ | refine XE.kc rfl ?_ | refine XE.kcX0 rfl ?_) | (guard_target =~ XN _ _ _ _ _; first | refine XN.lst ?_ | refine XN.op dn_cat ?_ | refine XN.op dn_rep ?_ | refine XN.sl ?_ | refine XN.cb dn_listOf ?_) | (guard_target =~ XA _ _ _ _ _; first | refine XA.nil ?_ | refine XA.cons ?_) | (guard_target =~ XT _ _ _ _ _; first | refine XT.test ?_ | refine XT.b ?_ | refine XT.not ?_ | refine XT.and ?_ | refine XT.or ?_ | refine XT.yes ?_) | (guard_target =~ XO _ _ _ _ _; first | refine XO.no ?_ | refine XO.yes ?_) | (guard_target =~ XGs _ _ _ _ _ _; first | refine XGs.cons ?_ | refine XGs.nil ?_) | (guard_target =~ XG _ _ _ _ _ _; first | refine XG.name rfl ?_ | refine XG.tupG rfl ?_ | refine XG.unlG rfl ?_) | refine go_len1 rfl ?_ | refine go_fld rfl ?_ | refine go_ins rfl rfl ?_ | refine go_kc rfl rfl ?_ | refine go_isC ?_ | refine go_isTy rfl (by first | exact kb_int_int | exact kb_int_bool | exact kb_bool_int | exact kb_bool_bool | exact kb_str_str | exact kb_list_list | exact kb_tuple_tuple | exact kb_tuple_list | exact kb_list_tuple | exact kb_NoneType_list | exact kb_NoneType_int | exact kb_str_int | exact kb_int_list | exact kb_int_tuple | exact kb_NoneType_tuple | exact kb_list_int | exact kb_tuple_int | exact kb_str_bool) ?_ | refine go_non ?_ | refine go_I0 ?_ | refine go_I ?_ ?_ | refine go_ix rfl ?_ | refine go_ixT rfl ?_ | refine go_eq rfl rfl rfl ?_ | refine go_ne rfl rfl rfl ?_ | refine go_len rfl ?_ | refine go_cat ?_ ?_ | refine go_rep ?_ ?_ ?_ ?_ | refine go_un ?_ | refine go_int ?_ | refine go_lst ?_ | refine go_tup ?_ | refine go_str ?_ | refine go_bl ?_ | refine go_ixO rfl ?_ | refine go_put rfl ?_ | refine go_ext ?_ ?_ | refine go_app ?_ ?_ | refine go_rg1 ?_ ?_ | refine go_rg2 ?_ ?_ | refine go_rg3 ?_ ?_ | refine go_enum ?_ | refine go_zipS ?_ ?_ | refine go_zip ?_))
    refine XE.slS (XE.str ?_)
    (repeat' (first | (guard_target =~ XS _ _ _ _ _; first | exact XS.next | refine XS.next ?_ | refine XS.seq ?_ | refine XS.set ?_ | refine XS.ret ?_ | refine XS.ite ?_ | refine XS.drop ?_ | refine XS.asg ?_ | refine XS.par3 ?_ | refine XS.par ?_ | refine XS.retN ?_ | refine XS.next ?_) | (guard_target =~ XE _ _ _ _ _; first | refine XE.var rfl ?_ | refine XE.int ?_ | refine XE.bl ?_ | refine XE.str ?_ | refine XE.non ?_ | refine XE.ixO rfl ?_ | refine XE.lenO rfl ?_ | refine XE.op dr_I0 ?_ | refine XE.op dr_I ?_ | refine XE.op dr_ixL ?_ | refine XE.op dr_ixT ?_ | refine XE.op dr_eq ?_ | refine XE.op dr_ne ?_ | refine XE.op dr_eqD ?_ | refine XE.op dr_neD ?_ | refine XE.op dr_isN ?_ | refine XE.op dr_notN ?_ | refine XE.op dr_eqO ?_ | refine XE.op dr_neO ?_ | refine XE.unI ?_ | refine XE.tup ?_ | refine XE.ofN (XN.lst ?_) | refine XE.ofN (XN.op dn_cat ?_) | refine XE.ofN (XN.op dn_rep ?_) | refine XE.ofN (XN.sl ?_) | refine XE.ofN (XN.cb dn_listOf ?_) | refine XE.cb db_abs ?_ | refine XE.cb db_max2 ?_ | refine XE.len1 ?_ | refine XE.cb db_lenO ?_ | refine XE.cb db_int1 ?_ | refine XE.call ?_ | refine XE.callX0 ?_ | refine XE.callP rfl ?_ | refine XE.andV ?_ | refine XE.orV ?_ | refine XE.notV ?_ | refine XE.ifE ?_ | refine XE.make ?_ | refine XE.isC ?_ | refine XE.isTy ?_ | refine XE.fld hH.cls hH.poly ?_ | refine XE.fld hH.cls hH.rows ?_ | refine XE.fld hH.cls hH.ways ?_ | refine XE.fld hN.cls hN.home ?_ | refine XE.fld hN.cls hN.parts ?_ | refine XE.km rfl ?_ | refine XE.kmX0 rfl ?_ | refine XE.kc rfl ?_ | refine XE.kcX0 rfl ?_) | (guard_target =~ XN _ _ _ _ _; first | refine XN.lst ?_ | refine XN.op dn_cat ?_ | refine XN.op dn_rep ?_ | refine XN.sl ?_ | refine XN.cb dn_listOf ?_) | (guard_target =~ XA _ _ _ _ _; first | refine XA.nil ?_ | refine XA.cons ?_) | (guard_target =~ XT _ _ _ _ _; first | refine XT.test ?_ | refine XT.b ?_ | refine XT.not ?_ | refine XT.and ?_ | refine XT.or ?_ | refine XT.yes ?_) | (guard_target =~ XO _ _ _ _ _; first | refine XO.no ?_ | refine XO.yes ?_) | (guard_target =~ XGs _ _ _ _ _ _; first | refine XGs.cons ?_ | refine XGs.nil ?_) | (guard_target =~ XG _ _ _ _ _ _; first | refine XG.name rfl ?_ | refine XG.tupG rfl ?_ | refine XG.unlG rfl ?_) | refine go_len1 rfl ?_ | refine go_fld rfl ?_ | refine go_ins rfl rfl ?_ | refine go_kc rfl rfl ?_ | refine go_isC ?_ | refine go_isTy rfl (by first | exact kb_int_int | exact kb_int_bool | exact kb_bool_int | exact kb_bool_bool | exact kb_str_str | exact kb_list_list | exact kb_tuple_tuple | exact kb_tuple_list | exact kb_list_tuple | exact kb_NoneType_list | exact kb_NoneType_int | exact kb_str_int | exact kb_int_list | exact kb_int_tuple | exact kb_NoneType_tuple | exact kb_list_int | exact kb_tuple_int | exact kb_str_bool) ?_ | refine go_non ?_ | refine go_I0 ?_ | refine go_I ?_ ?_ | refine go_ix rfl ?_ | refine go_ixT rfl ?_ | refine go_eq rfl rfl rfl ?_ | refine go_ne rfl rfl rfl ?_ | refine go_len rfl ?_ | refine go_cat ?_ ?_ | refine go_rep ?_ ?_ ?_ ?_ | refine go_un ?_ | refine go_int ?_ | refine go_lst ?_ | refine go_tup ?_ | refine go_str ?_ | refine go_bl ?_ | refine go_ixO rfl ?_ | refine go_put rfl ?_ | refine go_ext ?_ ?_ | refine go_app ?_ ?_ | refine go_rg1 ?_ ?_ | refine go_rg2 ?_ ?_ | refine go_rg3 ?_ ?_ | refine go_enum ?_ | refine go_zipS ?_ ?_ | refine go_zip ?_))
    refine ⟨6, rfl, by decide, by decide, by decide, fun wd wd0 wd1 => ?_⟩
    (repeat' (first | (guard_target =~ XS _ _ _ _ _; first | exact XS.next | refine XS.next ?_ | refine XS.seq ?_ | refine XS.set ?_ | refine XS.ret ?_ | refine XS.ite ?_ | refine XS.drop ?_ | refine XS.asg ?_ | refine XS.par3 ?_ | refine XS.par ?_ | refine XS.retN ?_ | refine XS.next ?_) | (guard_target =~ XE _ _ _ _ _; first | refine XE.var rfl ?_ | refine XE.int ?_ | refine XE.bl ?_ | refine XE.str ?_ | refine XE.non ?_ | refine XE.ixO rfl ?_ | refine XE.lenO rfl ?_ | refine XE.op dr_I0 ?_ | refine XE.op dr_I ?_ | refine XE.op dr_ixL ?_ | refine XE.op dr_ixT ?_ | refine XE.op dr_eq ?_ | refine XE.op dr_ne ?_ | refine XE.op dr_eqD ?_ | refine XE.op dr_neD ?_ | refine XE.op dr_isN ?_ | refine XE.op dr_notN ?_ | refine XE.op dr_eqO ?_ | refine XE.op dr_neO ?_ | refine XE.unI ?_ | refine XE.tup ?_ | refine XE.ofN (XN.lst ?_) | refine XE.ofN (XN.op dn_cat ?_) | refine XE.ofN (XN.op dn_rep ?_) | refine XE.ofN (XN.sl ?_) | refine XE.ofN (XN.cb dn_listOf ?_) | refine XE.cb db_abs ?_ | refine XE.cb db_max2 ?_ | refine XE.len1 ?_ | refine XE.cb db_lenO ?_ | refine XE.cb db_int1 ?_ | refine XE.call ?_ | refine XE.callX0 ?_ | refine XE.callP rfl ?_ | refine XE.andV ?_ | refine XE.orV ?_ | refine XE.notV ?_ | refine XE.ifE ?_ | refine XE.make ?_ | refine XE.isC ?_ | refine XE.isTy ?_ | refine XE.fld hH.cls hH.poly ?_ | refine XE.fld hH.cls hH.rows ?_ | refine XE.fld hH.cls hH.ways ?_ | refine XE.fld hN.cls hN.home ?_ | refine XE.fld hN.cls hN.parts ?_ | refine XE.km rfl ?_ | refine XE.kmX0 rfl ?_ | refine XE.kc rfl ?_ | refine XE.kcX0 rfl ?_) | (guard_target =~ XN _ _ _ _ _; first | refine XN.lst ?_ | refine XN.op dn_cat ?_ | refine XN.op dn_rep ?_ | refine XN.sl ?_ | refine XN.cb dn_listOf ?_) | (guard_target =~ XA _ _ _ _ _; first | refine XA.nil ?_ | refine XA.cons ?_) | (guard_target =~ XT _ _ _ _ _; first | refine XT.test ?_ | refine XT.b ?_ | refine XT.not ?_ | refine XT.and ?_ | refine XT.or ?_ | refine XT.yes ?_) | (guard_target =~ XO _ _ _ _ _; first | refine XO.no ?_ | refine XO.yes ?_) | (guard_target =~ XGs _ _ _ _ _ _; first | refine XGs.cons ?_ | refine XGs.nil ?_) | (guard_target =~ XG _ _ _ _ _ _; first | refine XG.name rfl ?_ | refine XG.tupG rfl ?_ | refine XG.unlG rfl ?_) | refine go_len1 rfl ?_ | refine go_fld rfl ?_ | refine go_ins rfl rfl ?_ | refine go_kc rfl rfl ?_ | refine go_isC ?_ | refine go_isTy rfl (by first | exact kb_int_int | exact kb_int_bool | exact kb_bool_int | exact kb_bool_bool | exact kb_str_str | exact kb_list_list | exact kb_tuple_tuple | exact kb_tuple_list | exact kb_list_tuple | exact kb_NoneType_list | exact kb_NoneType_int | exact kb_str_int | exact kb_int_list | exact kb_int_tuple | exact kb_NoneType_tuple | exact kb_list_int | exact kb_tuple_int | exact kb_str_bool) ?_ | refine go_non ?_ | refine go_I0 ?_ | refine go_I ?_ ?_ | refine go_ix rfl ?_ | refine go_ixT rfl ?_ | refine go_eq rfl rfl rfl ?_ | refine go_ne rfl rfl rfl ?_ | refine go_len rfl ?_ | refine go_cat ?_ ?_ | refine go_rep ?_ ?_ ?_ ?_ | refine go_un ?_ | refine go_int ?_ | refine go_lst ?_ | refine go_tup ?_ | refine go_str ?_ | refine go_bl ?_ | refine go_ixO rfl ?_ | refine go_put rfl ?_ | refine go_ext ?_ ?_ | refine go_app ?_ ?_ | refine go_rg1 ?_ ?_ | refine go_rg2 ?_ ?_ | refine go_rg3 ?_ ?_ | refine go_enum ?_ | refine go_zipS ?_ ?_ | refine go_zip ?_))
    refine ⟨Nat.le_of_ble_eq_true rfl, ?_⟩
    obtain ⟨wo, ewo, hwo⟩ : ∃ wo, cutS (Str.ofString "abcxyz") (some wd) none = wo ∧ PyData.strOk wo = true := by
      have : wd = 0 ∨ wd = 1 ∨ wd = 2 ∨ wd = 3 ∨ wd = 4 ∨ wd = 5 := by omega
      rcases this with rfl | rfl | rfl | rfl | rfl | rfl <;> exact ⟨_, rfl, by decide +kernel⟩
    rw [ewo]
    (repeat' (first | (guard_target =~ XS _ _ _ _ _; first | exact XS.next | refine XS.next ?_ | refine XS.seq ?_ | refine XS.set ?_ | refine XS.ret ?_ | refine XS.ite ?_ | refine XS.drop ?_ | refine XS.asg ?_ | refine XS.par3 ?_ | refine XS.par ?_ | refine XS.retN ?_ | refine XS.next ?_) | (guard_target =~ XE _ _ _ _ _; first | refine XE.var rfl ?_ | refine XE.int ?_ | refine XE.bl ?_ | refine XE.str ?_ | refine XE.non ?_ | refine XE.ixO rfl ?_ | refine XE.lenO rfl ?_ | refine XE.op dr_I0 ?_ | refine XE.op dr_I ?_ | refine XE.op dr_ixL ?_ | refine XE.op dr_ixT ?_ | refine XE.op dr_eq ?_ | refine XE.op dr_ne ?_ | refine XE.op dr_eqD ?_ | refine XE.op dr_neD ?_ | refine XE.op dr_isN ?_ | refine XE.op dr_notN ?_ | refine XE.op dr_eqO ?_ | refine XE.op dr_neO ?_ | refine XE.unI ?_ | refine XE.tup ?_ | refine XE.ofN (XN.lst ?_) | refine XE.ofN (XN.op dn_cat ?_) | refine XE.ofN (XN.op dn_rep ?_) | refine XE.ofN (XN.sl ?_) | refine XE.ofN (XN.cb dn_listOf ?_) | refine XE.cb db_abs ?_ | refine XE.cb db_max2 ?_ | refine XE.len1 ?_ | refine XE.cb db_lenO ?_ | refine XE.cb db_int1 ?_ | refine XE.call ?_ | refine XE.callX0 ?_ | refine XE.callP rfl ?_ | refine XE.andV ?_ | refine XE.orV ?_ | refine XE.notV ?_ | refine XE.ifE ?_ | refine XE.make ?_ | refine XE.isC ?_ | refine XE.isTy ?_ | refine XE.fld hH.cls hH.poly ?_ | refine XE.fld hH.cls hH.rows ?_ | refine XE.fld hH.cls hH.ways ?_ | refine XE.fld hN.cls hN.home ?_ | refine XE.fld hN.cls hN.parts ?_ | refine XE.km rfl ?_ | refine XE.kmX0 rfl ?_ | refine XE.kc rfl ?_ | refine XE.kcX0 rfl ?_) | (guard_target =~ XN _ _ _ _ _; first | refine XN.lst ?_ | refine XN.op dn_cat ?_ | refine XN.op dn_rep ?_ | refine XN.sl ?_ | refine XN.cb dn_listOf ?_) | (guard_target =~ XA _ _ _ _ _; first | refine XA.nil ?_ | refine XA.cons ?_) | (guard_target =~ XT _ _ _ _ _; first | refine XT.test ?_ | refine XT.b ?_ | refine XT.not ?_ | refine XT.and ?_ | refine XT.or ?_ | refine XT.yes ?_) | (guard_target =~ XO _ _ _ _ _; first | refine XO.no ?_ | refine XO.yes ?_) | (guard_target =~ XGs _ _ _ _ _ _; first | refine XGs.cons ?_ | refine XGs.nil ?_) | (guard_target =~ XG _ _ _ _ _ _; first | refine XG.name rfl ?_ | refine XG.tupG rfl ?_ | refine XG.unlG rfl ?_) | refine go_len1 rfl ?_ | refine go_fld rfl ?_ | refine go_ins rfl rfl ?_ | refine go_kc rfl rfl ?_ | refine go_isC ?_ | refine go_isTy rfl (by first | exact kb_int_int | exact kb_int_bool | exact kb_bool_int | exact kb_bool_bool | exact kb_str_str | exact kb_list_list | exact kb_tuple_tuple | exact kb_tuple_list | exact kb_list_tuple | exact kb_NoneType_list | exact kb_NoneType_int | exact kb_str_int | exact kb_int_list | exact kb_int_tuple | exact kb_NoneType_tuple | exact kb_list_int | exact kb_tuple_int | exact kb_str_bool) ?_ | refine go_non ?_ | refine go_I0 ?_ | refine go_I ?_ ?_ | refine go_ix rfl ?_ | refine go_ixT rfl ?_ | refine go_eq rfl rfl rfl ?_ | refine go_ne rfl rfl rfl ?_ | refine go_len rfl ?_ | refine go_cat ?_ ?_ | refine go_rep ?_ ?_ ?_ ?_ | refine go_un ?_ | refine go_int ?_ | refine go_lst ?_ | refine go_tup ?_ | refine go_str ?_ | refine go_bl ?_ | refine go_ixO rfl ?_ | refine go_put rfl ?_ | refine go_ext ?_ ?_ | refine go_app ?_ ?_ | refine go_rg1 ?_ ?_ | refine go_rg2 ?_ ?_ | refine go_rg3 ?_ ?_ | refine go_enum ?_ | refine go_zipS ?_ ?_ | refine go_zip ?_))
    first | refine XE.newP ?_ | refine XE.new0 rfl (fun _ => .non) ?_ | refine XE.new0 rfl (fun _ => .str _) ?_ | (refine XE.newA rfl ?_)
    (repeat' (first | (guard_target =~ XS _ _ _ _ _; first | exact XS.next | refine XS.next ?_ | refine XS.seq ?_ | refine XS.set ?_ | refine XS.ret ?_ | refine XS.ite ?_ | refine XS.drop ?_ | refine XS.asg ?_ | refine XS.par3 ?_ | refine XS.par ?_ | refine XS.retN ?_ | refine XS.next ?_) | (guard_target =~ XE _ _ _ _ _; first | refine XE.var rfl ?_ | refine XE.int ?_ | refine XE.bl ?_ | refine XE.str ?_ | refine XE.non ?_ | refine XE.ixO rfl ?_ | refine XE.lenO rfl ?_ | refine XE.op dr_I0 ?_ | refine XE.op dr_I ?_ | refine XE.op dr_ixL ?_ | refine XE.op dr_ixT ?_ | refine XE.op dr_eq ?_ | refine XE.op dr_ne ?_ | refine XE.op dr_eqD ?_ | refine XE.op dr_neD ?_ | refine XE.op dr_isN ?_ | refine XE.op dr_notN ?_ | refine XE.op dr_eqO ?_ | refine XE.op dr_neO ?_ | refine XE.unI ?_ | refine XE.tup ?_ | refine XE.ofN (XN.lst ?_) | refine XE.ofN (XN.op dn_cat ?_) | refine XE.ofN (XN.op dn_rep ?_) | refine XE.ofN (XN.sl ?_) | refine XE.ofN (XN.cb dn_listOf ?_) | refine XE.cb db_abs ?_ | refine XE.cb db_max2 ?_ | refine XE.len1 ?_ | refine XE.cb db_lenO ?_ | refine XE.cb db_int1 ?_ | refine XE.call ?_ | refine XE.callX0 ?_ | refine XE.callP rfl ?_ | refine XE.andV ?_ | refine XE.orV ?_ | refine XE.notV ?_ | refine XE.ifE ?_ | refine XE.make ?_ | refine XE.isC ?_ | refine XE.isTy ?_ | refine XE.fld hH.cls hH.poly ?_ | refine XE.fld hH.cls hH.rows ?_ | refine XE.fld hH.cls hH.ways ?_ | refine XE.fld hN.cls hN.home ?_ | refine XE.fld hN.cls hN.parts ?_ | refine XE.km rfl ?_ | refine XE.kmX0 rfl ?_ | refine XE.kc rfl ?_ | refine XE.kcX0 rfl ?_) | (guard_target =~ XN _ _ _ _ _; first | refine XN.lst ?_ | refine XN.op dn_cat ?_ | refine XN.op dn_rep ?_ | refine XN.sl ?_ | refine XN.cb dn_listOf ?_) | (guard_target =~ XA _ _ _ _ _; first | refine XA.nil ?_ | refine XA.cons ?_) | (guard_target =~ XT _ _ _ _ _; first | refine XT.test ?_ | refine XT.b ?_ | refine XT.not ?_ | refine XT.and ?_ | refine XT.or ?_ | refine XT.yes ?_) | (guard_target =~ XO _ _ _ _ _; first | refine XO.no ?_ | refine XO.yes ?_) | (guard_target =~ XGs _ _ _ _ _ _; first | refine XGs.cons ?_ | refine XGs.nil ?_) | (guard_target =~ XG _ _ _ _ _ _; first | refine XG.name rfl ?_ | refine XG.tupG rfl ?_ | refine XG.unlG rfl ?_) | refine go_len1 rfl ?_ | refine go_fld rfl ?_ | refine go_ins rfl rfl ?_ | refine go_kc rfl rfl ?_ | refine go_isC ?_ | refine go_isTy rfl (by first | exact kb_int_int | exact kb_int_bool | exact kb_bool_int | exact kb_bool_bool | exact kb_str_str | exact kb_list_list | exact kb_tuple_tuple | exact kb_tuple_list | exact kb_list_tuple | exact kb_NoneType_list | exact kb_NoneType_int | exact kb_str_int | exact kb_int_list | exact kb_int_tuple | exact kb_NoneType_tuple | exact kb_list_int | exact kb_tuple_int | exact kb_str_bool) ?_ | refine go_non ?_ | refine go_I0 ?_ | refine go_I ?_ ?_ | refine go_ix rfl ?_ | refine go_ixT rfl ?_ | refine go_eq rfl rfl rfl ?_ | refine go_ne rfl rfl rfl ?_ | refine go_len rfl ?_ | refine go_cat ?_ ?_ | refine go_rep ?_ ?_ ?_ ?_ | refine go_un ?_ | refine go_int ?_ | refine go_lst ?_ | refine go_tup ?_ | refine go_str ?_ | refine go_bl ?_ | refine go_ixO rfl ?_ | refine go_put rfl ?_ | refine go_ext ?_ ?_ | refine go_app ?_ ?_ | refine go_rg1 ?_ ?_ | refine go_rg2 ?_ ?_ | refine go_rg3 ?_ ?_ | refine go_enum ?_ | refine go_zipS ?_ ?_ | refine go_zip ?_))
    first | refine XE.newP ?_ | refine XE.new0 rfl (fun _ => .non) ?_ | refine XE.new0 rfl (fun _ => .str _) ?_ | (refine XE.newA rfl ?_)
    (repeat' (first | (guard_target =~ XS _ _ _ _ _; first | exact XS.next | refine XS.next ?_ | refine XS.seq ?_ | refine XS.set ?_ | refine XS.ret ?_ | refine XS.ite ?_ | refine XS.drop ?_ | refine XS.asg ?_ | refine XS.par3 ?_ | refine XS.par ?_ | refine XS.retN ?_ | refine XS.next ?_) | (guard_target =~ XE _ _ _ _ _; first | refine XE.var rfl ?_ | refine XE.int ?_ | refine XE.bl ?_ | refine XE.str ?_ | refine XE.non ?_ | refine XE.ixO rfl ?_ | refine XE.lenO rfl ?_ | refine XE.op dr_I0 ?_ | refine XE.op dr_I ?_ | refine XE.op dr_ixL ?_ | refine XE.op dr_ixT ?_ | refine XE.op dr_eq ?_ | refine XE.op dr_ne ?_ | refine XE.op dr_eqD ?_ | refine XE.op dr_neD ?_ | refine XE.op dr_isN ?_ | refine XE.op dr_notN ?_ | refine XE.op dr_eqO ?_ | refine XE.op dr_neO ?_ | refine XE.unI ?_ | refine XE.tup ?_ | refine XE.ofN (XN.lst ?_) | refine XE.ofN (XN.op dn_cat ?_) | refine XE.ofN (XN.op dn_rep ?_) | refine XE.ofN (XN.sl ?_) | refine XE.ofN (XN.cb dn_listOf ?_) | refine XE.cb db_abs ?_ | refine XE.cb db_max2 ?_ | refine XE.len1 ?_ | refine XE.cb db_lenO ?_ | refine XE.cb db_int1 ?_ | refine XE.call ?_ | refine XE.callX0 ?_ | refine XE.callP rfl ?_ | refine XE.andV ?_ | refine XE.orV ?_ | refine XE.notV ?_ | refine XE.ifE ?_ | refine XE.make ?_ | refine XE.isC ?_ | refine XE.isTy ?_ | refine XE.fld hH.cls hH.poly ?_ | refine XE.fld hH.cls hH.rows ?_ | refine XE.fld hH.cls hH.ways ?_ | refine XE.fld hN.cls hN.home ?_ | refine XE.fld hN.cls hN.parts ?_ | refine XE.km rfl ?_ | refine XE.kmX0 rfl ?_ | refine XE.kc rfl ?_ | refine XE.kcX0 rfl ?_) | (guard_target =~ XN _ _ _ _ _; first | refine XN.lst ?_ | refine XN.op dn_cat ?_ | refine XN.op dn_rep ?_ | refine XN.sl ?_ | refine XN.cb dn_listOf ?_) | (guard_target =~ XA _ _ _ _ _; first | refine XA.nil ?_ | refine XA.cons ?_) | (guard_target =~ XT _ _ _ _ _; first | refine XT.test ?_ | refine XT.b ?_ | refine XT.not ?_ | refine XT.and ?_ | refine XT.or ?_ | refine XT.yes ?_) | (guard_target =~ XO _ _ _ _ _; first | refine XO.no ?_ | refine XO.yes ?_) | (guard_target =~ XGs _ _ _ _ _ _; first | refine XGs.cons ?_ | refine XGs.nil ?_) | (guard_target =~ XG _ _ _ _ _ _; first | refine XG.name rfl ?_ | refine XG.tupG rfl ?_ | refine XG.unlG rfl ?_) | refine go_len1 rfl ?_ | refine go_fld rfl ?_ | refine go_ins rfl rfl ?_ | refine go_kc rfl rfl ?_ | refine go_isC ?_ | refine go_isTy rfl (by first | exact kb_int_int | exact kb_int_bool | exact kb_bool_int | exact kb_bool_bool | exact kb_str_str | exact kb_list_list | exact kb_tuple_tuple | exact kb_tuple_list | exact kb_list_tuple | exact kb_NoneType_list | exact kb_NoneType_int | exact kb_str_int | exact kb_int_list | exact kb_int_tuple | exact kb_NoneType_tuple | exact kb_list_int | exact kb_tuple_int | exact kb_str_bool) ?_ | refine go_non ?_ | refine go_I0 ?_ | refine go_I ?_ ?_ | refine go_ix rfl ?_ | refine go_ixT rfl ?_ | refine go_eq rfl rfl rfl ?_ | refine go_ne rfl rfl rfl ?_ | refine go_len rfl ?_ | refine go_cat ?_ ?_ | refine go_rep ?_ ?_ ?_ ?_ | refine go_un ?_ | refine go_int ?_ | refine go_lst ?_ | refine go_tup ?_ | refine go_str ?_ | refine go_bl ?_ | refine go_ixO rfl ?_ | refine go_put rfl ?_ | refine go_ext ?_ ?_ | refine go_app ?_ ?_ | refine go_rg1 ?_ ?_ | refine go_rg2 ?_ ?_ | refine go_rg3 ?_ ?_ | refine go_enum ?_ | refine go_zipS ?_ ?_ | refine go_zip ?_))
    first | refine XE.newP ?_ | refine XE.new0 rfl (fun _ => .non) ?_ | refine XE.new0 rfl (fun _ => .str _) ?_ | (refine XE.newA rfl ?_)
    (repeat' (first | (guard_target =~ XS _ _ _ _ _; first | exact XS.next | refine XS.next ?_ | refine XS.seq ?_ | refine XS.set ?_ | refine XS.ret ?_ | refine XS.ite ?_ | refine XS.drop ?_ | refine XS.asg ?_ | refine XS.par3 ?_ | refine XS.par ?_ | refine XS.retN ?_ | refine XS.next ?_) | (guard_target =~ XE _ _ _ _ _; first | refine XE.var rfl ?_ | refine XE.int ?_ | refine XE.bl ?_ | refine XE.str ?_ | refine XE.non ?_ | refine XE.ixO rfl ?_ | refine XE.lenO rfl ?_ | refine XE.op dr_I0 ?_ | refine XE.op dr_I ?_ | refine XE.op dr_ixL ?_ | refine XE.op dr_ixT ?_ | refine XE.op dr_eq ?_ | refine XE.op dr_ne ?_ | refine XE.op dr_eqD ?_ | refine XE.op dr_neD ?_ | refine XE.op dr_isN ?_ | refine XE.op dr_notN ?_ | refine XE.op dr_eqO ?_ | refine XE.op dr_neO ?_ | refine XE.unI ?_ | refine XE.tup ?_ | refine XE.ofN (XN.lst ?_) | refine XE.ofN (XN.op dn_cat ?_) | refine XE.ofN (XN.op dn_rep ?_) | refine XE.ofN (XN.sl ?_) | refine XE.ofN (XN.cb dn_listOf ?_) | refine XE.cb db_abs ?_ | refine XE.cb db_max2 ?_ | refine XE.len1 ?_ | refine XE.cb db_lenO ?_ | refine XE.cb db_int1 ?_ | refine XE.call ?_ | refine XE.callX0 ?_ | refine XE.callP rfl ?_ | refine XE.andV ?_ | refine XE.orV ?_ | refine XE.notV ?_ | refine XE.ifE ?_ | refine XE.make ?_ | refine XE.isC ?_ | refine XE.isTy ?_ | refine XE.fld hH.cls hH.poly ?_ | refine XE.fld hH.cls hH.rows ?_ | refine XE.fld hH.cls hH.ways ?_ | refine XE.fld hN.cls hN.home ?_ | refine XE.fld hN.cls hN.parts ?_ | refine XE.km rfl ?_ | refine XE.kmX0 rfl ?_ | refine XE.kc rfl ?_ | refine XE.kcX0 rfl ?_) | (guard_target =~ XN _ _ _ _ _; first | refine XN.lst ?_ | refine XN.op dn_cat ?_ | refine XN.op dn_rep ?_ | refine XN.sl ?_ | refine XN.cb dn_listOf ?_) | (guard_target =~ XA _ _ _ _ _; first | refine XA.nil ?_ | refine XA.cons ?_) | (guard_target =~ XT _ _ _ _ _; first | refine XT.test ?_ | refine XT.b ?_ | refine XT.not ?_ | refine XT.and ?_ | refine XT.or ?_ | refine XT.yes ?_) | (guard_target =~ XO _ _ _ _ _; first | refine XO.no ?_ | refine XO.yes ?_) | (guard_target =~ XGs _ _ _ _ _ _; first | refine XGs.cons ?_ | refine XGs.nil ?_) | (guard_target =~ XG _ _ _ _ _ _; first | refine XG.name rfl ?_ | refine XG.tupG rfl ?_ | refine XG.unlG rfl ?_) | refine go_len1 rfl ?_ | refine go_fld rfl ?_ | refine go_ins rfl rfl ?_ | refine go_kc rfl rfl ?_ | refine go_isC ?_ | refine go_isTy rfl (by first | exact kb_int_int | exact kb_int_bool | exact kb_bool_int | exact kb_bool_bool | exact kb_str_str | exact kb_list_list | exact kb_tuple_tuple | exact kb_tuple_list | exact kb_list_tuple | exact kb_NoneType_list | exact kb_NoneType_int | exact kb_str_int | exact kb_int_list | exact kb_int_tuple | exact kb_NoneType_tuple | exact kb_list_int | exact kb_tuple_int | exact kb_str_bool) ?_ | refine go_non ?_ | refine go_I0 ?_ | refine go_I ?_ ?_ | refine go_ix rfl ?_ | refine go_ixT rfl ?_ | refine go_eq rfl rfl rfl ?_ | refine go_ne rfl rfl rfl ?_ | refine go_len rfl ?_ | refine go_cat ?_ ?_ | refine go_rep ?_ ?_ ?_ ?_ | refine go_un ?_ | refine go_int ?_ | refine go_lst ?_ | refine go_tup ?_ | refine go_str ?_ | refine go_bl ?_ | refine go_ixO rfl ?_ | refine go_put rfl ?_ | refine go_ext ?_ ?_ | refine go_app ?_ ?_ | refine go_rg1 ?_ ?_ | refine go_rg2 ?_ ?_ | refine go_rg3 ?_ ?_ | refine go_enum ?_ | refine go_zipS ?_ ?_ | refine go_zip ?_))
    first | refine XE.newP ?_ | refine XE.new0 rfl (fun _ => .non) ?_ | refine XE.new0 rfl (fun _ => .str _) ?_ | (refine XE.newA rfl ?_)
    (repeat' (first | (guard_target =~ XS _ _ _ _ _; first | exact XS.next | refine XS.next ?_ | refine XS.seq ?_ | refine XS.set ?_ | refine XS.ret ?_ | refine XS.ite ?_ | refine XS.drop ?_ | refine XS.asg ?_ | refine XS.par3 ?_ | refine XS.par ?_ | refine XS.retN ?_ | refine XS.next ?_) | (guard_target =~ XE _ _ _ _ _; first | refine XE.var rfl ?_ | refine XE.int ?_ | refine XE.bl ?_ | refine XE.str ?_ | refine XE.non ?_ | refine XE.ixO rfl ?_ | refine XE.lenO rfl ?_ | refine XE.op dr_I0 ?_ | refine XE.op dr_I ?_ | refine XE.op dr_ixL ?_ | refine XE.op dr_ixT ?_ | refine XE.op dr_eq ?_ | refine XE.op dr_ne ?_ | refine XE.op dr_eqD ?_ | refine XE.op dr_neD ?_ | refine XE.op dr_isN ?_ | refine XE.op dr_notN ?_ | refine XE.op dr_eqO ?_ | refine XE.op dr_neO ?_ | refine XE.unI ?_ | refine XE.tup ?_ | refine XE.ofN (XN.lst ?_) | refine XE.ofN (XN.op dn_cat ?_) | refine XE.ofN (XN.op dn_rep ?_) | refine XE.ofN (XN.sl ?_) | refine XE.ofN (XN.cb dn_listOf ?_) | refine XE.cb db_abs ?_ | refine XE.cb db_max2 ?_ | refine XE.len1 ?_ | refine XE.cb db_lenO ?_ | refine XE.cb db_int1 ?_ | refine XE.call ?_ | refine XE.callX0 ?_ | refine XE.callP rfl ?_ | refine XE.andV ?_ | refine XE.orV ?_ | refine XE.notV ?_ | refine XE.ifE ?_ | refine XE.make ?_ | refine XE.isC ?_ | refine XE.isTy ?_ | refine XE.fld hH.cls hH.poly ?_ | refine XE.fld hH.cls hH.rows ?_ | refine XE.fld hH.cls hH.ways ?_ | refine XE.fld hN.cls hN.home ?_ | refine XE.fld hN.cls hN.parts ?_ | refine XE.km rfl ?_ | refine XE.kmX0 rfl ?_ | refine XE.kc rfl ?_ | refine XE.kcX0 rfl ?_) | (guard_target =~ XN _ _ _ _ _; first | refine XN.lst ?_ | refine XN.op dn_cat ?_ | refine XN.op dn_rep ?_ | refine XN.sl ?_ | refine XN.cb dn_listOf ?_) | (guard_target =~ XA _ _ _ _ _; first | refine XA.nil ?_ | refine XA.cons ?_) | (guard_target =~ XT _ _ _ _ _; first | refine XT.test ?_ | refine XT.b ?_ | refine XT.not ?_ | refine XT.and ?_ | refine XT.or ?_ | refine XT.yes ?_) | (guard_target =~ XO _ _ _ _ _; first | refine XO.no ?_ | refine XO.yes ?_) | (guard_target =~ XGs _ _ _ _ _ _; first | refine XGs.cons ?_ | refine XGs.nil ?_) | (guard_target =~ XG _ _ _ _ _ _; first | refine XG.name rfl ?_ | refine XG.tupG rfl ?_ | refine XG.unlG rfl ?_) | refine go_len1 rfl ?_ | refine go_fld rfl ?_ | refine go_ins rfl rfl ?_ | refine go_kc rfl rfl ?_ | refine go_isC ?_ | refine go_isTy rfl (by first | exact kb_int_int | exact kb_int_bool | exact kb_bool_int | exact kb_bool_bool | exact kb_str_str | exact kb_list_list | exact kb_tuple_tuple | exact kb_tuple_list | exact kb_list_tuple | exact kb_NoneType_list | exact kb_NoneType_int | exact kb_str_int | exact kb_int_list | exact kb_int_tuple | exact kb_NoneType_tuple | exact kb_list_int | exact kb_tuple_int | exact kb_str_bool) ?_ | refine go_non ?_ | refine go_I0 ?_ | refine go_I ?_ ?_ | refine go_ix rfl ?_ | refine go_ixT rfl ?_ | refine go_eq rfl rfl rfl ?_ | refine go_ne rfl rfl rfl ?_ | refine go_len rfl ?_ | refine go_cat ?_ ?_ | refine go_rep ?_ ?_ ?_ ?_ | refine go_un ?_ | refine go_int ?_ | refine go_lst ?_ | refine go_tup ?_ | refine go_str ?_ | refine go_bl ?_ | refine go_ixO rfl ?_ | refine go_put rfl ?_ | refine go_ext ?_ ?_ | refine go_app ?_ ?_ | refine go_rg1 ?_ ?_ | refine go_rg2 ?_ ?_ | refine go_rg3 ?_ ?_ | refine go_enum ?_ | refine go_zipS ?_ ?_ | refine go_zip ?_))
    first | refine XE.newP ?_ | refine XE.new0 rfl (fun _ => .non) ?_ | refine XE.new0 rfl (fun _ => .str _) ?_ | (refine XE.newA rfl ?_)
    (repeat' (first | (guard_target =~ XS _ _ _ _ _; first | exact XS.next | refine XS.next ?_ | refine XS.seq ?_ | refine XS.set ?_ | refine XS.ret ?_ | refine XS.ite ?_ | refine XS.drop ?_ | refine XS.asg ?_ | refine XS.par3 ?_ | refine XS.par ?_ | refine XS.retN ?_ | refine XS.next ?_) | (guard_target =~ XE _ _ _ _ _; first | refine XE.var rfl ?_ | refine XE.int ?_ | refine XE.bl ?_ | refine XE.str ?_ | refine XE.non ?_ | refine XE.ixO rfl ?_ | refine XE.lenO rfl ?_ | refine XE.op dr_I0 ?_ | refine XE.op dr_I ?_ | refine XE.op dr_ixL ?_ | refine XE.op dr_ixT ?_ | refine XE.op dr_eq ?_ | refine XE.op dr_ne ?_ | refine XE.op dr_eqD ?_ | refine XE.op dr_neD ?_ | refine XE.op dr_isN ?_ | refine XE.op dr_notN ?_ | refine XE.op dr_eqO ?_ | refine XE.op dr_neO ?_ | refine XE.unI ?_ | refine XE.tup ?_ | refine XE.ofN (XN.lst ?_) | refine XE.ofN (XN.op dn_cat ?_) | refine XE.ofN (XN.op dn_rep ?_) | refine XE.ofN (XN.sl ?_) | refine XE.ofN (XN.cb dn_listOf ?_) | refine XE.cb db_abs ?_ | refine XE.cb db_max2 ?_ | refine XE.len1 ?_ | refine XE.cb db_lenO ?_ | refine XE.cb db_int1 ?_ | refine XE.call ?_ | refine XE.callX0 ?_ | refine XE.callP rfl ?_ | refine XE.andV ?_ | refine XE.orV ?_ | refine XE.notV ?_ | refine XE.ifE ?_ | refine XE.make ?_ | refine XE.isC ?_ | refine XE.isTy ?_ | refine XE.fld hH.cls hH.poly ?_ | refine XE.fld hH.cls hH.rows ?_ | refine XE.fld hH.cls hH.ways ?_ | refine XE.fld hN.cls hN.home ?_ | refine XE.fld hN.cls hN.parts ?_ | refine XE.km rfl ?_ | refine XE.kmX0 rfl ?_ | refine XE.kc rfl ?_ | refine XE.kcX0 rfl ?_) | (guard_target =~ XN _ _ _ _ _; first | refine XN.lst ?_ | refine XN.op dn_cat ?_ | refine XN.op dn_rep ?_ | refine XN.sl ?_ | refine XN.cb dn_listOf ?_) | (guard_target =~ XA _ _ _ _ _; first | refine XA.nil ?_ | refine XA.cons ?_) | (guard_target =~ XT _ _ _ _ _; first | refine XT.test ?_ | refine XT.b ?_ | refine XT.not ?_ | refine XT.and ?_ | refine XT.or ?_ | refine XT.yes ?_) | (guard_target =~ XO _ _ _ _ _; first | refine XO.no ?_ | refine XO.yes ?_) | (guard_target =~ XGs _ _ _ _ _ _; first | refine XGs.cons ?_ | refine XGs.nil ?_) | (guard_target =~ XG _ _ _ _ _ _; first | refine XG.name rfl ?_ | refine XG.tupG rfl ?_ | refine XG.unlG rfl ?_) | refine go_len1 rfl ?_ | refine go_fld rfl ?_ | refine go_ins rfl rfl ?_ | refine go_kc rfl rfl ?_ | refine go_isC ?_ | refine go_isTy rfl (by first | exact kb_int_int | exact kb_int_bool | exact kb_bool_int | exact kb_bool_bool | exact kb_str_str | exact kb_list_list | exact kb_tuple_tuple | exact kb_tuple_list | exact kb_list_tuple | exact kb_NoneType_list | exact kb_NoneType_int | exact kb_str_int | exact kb_int_list | exact kb_int_tuple | exact kb_NoneType_tuple | exact kb_list_int | exact kb_tuple_int | exact kb_str_bool) ?_ | refine go_non ?_ | refine go_I0 ?_ | refine go_I ?_ ?_ | refine go_ix rfl ?_ | refine go_ixT rfl ?_ | refine go_eq rfl rfl rfl ?_ | refine go_ne rfl rfl rfl ?_ | refine go_len rfl ?_ | refine go_cat ?_ ?_ | refine go_rep ?_ ?_ ?_ ?_ | refine go_un ?_ | refine go_int ?_ | refine go_lst ?_ | refine go_tup ?_ | refine go_str ?_ | refine go_bl ?_ | refine go_ixO rfl ?_ | refine go_put rfl ?_ | refine go_ext ?_ ?_ | refine go_app ?_ ?_ | refine go_rg1 ?_ ?_ | refine go_rg2 ?_ ?_ | refine go_rg3 ?_ ?_ | refine go_enum ?_ | refine go_zipS ?_ ?_ | refine go_zip ?_))
    first | refine XE.newP ?_ | refine XE.new0 rfl (fun _ => .non) ?_ | refine XE.new0 rfl (fun _ => .str _) ?_ | (refine XE.newA rfl ?_)
    (repeat' (first | (guard_target =~ XS _ _ _ _ _; first | exact XS.next | refine XS.next ?_ | refine XS.seq ?_ | refine XS.set ?_ | refine XS.ret ?_ | refine XS.ite ?_ | refine XS.drop ?_ | refine XS.asg ?_ | refine XS.par3 ?_ | refine XS.par ?_ | refine XS.retN ?_ | refine XS.next ?_) | (guard_target =~ XE _ _ _ _ _; first | refine XE.var rfl ?_ | refine XE.int ?_ | refine XE.bl ?_ | refine XE.str ?_ | refine XE.non ?_ | refine XE.ixO rfl ?_ | refine XE.lenO rfl ?_ | refine XE.op dr_I0 ?_ | refine XE.op dr_I ?_ | refine XE.op dr_ixL ?_ | refine XE.op dr_ixT ?_ | refine XE.op dr_eq ?_ | refine XE.op dr_ne ?_ | refine XE.op dr_eqD ?_ | refine XE.op dr_neD ?_ | refine XE.op dr_isN ?_ | refine XE.op dr_notN ?_ | refine XE.op dr_eqO ?_ | refine XE.op dr_neO ?_ | refine XE.unI ?_ | refine XE.tup ?_ | refine XE.ofN (XN.lst ?_) | refine XE.ofN (XN.op dn_cat ?_) | refine XE.ofN (XN.op dn_rep ?_) | refine XE.ofN (XN.sl ?_) | refine XE.ofN (XN.cb dn_listOf ?_) | refine XE.cb db_abs ?_ | refine XE.cb db_max2 ?_ | refine XE.len1 ?_ | refine XE.cb db_lenO ?_ | refine XE.cb db_int1 ?_ | refine XE.call ?_ | refine XE.callX0 ?_ | refine XE.callP rfl ?_ | refine XE.andV ?_ | refine XE.orV ?_ | refine XE.notV ?_ | refine XE.ifE ?_ | refine XE.make ?_ | refine XE.isC ?_ | refine XE.isTy ?_ | refine XE.fld hH.cls hH.poly ?_ | refine XE.fld hH.cls hH.rows ?_ | refine XE.fld hH.cls hH.ways ?_ | refine XE.fld hN.cls hN.home ?_ | refine XE.fld hN.cls hN.parts ?_ | refine XE.km rfl ?_ | refine XE.kmX0 rfl ?_ | refine XE.kc rfl ?_ | refine XE.kcX0 rfl ?_) | (guard_target =~ XN _ _ _ _ _; first | refine XN.lst ?_ | refine XN.op dn_cat ?_ | refine XN.op dn_rep ?_ | refine XN.sl ?_ | refine XN.cb dn_listOf ?_) | (guard_target =~ XA _ _ _ _ _; first | refine XA.nil ?_ | refine XA.cons ?_) | (guard_target =~ XT _ _ _ _ _; first | refine XT.test ?_ | refine XT.b ?_ | refine XT.not ?_ | refine XT.and ?_ | refine XT.or ?_ | refine XT.yes ?_) | (guard_target =~ XO _ _ _ _ _; first | refine XO.no ?_ | refine XO.yes ?_) | (guard_target =~ XGs _ _ _ _ _ _; first | refine XGs.cons ?_ | refine XGs.nil ?_) | (guard_target =~ XG _ _ _ _ _ _; first | refine XG.name rfl ?_ | refine XG.tupG rfl ?_ | refine XG.unlG rfl ?_) | refine go_len1 rfl ?_ | refine go_fld rfl ?_ | refine go_ins rfl rfl ?_ | refine go_kc rfl rfl ?_ | refine go_isC ?_ | refine go_isTy rfl (by first | exact kb_int_int | exact kb_int_bool | exact kb_bool_int | exact kb_bool_bool | exact kb_str_str | exact kb_list_list | exact kb_tuple_tuple | exact kb_tuple_list | exact kb_list_tuple | exact kb_NoneType_list | exact kb_NoneType_int | exact kb_str_int | exact kb_int_list | exact kb_int_tuple | exact kb_NoneType_tuple | exact kb_list_int | exact kb_tuple_int | exact kb_str_bool) ?_ | refine go_non ?_ | refine go_I0 ?_ | refine go_I ?_ ?_ | refine go_ix rfl ?_ | refine go_ixT rfl ?_ | refine go_eq rfl rfl rfl ?_ | refine go_ne rfl rfl rfl ?_ | refine go_len rfl ?_ | refine go_cat ?_ ?_ | refine go_rep ?_ ?_ ?_ ?_ | refine go_un ?_ | refine go_int ?_ | refine go_lst ?_ | refine go_tup ?_ | refine go_str ?_ | refine go_bl ?_ | refine go_ixO rfl ?_ | refine go_put rfl ?_ | refine go_ext ?_ ?_ | refine go_app ?_ ?_ | refine go_rg1 ?_ ?_ | refine go_rg2 ?_ ?_ | refine go_rg3 ?_ ?_ | refine go_enum ?_ | refine go_zipS ?_ ?_ | refine go_zip ?_))
    first | refine XE.newP ?_ | refine XE.new0 rfl (fun _ => .non) ?_ | refine XE.new0 rfl (fun _ => .str _) ?_ | (refine XE.newA rfl ?_)
    (repeat' (first | (guard_target =~ XS _ _ _ _ _; first | exact XS.next | refine XS.next ?_ | refine XS.seq ?_ | refine XS.set ?_ | refine XS.ret ?_ | refine XS.ite ?_ | refine XS.drop ?_ | refine XS.asg ?_ | refine XS.par3 ?_ | refine XS.par ?_ | refine XS.retN ?_ | refine XS.next ?_) | (guard_target =~ XE _ _ _ _ _; first | refine XE.var rfl ?_ | refine XE.int ?_ | refine XE.bl ?_ | refine XE.str ?_ | refine XE.non ?_ | refine XE.ixO rfl ?_ | refine XE.lenO rfl ?_ | refine XE.op dr_I0 ?_ | refine XE.op dr_I ?_ | refine XE.op dr_ixL ?_ | refine XE.op dr_ixT ?_ | refine XE.op dr_eq ?_ | refine XE.op dr_ne ?_ | refine XE.op dr_eqD ?_ | refine XE.op dr_neD ?_ | refine XE.op dr_isN ?_ | refine XE.op dr_notN ?_ | refine XE.op dr_eqO ?_ | refine XE.op dr_neO ?_ | refine XE.unI ?_ | refine XE.tup ?_ | refine XE.ofN (XN.lst ?_) | refine XE.ofN (XN.op dn_cat ?_) | refine XE.ofN (XN.op dn_rep ?_) | refine XE.ofN (XN.sl ?_) | refine XE.ofN (XN.cb dn_listOf ?_) | refine XE.cb db_abs ?_ | refine XE.cb db_max2 ?_ | refine XE.len1 ?_ | refine XE.cb db_lenO ?_ | refine XE.cb db_int1 ?_ | refine XE.call ?_ | refine XE.callX0 ?_ | refine XE.callP rfl ?_ | refine XE.andV ?_ | refine XE.orV ?_ | refine XE.notV ?_ | refine XE.ifE ?_ | refine XE.make ?_ | refine XE.isC ?_ | refine XE.isTy ?_ | refine XE.fld hH.cls hH.poly ?_ | refine XE.fld hH.cls hH.rows ?_ | refine XE.fld hH.cls hH.ways ?_ | refine XE.fld hN.cls hN.home ?_ | refine XE.fld hN.cls hN.parts ?_ | refine XE.km rfl ?_ | refine XE.kmX0 rfl ?_ | refine XE.kc rfl ?_ | refine XE.kcX0 rfl ?_) | (guard_target =~ XN _ _ _ _ _; first | refine XN.lst ?_ | refine XN.op dn_cat ?_ | refine XN.op dn_rep ?_ | refine XN.sl ?_ | refine XN.cb dn_listOf ?_) | (guard_target =~ XA _ _ _ _ _; first | refine XA.nil ?_ | refine XA.cons ?_) | (guard_target =~ XT _ _ _ _ _; first | refine XT.test ?_ | refine XT.b ?_ | refine XT.not ?_ | refine XT.and ?_ | refine XT.or ?_ | refine XT.yes ?_) | (guard_target =~ XO _ _ _ _ _; first | refine XO.no ?_ | refine XO.yes ?_) | (guard_target =~ XGs _ _ _ _ _ _; first | refine XGs.cons ?_ | refine XGs.nil ?_) | (guard_target =~ XG _ _ _ _ _ _; first | refine XG.name rfl ?_ | refine XG.tupG rfl ?_ | refine XG.unlG rfl ?_) | refine go_len1 rfl ?_ | refine go_fld rfl ?_ | refine go_ins rfl rfl ?_ | refine go_kc rfl rfl ?_ | refine go_isC ?_ | refine go_isTy rfl (by first | exact kb_int_int | exact kb_int_bool | exact kb_bool_int | exact kb_bool_bool | exact kb_str_str | exact kb_list_list | exact kb_tuple_tuple | exact kb_tuple_list | exact kb_list_tuple | exact kb_NoneType_list | exact kb_NoneType_int | exact kb_str_int | exact kb_int_list | exact kb_int_tuple | exact kb_NoneType_tuple | exact kb_list_int | exact kb_tuple_int | exact kb_str_bool) ?_ | refine go_non ?_ | refine go_I0 ?_ | refine go_I ?_ ?_ | refine go_ix rfl ?_ | refine go_ixT rfl ?_ | refine go_eq rfl rfl rfl ?_ | refine go_ne rfl rfl rfl ?_ | refine go_len rfl ?_ | refine go_cat ?_ ?_ | refine go_rep ?_ ?_ ?_ ?_ | refine go_un ?_ | refine go_int ?_ | refine go_lst ?_ | refine go_tup ?_ | refine go_str ?_ | refine go_bl ?_ | refine go_ixO rfl ?_ | refine go_put rfl ?_ | refine go_ext ?_ ?_ | refine go_app ?_ ?_ | refine go_rg1 ?_ ?_ | refine go_rg2 ?_ ?_ | refine go_rg3 ?_ ?_ | refine go_enum ?_ | refine go_zipS ?_ ?_ | refine go_zip ?_))
    first | refine XE.newP ?_ | refine XE.new0 rfl (fun _ => .non) ?_ | refine XE.new0 rfl (fun _ => .str _) ?_ | (refine XE.newA rfl ?_)
    (repeat' (first | (guard_target =~ XS _ _ _ _ _; first | exact XS.next | refine XS.next ?_ | refine XS.seq ?_ | refine XS.set ?_ | refine XS.ret ?_ | refine XS.ite ?_ | refine XS.drop ?_ | refine XS.asg ?_ | refine XS.par3 ?_ | refine XS.par ?_ | refine XS.retN ?_ | refine XS.next ?_) | (guard_target =~ XE _ _ _ _ _; first | refine XE.var rfl ?_ | refine XE.int ?_ | refine XE.bl ?_ | refine XE.str ?_ | refine XE.non ?_ | refine XE.ixO rfl ?_ | refine XE.lenO rfl ?_ | refine XE.op dr_I0 ?_ | refine XE.op dr_I ?_ | refine XE.op dr_ixL ?_ | refine XE.op dr_ixT ?_ | refine XE.op dr_eq ?_ | refine XE.op dr_ne ?_ | refine XE.op dr_eqD ?_ | refine XE.op dr_neD ?_ | refine XE.op dr_isN ?_ | refine XE.op dr_notN ?_ | refine XE.op dr_eqO ?_ | refine XE.op dr_neO ?_ | refine XE.unI ?_ | refine XE.tup ?_ | refine XE.ofN (XN.lst ?_) | refine XE.ofN (XN.op dn_cat ?_) | refine XE.ofN (XN.op dn_rep ?_) | refine XE.ofN (XN.sl ?_) | refine XE.ofN (XN.cb dn_listOf ?_) | refine XE.cb db_abs ?_ | refine XE.cb db_max2 ?_ | refine XE.len1 ?_ | refine XE.cb db_lenO ?_ | refine XE.cb db_int1 ?_ | refine XE.call ?_ | refine XE.callX0 ?_ | refine XE.callP rfl ?_ | refine XE.andV ?_ | refine XE.orV ?_ | refine XE.notV ?_ | refine XE.ifE ?_ | refine XE.make ?_ | refine XE.isC ?_ | refine XE.isTy ?_ | refine XE.fld hH.cls hH.poly ?_ | refine XE.fld hH.cls hH.rows ?_ | refine XE.fld hH.cls hH.ways ?_ | refine XE.fld hN.cls hN.home ?_ | refine XE.fld hN.cls hN.parts ?_ | refine XE.km rfl ?_ | refine XE.kmX0 rfl ?_ | refine XE.kc rfl ?_ | refine XE.kcX0 rfl ?_) | (guard_target =~ XN _ _ _ _ _; first | refine XN.lst ?_ | refine XN.op dn_cat ?_ | refine XN.op dn_rep ?_ | refine XN.sl ?_ | refine XN.cb dn_listOf ?_) | (guard_target =~ XA _ _ _ _ _; first | refine XA.nil ?_ | refine XA.cons ?_) | (guard_target =~ XT _ _ _ _ _; first | refine XT.test ?_ | refine XT.b ?_ | refine XT.not ?_ | refine XT.and ?_ | refine XT.or ?_ | refine XT.yes ?_) | (guard_target =~ XO _ _ _ _ _; first | refine XO.no ?_ | refine XO.yes ?_) | (guard_target =~ XGs _ _ _ _ _ _; first | refine XGs.cons ?_ | refine XGs.nil ?_) | (guard_target =~ XG _ _ _ _ _ _; first | refine XG.name rfl ?_ | refine XG.tupG rfl ?_ | refine XG.unlG rfl ?_) | refine go_len1 rfl ?_ | refine go_fld rfl ?_ | refine go_ins rfl rfl ?_ | refine go_kc rfl rfl ?_ | refine go_isC ?_ | refine go_isTy rfl (by first | exact kb_int_int | exact kb_int_bool | exact kb_bool_int | exact kb_bool_bool | exact kb_str_str | exact kb_list_list | exact kb_tuple_tuple | exact kb_tuple_list | exact kb_list_tuple | exact kb_NoneType_list | exact kb_NoneType_int | exact kb_str_int | exact kb_int_list | exact kb_int_tuple | exact kb_NoneType_tuple | exact kb_list_int | exact kb_tuple_int | exact kb_str_bool) ?_ | refine go_non ?_ | refine go_I0 ?_ | refine go_I ?_ ?_ | refine go_ix rfl ?_ | refine go_ixT rfl ?_ | refine go_eq rfl rfl rfl ?_ | refine go_ne rfl rfl rfl ?_ | refine go_len rfl ?_ | refine go_cat ?_ ?_ | refine go_rep ?_ ?_ ?_ ?_ | refine go_un ?_ | refine go_int ?_ | refine go_lst ?_ | refine go_tup ?_ | refine go_str ?_ | refine go_bl ?_ | refine go_ixO rfl ?_ | refine go_put rfl ?_ | refine go_ext ?_ ?_ | refine go_app ?_ ?_ | refine go_rg1 ?_ ?_ | refine go_rg2 ?_ ?_ | refine go_rg3 ?_ ?_ | refine go_enum ?_ | refine go_zipS ?_ ?_ | refine go_zip ?_))
    first | refine XE.newP ?_ | refine XE.new0 rfl (fun _ => .non) ?_ | refine XE.new0 rfl (fun _ => .str _) ?_ | (refine XE.newA rfl ?_)
    (repeat' (first | (guard_target =~ XS _ _ _ _ _; first | exact XS.next | refine XS.next ?_ | refine XS.seq ?_ | refine XS.set ?_ | refine XS.ret ?_ | refine XS.ite ?_ | refine XS.drop ?_ | refine XS.asg ?_ | refine XS.par3 ?_ | refine XS.par ?_ | refine XS.retN ?_ | refine XS.next ?_) | (guard_target =~ XE _ _ _ _ _; first | refine XE.var rfl ?_ | refine XE.int ?_ | refine XE.bl ?_ | refine XE.str ?_ | refine XE.non ?_ | refine XE.ixO rfl ?_ | refine XE.lenO rfl ?_ | refine XE.op dr_I0 ?_ | refine XE.op dr_I ?_ | refine XE.op dr_ixL ?_ | refine XE.op dr_ixT ?_ | refine XE.op dr_eq ?_ | refine XE.op dr_ne ?_ | refine XE.op dr_eqD ?_ | refine XE.op dr_neD ?_ | refine XE.op dr_isN ?_ | refine XE.op dr_notN ?_ | refine XE.op dr_eqO ?_ | refine XE.op dr_neO ?_ | refine XE.unI ?_ | refine XE.tup ?_ | refine XE.ofN (XN.lst ?_) | refine XE.ofN (XN.op dn_cat ?_) | refine XE.ofN (XN.op dn_rep ?_) | refine XE.ofN (XN.sl ?_) | refine XE.ofN (XN.cb dn_listOf ?_) | refine XE.cb db_abs ?_ | refine XE.cb db_max2 ?_ | refine XE.len1 ?_ | refine XE.cb db_lenO ?_ | refine XE.cb db_int1 ?_ | refine XE.call ?_ | refine XE.callX0 ?_ | refine XE.callP rfl ?_ | refine XE.andV ?_ | refine XE.orV ?_ | refine XE.notV ?_ | refine XE.ifE ?_ | refine XE.make ?_ | refine XE.isC ?_ | refine XE.isTy ?_ | refine XE.fld hH.cls hH.poly ?_ | refine XE.fld hH.cls hH.rows ?_ | refine XE.fld hH.cls hH.ways ?_ | refine XE.fld hN.cls hN.home ?_ | refine XE.fld hN.cls hN.parts ?_ | refine XE.km rfl ?_ | refine XE.kmX0 rfl ?_ | refine XE.kc rfl ?_ | refine XE.kcX0 rfl ?_) | (guard_target =~ XN _ _ _ _ _; first | refine XN.lst ?_ | refine XN.op dn_cat ?_ | refine XN.op dn_rep ?_ | refine XN.sl ?_ | refine XN.cb dn_listOf ?_) | (guard_target =~ XA _ _ _ _ _; first | refine XA.nil ?_ | refine XA.cons ?_) | (guard_target =~ XT _ _ _ _ _; first | refine XT.test ?_ | refine XT.b ?_ | refine XT.not ?_ | refine XT.and ?_ | refine XT.or ?_ | refine XT.yes ?_) | (guard_target =~ XO _ _ _ _ _; first | refine XO.no ?_ | refine XO.yes ?_) | (guard_target =~ XGs _ _ _ _ _ _; first | refine XGs.cons ?_ | refine XGs.nil ?_) | (guard_target =~ XG _ _ _ _ _ _; first | refine XG.name rfl ?_ | refine XG.tupG rfl ?_ | refine XG.unlG rfl ?_) | refine go_len1 rfl ?_ | refine go_fld rfl ?_ | refine go_ins rfl rfl ?_ | refine go_kc rfl rfl ?_ | refine go_isC ?_ | refine go_isTy rfl (by first | exact kb_int_int | exact kb_int_bool | exact kb_bool_int | exact kb_bool_bool | exact kb_str_str | exact kb_list_list | exact kb_tuple_tuple | exact kb_tuple_list | exact kb_list_tuple | exact kb_NoneType_list | exact kb_NoneType_int | exact kb_str_int | exact kb_int_list | exact kb_int_tuple | exact kb_NoneType_tuple | exact kb_list_int | exact kb_tuple_int | exact kb_str_bool) ?_ | refine go_non ?_ | refine go_I0 ?_ | refine go_I ?_ ?_ | refine go_ix rfl ?_ | refine go_ixT rfl ?_ | refine go_eq rfl rfl rfl ?_ | refine go_ne rfl rfl rfl ?_ | refine go_len rfl ?_ | refine go_cat ?_ ?_ | refine go_rep ?_ ?_ ?_ ?_ | refine go_un ?_ | refine go_int ?_ | refine go_lst ?_ | refine go_tup ?_ | refine go_str ?_ | refine go_bl ?_ | refine go_ixO rfl ?_ | refine go_put rfl ?_ | refine go_ext ?_ ?_ | refine go_app ?_ ?_ | refine go_rg1 ?_ ?_ | refine go_rg2 ?_ ?_ | refine go_rg3 ?_ ?_ | refine go_enum ?_ | refine go_zipS ?_ ?_ | refine go_zip ?_))
    first | refine XE.newP ?_ | refine XE.new0 rfl (fun _ => .non) ?_ | refine XE.new0 rfl (fun _ => .str _) ?_ | (refine XE.newA rfl ?_)
    (repeat' (first | (guard_target =~ XS _ _ _ _ _; first | exact XS.next | refine XS.next ?_ | refine XS.seq ?_ | refine XS.set ?_ | refine XS.ret ?_ | refine XS.ite ?_ | refine XS.drop ?_ | refine XS.asg ?_ | refine XS.par3 ?_ | refine XS.par ?_ | refine XS.retN ?_ | refine XS.next ?_) | (guard_target =~ XE _ _ _ _ _; first | refine XE.var rfl ?_ | refine XE.int ?_ | refine XE.bl ?_ | refine XE.str ?_ | refine XE.non ?_ | refine XE.ixO rfl ?_ | refine XE.lenO rfl ?_ | refine XE.op dr_I0 ?_ | refine XE.op dr_I ?_ | refine XE.op dr_ixL ?_ | refine XE.op dr_ixT ?_ | refine XE.op dr_eq ?_ | refine XE.op dr_ne ?_ | refine XE.op dr_eqD ?_ | refine XE.op dr_neD ?_ | refine XE.op dr_isN ?_ | refine XE.op dr_notN ?_ | refine XE.op dr_eqO ?_ | refine XE.op dr_neO ?_ | refine XE.unI ?_ | refine XE.tup ?_ | refine XE.ofN (XN.lst ?_) | refine XE.ofN (XN.op dn_cat ?_) | refine XE.ofN (XN.op dn_rep ?_) | refine XE.ofN (XN.sl ?_) | refine XE.ofN (XN.cb dn_listOf ?_) | refine XE.cb db_abs ?_ | refine XE.cb db_max2 ?_ | refine XE.len1 ?_ | refine XE.cb db_lenO ?_ | refine XE.cb db_int1 ?_ | refine XE.call ?_ | refine XE.callX0 ?_ | refine XE.callP rfl ?_ | refine XE.andV ?_ | refine XE.orV ?_ | refine XE.notV ?_ | refine XE.ifE ?_ | refine XE.make ?_ | refine XE.isC ?_ | refine XE.isTy ?_ | refine XE.fld hH.cls hH.poly ?_ | refine XE.fld hH.cls hH.rows ?_ | refine XE.fld hH.cls hH.ways ?_ | refine XE.fld hN.cls hN.home ?_ | refine XE.fld hN.cls hN.parts ?_ | refine XE.km rfl ?_ | refine XE.kmX0 rfl ?_ | refine XE.kc rfl ?_ | refine XE.kcX0 rfl ?_) | (guard_target =~ XN _ _ _ _ _; first | refine XN.lst ?_ | refine XN.op dn_cat ?_ | refine XN.op dn_rep ?_ | refine XN.sl ?_ | refine XN.cb dn_listOf ?_) | (guard_target =~ XA _ _ _ _ _; first | refine XA.nil ?_ | refine XA.cons ?_) | (guard_target =~ XT _ _ _ _ _; first | refine XT.test ?_ | refine XT.b ?_ | refine XT.not ?_ | refine XT.and ?_ | refine XT.or ?_ | refine XT.yes ?_) | (guard_target =~ XO _ _ _ _ _; first | refine XO.no ?_ | refine XO.yes ?_) | (guard_target =~ XGs _ _ _ _ _ _; first | refine XGs.cons ?_ | refine XGs.nil ?_) | (guard_target =~ XG _ _ _ _ _ _; first | refine XG.name rfl ?_ | refine XG.tupG rfl ?_ | refine XG.unlG rfl ?_) | refine go_len1 rfl ?_ | refine go_fld rfl ?_ | refine go_ins rfl rfl ?_ | refine go_kc rfl rfl ?_ | refine go_isC ?_ | refine go_isTy rfl (by first | exact kb_int_int | exact kb_int_bool | exact kb_bool_int | exact kb_bool_bool | exact kb_str_str | exact kb_list_list | exact kb_tuple_tuple | exact kb_tuple_list | exact kb_list_tuple | exact kb_NoneType_list | exact kb_NoneType_int | exact kb_str_int | exact kb_int_list | exact kb_int_tuple | exact kb_NoneType_tuple | exact kb_list_int | exact kb_tuple_int | exact kb_str_bool) ?_ | refine go_non ?_ | refine go_I0 ?_ | refine go_I ?_ ?_ | refine go_ix rfl ?_ | refine go_ixT rfl ?_ | refine go_eq rfl rfl rfl ?_ | refine go_ne rfl rfl rfl ?_ | refine go_len rfl ?_ | refine go_cat ?_ ?_ | refine go_rep ?_ ?_ ?_ ?_ | refine go_un ?_ | refine go_int ?_ | refine go_lst ?_ | refine go_tup ?_ | refine go_str ?_ | refine go_bl ?_ | refine go_ixO rfl ?_ | refine go_put rfl ?_ | refine go_ext ?_ ?_ | refine go_app ?_ ?_ | refine go_rg1 ?_ ?_ | refine go_rg2 ?_ ?_ | refine go_rg3 ?_ ?_ | refine go_enum ?_ | refine go_zipS ?_ ?_ | refine go_zip ?_))
    first | refine XE.newP ?_ | refine XE.new0 rfl (fun _ => .non) ?_ | refine XE.new0 rfl (fun _ => .str _) ?_ | (refine XE.newA rfl ?_)
    (repeat' (first | (guard_target =~ XS _ _ _ _ _; first | exact XS.next | refine XS.next ?_ | refine XS.seq ?_ | refine XS.set ?_ | refine XS.ret ?_ | refine XS.ite ?_ | refine XS.drop ?_ | refine XS.asg ?_ | refine XS.par3 ?_ | refine XS.par ?_ | refine XS.retN ?_ | refine XS.next ?_) | (guard_target =~ XE _ _ _ _ _; first | refine XE.var rfl ?_ | refine XE.int ?_ | refine XE.bl ?_ | refine XE.str ?_ | refine XE.non ?_ | refine XE.ixO rfl ?_ | refine XE.lenO rfl ?_ | refine XE.op dr_I0 ?_ | refine XE.op dr_I ?_ | refine XE.op dr_ixL ?_ | refine XE.op dr_ixT ?_ | refine XE.op dr_eq ?_ | refine XE.op dr_ne ?_ | refine XE.op dr_eqD ?_ | refine XE.op dr_neD ?_ | refine XE.op dr_isN ?_ | refine XE.op dr_notN ?_ | refine XE.op dr_eqO ?_ | refine XE.op dr_neO ?_ | refine XE.unI ?_ | refine XE.tup ?_ | refine XE.ofN (XN.lst ?_) | refine XE.ofN (XN.op dn_cat ?_) | refine XE.ofN (XN.op dn_rep ?_) | refine XE.ofN (XN.sl ?_) | refine XE.ofN (XN.cb dn_listOf ?_) | refine XE.cb db_abs ?_ | refine XE.cb db_max2 ?_ | refine XE.len1 ?_ | refine XE.cb db_lenO ?_ | refine XE.cb db_int1 ?_ | refine XE.call ?_ | refine XE.callX0 ?_ | refine XE.callP rfl ?_ | refine XE.andV ?_ | refine XE.orV ?_ | refine XE.notV ?_ | refine XE.ifE ?_ | refine XE.make ?_ | refine XE.isC ?_ | refine XE.isTy ?_ | refine XE.fld hH.cls hH.poly ?_ | refine XE.fld hH.cls hH.rows ?_ | refine XE.fld hH.cls hH.ways ?_ | refine XE.fld hN.cls hN.home ?_ | refine XE.fld hN.cls hN.parts ?_ | refine XE.km rfl ?_ | refine XE.kmX0 rfl ?_ | refine XE.kc rfl ?_ | refine XE.kcX0 rfl ?_) | (guard_target =~ XN _ _ _ _ _; first | refine XN.lst ?_ | refine XN.op dn_cat ?_ | refine XN.op dn_rep ?_ | refine XN.sl ?_ | refine XN.cb dn_listOf ?_) | (guard_target =~ XA _ _ _ _ _; first | refine XA.nil ?_ | refine XA.cons ?_) | (guard_target =~ XT _ _ _ _ _; first | refine XT.test ?_ | refine XT.b ?_ | refine XT.not ?_ | refine XT.and ?_ | refine XT.or ?_ | refine XT.yes ?_) | (guard_target =~ XO _ _ _ _ _; first | refine XO.no ?_ | refine XO.yes ?_) | (guard_target =~ XGs _ _ _ _ _ _; first | refine XGs.cons ?_ | refine XGs.nil ?_) | (guard_target =~ XG _ _ _ _ _ _; first | refine XG.name rfl ?_ | refine XG.tupG rfl ?_ | refine XG.unlG rfl ?_) | refine go_len1 rfl ?_ | refine go_fld rfl ?_ | refine go_ins rfl rfl ?_ | refine go_kc rfl rfl ?_ | refine go_isC ?_ | refine go_isTy rfl (by first | exact kb_int_int | exact kb_int_bool | exact kb_bool_int | exact kb_bool_bool | exact kb_str_str | exact kb_list_list | exact kb_tuple_tuple | exact kb_tuple_list | exact kb_list_tuple | exact kb_NoneType_list | exact kb_NoneType_int | exact kb_str_int | exact kb_int_list | exact kb_int_tuple | exact kb_NoneType_tuple | exact kb_list_int | exact kb_tuple_int | exact kb_str_bool) ?_ | refine go_non ?_ | refine go_I0 ?_ | refine go_I ?_ ?_ | refine go_ix rfl ?_ | refine go_ixT rfl ?_ | refine go_eq rfl rfl rfl ?_ | refine go_ne rfl rfl rfl ?_ | refine go_len rfl ?_ | refine go_cat ?_ ?_ | refine go_rep ?_ ?_ ?_ ?_ | refine go_un ?_ | refine go_int ?_ | refine go_lst ?_ | refine go_tup ?_ | refine go_str ?_ | refine go_bl ?_ | refine go_ixO rfl ?_ | refine go_put rfl ?_ | refine go_ext ?_ ?_ | refine go_app ?_ ?_ | refine go_rg1 ?_ ?_ | refine go_rg2 ?_ ?_ | refine go_rg3 ?_ ?_ | refine go_enum ?_ | refine go_zipS ?_ ?_ | refine go_zip ?_))
    first | refine XE.newP ?_ | refine XE.new0 rfl (fun _ => .non) ?_ | refine XE.new0 rfl (fun _ => .str _) ?_ | (refine XE.newA rfl ?_)
    (repeat' (first | (guard_target =~ XS _ _ _ _ _; first | exact XS.next | refine XS.next ?_ | refine XS.seq ?_ | refine XS.set ?_ | refine XS.ret ?_ | refine XS.ite ?_ | refine XS.drop ?_ | refine XS.asg ?_ | refine XS.par3 ?_ | refine XS.par ?_ | refine XS.retN ?_ | refine XS.next ?_) | (guard_target =~ XE _ _ _ _ _; first | refine XE.var rfl ?_ | refine XE.int ?_ | refine XE.bl ?_ | refine XE.str ?_ | refine XE.non ?_ | refine XE.ixO rfl ?_ | refine XE.lenO rfl ?_ | refine XE.op dr_I0 ?_ | refine XE.op dr_I ?_ | refine XE.op dr_ixL ?_ | refine XE.op dr_ixT ?_ | refine XE.op dr_eq ?_ | refine XE.op dr_ne ?_ | refine XE.op dr_eqD ?_ | refine XE.op dr_neD ?_ | refine XE.op dr_isN ?_ | refine XE.op dr_notN ?_ | refine XE.op dr_eqO ?_ | refine XE.op dr_neO ?_ | refine XE.unI ?_ | refine XE.tup ?_ | refine XE.ofN (XN.lst ?_) | refine XE.ofN (XN.op dn_cat ?_) | refine XE.ofN (XN.op dn_rep ?_) | refine XE.ofN (XN.sl ?_) | refine XE.ofN (XN.cb dn_listOf ?_) | refine XE.cb db_abs ?_ | refine XE.cb db_max2 ?_ | refine XE.len1 ?_ | refine XE.cb db_lenO ?_ | refine XE.cb db_int1 ?_ | refine XE.call ?_ | refine XE.callX0 ?_ | refine XE.callP rfl ?_ | refine XE.andV ?_ | refine XE.orV ?_ | refine XE.notV ?_ | refine XE.ifE ?_ | refine XE.make ?_ | refine XE.isC ?_ | refine XE.isTy ?_ | refine XE.fld hH.cls hH.poly ?_ | refine XE.fld hH.cls hH.rows ?_ | refine XE.fld hH.cls hH.ways ?_ | refine XE.fld hN.cls hN.home ?_ | refine XE.fld hN.cls hN.parts ?_ | refine XE.km rfl ?_ | refine XE.kmX0 rfl ?_ | refine XE.kc rfl ?_ | refine XE.kcX0 rfl ?_) | (guard_target =~ XN _ _ _ _ _; first | refine XN.lst ?_ | refine XN.op dn_cat ?_ | refine XN.op dn_rep ?_ | refine XN.sl ?_ | refine XN.cb dn_listOf ?_) | (guard_target =~ XA _ _ _ _ _; first | refine XA.nil ?_ | refine XA.cons ?_) | (guard_target =~ XT _ _ _ _ _; first | refine XT.test ?_ | refine XT.b ?_ | refine XT.not ?_ | refine XT.and ?_ | refine XT.or ?_ | refine XT.yes ?_) | (guard_target =~ XO _ _ _ _ _; first | refine XO.no ?_ | refine XO.yes ?_) | (guard_target =~ XGs _ _ _ _ _ _; first | refine XGs.cons ?_ | refine XGs.nil ?_) | (guard_target =~ XG _ _ _ _ _ _; first | refine XG.name rfl ?_ | refine XG.tupG rfl ?_ | refine XG.unlG rfl ?_) | refine go_len1 rfl ?_ | refine go_fld rfl ?_ | refine go_ins rfl rfl ?_ | refine go_kc rfl rfl ?_ | refine go_isC ?_ | refine go_isTy rfl (by first | exact kb_int_int | exact kb_int_bool | exact kb_bool_int | exact kb_bool_bool | exact kb_str_str | exact kb_list_list | exact kb_tuple_tuple | exact kb_tuple_list | exact kb_list_tuple | exact kb_NoneType_list | exact kb_NoneType_int | exact kb_str_int | exact kb_int_list | exact kb_int_tuple | exact kb_NoneType_tuple | exact kb_list_int | exact kb_tuple_int | exact kb_str_bool) ?_ | refine go_non ?_ | refine go_I0 ?_ | refine go_I ?_ ?_ | refine go_ix rfl ?_ | refine go_ixT rfl ?_ | refine go_eq rfl rfl rfl ?_ | refine go_ne rfl rfl rfl ?_ | refine go_len rfl ?_ | refine go_cat ?_ ?_ | refine go_rep ?_ ?_ ?_ ?_ | refine go_un ?_ | refine go_int ?_ | refine go_lst ?_ | refine go_tup ?_ | refine go_str ?_ | refine go_bl ?_ | refine go_ixO rfl ?_ | refine go_put rfl ?_ | refine go_ext ?_ ?_ | refine go_app ?_ ?_ | refine go_rg1 ?_ ?_ | refine go_rg2 ?_ ?_ | refine go_rg3 ?_ ?_ | refine go_enum ?_ | refine go_zipS ?_ ?_ | refine go_zip ?_))
    first | refine XE.newP ?_ | refine XE.new0 rfl (fun _ => .non) ?_ | refine XE.new0 rfl (fun _ => .str _) ?_ | (refine XE.newA rfl ?_)
    (repeat' (first | (guard_target =~ XS _ _ _ _ _; first | exact XS.next | refine XS.next ?_ | refine XS.seq ?_ | refine XS.set ?_ | refine XS.ret ?_ | refine XS.ite ?_ | refine XS.drop ?_ | refine XS.asg ?_ | refine XS.par3 ?_ | refine XS.par ?_ | refine XS.retN ?_ | refine XS.next ?_) | (guard_target =~ XE _ _ _ _ _; first | refine XE.var rfl ?_ | refine XE.int ?_ | refine XE.bl ?_ | refine XE.str ?_ | refine XE.non ?_ | refine XE.ixO rfl ?_ | refine XE.lenO rfl ?_ | refine XE.op dr_I0 ?_ | refine XE.op dr_I ?_ | refine XE.op dr_ixL ?_ | refine XE.op dr_ixT ?_ | refine XE.op dr_eq ?_ | refine XE.op dr_ne ?_ | refine XE.op dr_eqD ?_ | refine XE.op dr_neD ?_ | refine XE.op dr_isN ?_ | refine XE.op dr_notN ?_ | refine XE.op dr_eqO ?_ | refine XE.op dr_neO ?_ | refine XE.unI ?_ | refine XE.tup ?_ | refine XE.ofN (XN.lst ?_) | refine XE.ofN (XN.op dn_cat ?_) | refine XE.ofN (XN.op dn_rep ?_) | refine XE.ofN (XN.sl ?_) | refine XE.ofN (XN.cb dn_listOf ?_) | refine XE.cb db_abs ?_ | refine XE.cb db_max2 ?_ | refine XE.len1 ?_ | refine XE.cb db_lenO ?_ | refine XE.cb db_int1 ?_ | refine XE.call ?_ | refine XE.callX0 ?_ | refine XE.callP rfl ?_ | refine XE.andV ?_ | refine XE.orV ?_ | refine XE.notV ?_ | refine XE.ifE ?_ | refine XE.make ?_ | refine XE.isC ?_ | refine XE.isTy ?_ | refine XE.fld hH.cls hH.poly ?_ | refine XE.fld hH.cls hH.rows ?_ | refine XE.fld hH.cls hH.ways ?_ | refine XE.fld hN.cls hN.home ?_ | refine XE.fld hN.cls hN.parts ?_ | refine XE.km rfl ?_ | refine XE.kmX0 rfl ?_ | refine XE.kc rfl ?_ | refine XE.kcX0 rfl ?_) | (guard_target =~ XN _ _ _ _ _; first | refine XN.lst ?_ | refine XN.op dn_cat ?_ | refine XN.op dn_rep ?_ | refine XN.sl ?_ | refine XN.cb dn_listOf ?_) | (guard_target =~ XA _ _ _ _ _; first | refine XA.nil ?_ | refine XA.cons ?_) | (guard_target =~ XT _ _ _ _ _; first | refine XT.test ?_ | refine XT.b ?_ | refine XT.not ?_ | refine XT.and ?_ | refine XT.or ?_ | refine XT.yes ?_) | (guard_target =~ XO _ _ _ _ _; first | refine XO.no ?_ | refine XO.yes ?_) | (guard_target =~ XGs _ _ _ _ _ _; first | refine XGs.cons ?_ | refine XGs.nil ?_) | (guard_target =~ XG _ _ _ _ _ _; first | refine XG.name rfl ?_ | refine XG.tupG rfl ?_ | refine XG.unlG rfl ?_) | refine go_len1 rfl ?_ | refine go_fld rfl ?_ | refine go_ins rfl rfl ?_ | refine go_kc rfl rfl ?_ | refine go_isC ?_ | refine go_isTy rfl (by first | exact kb_int_int | exact kb_int_bool | exact kb_bool_int | exact kb_bool_bool | exact kb_str_str | exact kb_list_list | exact kb_tuple_tuple | exact kb_tuple_list | exact kb_list_tuple | exact kb_NoneType_list | exact kb_NoneType_int | exact kb_str_int | exact kb_int_list | exact kb_int_tuple | exact kb_NoneType_tuple | exact kb_list_int | exact kb_tuple_int | exact kb_str_bool) ?_ | refine go_non ?_ | refine go_I0 ?_ | refine go_I ?_ ?_ | refine go_ix rfl ?_ | refine go_ixT rfl ?_ | refine go_eq rfl rfl rfl ?_ | refine go_ne rfl rfl rfl ?_ | refine go_len rfl ?_ | refine go_cat ?_ ?_ | refine go_rep ?_ ?_ ?_ ?_ | refine go_un ?_ | refine go_int ?_ | refine go_lst ?_ | refine go_tup ?_ | refine go_str ?_ | refine go_bl ?_ | refine go_ixO rfl ?_ | refine go_put rfl ?_ | refine go_ext ?_ ?_ | refine go_app ?_ ?_ | refine go_rg1 ?_ ?_ | refine go_rg2 ?_ ?_ | refine go_rg3 ?_ ?_ | refine go_enum ?_ | refine go_zipS ?_ ?_ | refine go_zip ?_))
    first | refine XE.newP ?_ | refine XE.new0 rfl (fun _ => .non) ?_ | refine XE.new0 rfl (fun _ => .str _) ?_ | (refine XE.newA rfl ?_)
    (repeat' (first | (guard_target =~ XS _ _ _ _ _; first | exact XS.next | refine XS.next ?_ | refine XS.seq ?_ | refine XS.set ?_ | refine XS.ret ?_ | refine XS.ite ?_ | refine XS.drop ?_ | refine XS.asg ?_ | refine XS.par3 ?_ | refine XS.par ?_ | refine XS.retN ?_ | refine XS.next ?_) | (guard_target =~ XE _ _ _ _ _; first | refine XE.var rfl ?_ | refine XE.int ?_ | refine XE.bl ?_ | refine XE.str ?_ | refine XE.non ?_ | refine XE.ixO rfl ?_ | refine XE.lenO rfl ?_ | refine XE.op dr_I0 ?_ | refine XE.op dr_I ?_ | refine XE.op dr_ixL ?_ | refine XE.op dr_ixT ?_ | refine XE.op dr_eq ?_ | refine XE.op dr_ne ?_ | refine XE.op dr_eqD ?_ | refine XE.op dr_neD ?_ | refine XE.op dr_isN ?_ | refine XE.op dr_notN ?_ | refine XE.op dr_eqO ?_ | refine XE.op dr_neO ?_ | refine XE.unI ?_ | refine XE.tup ?_ | refine XE.ofN (XN.lst ?_) | refine XE.ofN (XN.op dn_cat ?_) | refine XE.ofN (XN.op dn_rep ?_) | refine XE.ofN (XN.sl ?_) | refine XE.ofN (XN.cb dn_listOf ?_) | refine XE.cb db_abs ?_ | refine XE.cb db_max2 ?_ | refine XE.len1 ?_ | refine XE.cb db_lenO ?_ | refine XE.cb db_int1 ?_ | refine XE.call ?_ | refine XE.callX0 ?_ | refine XE.callP rfl ?_ | refine XE.andV ?_ | refine XE.orV ?_ | refine XE.notV ?_ | refine XE.ifE ?_ | refine XE.make ?_ | refine XE.isC ?_ | refine XE.isTy ?_ | refine XE.fld hH.cls hH.poly ?_ | refine XE.fld hH.cls hH.rows ?_ | refine XE.fld hH.cls hH.ways ?_ | refine XE.fld hN.cls hN.home ?_ | refine XE.fld hN.cls hN.parts ?_ | refine XE.km rfl ?_ | refine XE.kmX0 rfl ?_ | refine XE.kc rfl ?_ | refine XE.kcX0 rfl ?_) | (guard_target =~ XN _ _ _ _ _; first | refine XN.lst ?_ | refine XN.op dn_cat ?_ | refine XN.op dn_rep ?_ | refine XN.sl ?_ | refine XN.cb dn_listOf ?_) | (guard_target =~ XA _ _ _ _ _; first | refine XA.nil ?_ | refine XA.cons ?_) | (guard_target =~ XT _ _ _ _ _; first | refine XT.test ?_ | refine XT.b ?_ | refine XT.not ?_ | refine XT.and ?_ | refine XT.or ?_ | refine XT.yes ?_) | (guard_target =~ XO _ _ _ _ _; first | refine XO.no ?_ | refine XO.yes ?_) | (guard_target =~ XGs _ _ _ _ _ _; first | refine XGs.cons ?_ | refine XGs.nil ?_) | (guard_target =~ XG _ _ _ _ _ _; first | refine XG.name rfl ?_ | refine XG.tupG rfl ?_ | refine XG.unlG rfl ?_) | refine go_len1 rfl ?_ | refine go_fld rfl ?_ | refine go_ins rfl rfl ?_ | refine go_kc rfl rfl ?_ | refine go_isC ?_ | refine go_isTy rfl (by first | exact kb_int_int | exact kb_int_bool | exact kb_bool_int | exact kb_bool_bool | exact kb_str_str | exact kb_list_list | exact kb_tuple_tuple | exact kb_tuple_list | exact kb_list_tuple | exact kb_NoneType_list | exact kb_NoneType_int | exact kb_str_int | exact kb_int_list | exact kb_int_tuple | exact kb_NoneType_tuple | exact kb_list_int | exact kb_tuple_int | exact kb_str_bool) ?_ | refine go_non ?_ | refine go_I0 ?_ | refine go_I ?_ ?_ | refine go_ix rfl ?_ | refine go_ixT rfl ?_ | refine go_eq rfl rfl rfl ?_ | refine go_ne rfl rfl rfl ?_ | refine go_len rfl ?_ | refine go_cat ?_ ?_ | refine go_rep ?_ ?_ ?_ ?_ | refine go_un ?_ | refine go_int ?_ | refine go_lst ?_ | refine go_tup ?_ | refine go_str ?_ | refine go_bl ?_ | refine go_ixO rfl ?_ | refine go_put rfl ?_ | refine go_ext ?_ ?_ | refine go_app ?_ ?_ | refine go_rg1 ?_ ?_ | refine go_rg2 ?_ ?_ | refine go_rg3 ?_ ?_ | refine go_enum ?_ | refine go_zipS ?_ ?_ | refine go_zip ?_))
    · exact Nat.le_of_ble_eq_true rfl
    refine ⟨(rowD_ok : RowE c (rowD c .non .non (.str "") (.str ""))), ?_⟩
    (repeat' (first | (guard_target =~ XS _ _ _ _ _; first | exact XS.next | refine XS.next ?_ | refine XS.seq ?_ | refine XS.set ?_ | refine XS.ret ?_ | refine XS.ite ?_ | refine XS.drop ?_ | refine XS.asg ?_ | refine XS.par3 ?_ | refine XS.par ?_ | refine XS.retN ?_ | refine XS.next ?_) | (guard_target =~ XE _ _ _ _ _; first | refine XE.var rfl ?_ | refine XE.int ?_ | refine XE.bl ?_ | refine XE.str ?_ | refine XE.non ?_ | refine XE.ixO rfl ?_ | refine XE.lenO rfl ?_ | refine XE.op dr_I0 ?_ | refine XE.op dr_I ?_ | refine XE.op dr_ixL ?_ | refine XE.op dr_ixT ?_ | refine XE.op dr_eq ?_ | refine XE.op dr_ne ?_ | refine XE.op dr_eqD ?_ | refine XE.op dr_neD ?_ | refine XE.op dr_isN ?_ | refine XE.op dr_notN ?_ | refine XE.op dr_eqO ?_ | refine XE.op dr_neO ?_ | refine XE.unI ?_ | refine XE.tup ?_ | refine XE.ofN (XN.lst ?_) | refine XE.ofN (XN.op dn_cat ?_) | refine XE.ofN (XN.op dn_rep ?_) | refine XE.ofN (XN.sl ?_) | refine XE.ofN (XN.cb dn_listOf ?_) | refine XE.cb db_abs ?_ | refine XE.cb db_max2 ?_ | refine XE.len1 ?_ | refine XE.cb db_lenO ?_ | refine XE.cb db_int1 ?_ | refine XE.call ?_ | refine XE.callX0 ?_ | refine XE.callP rfl ?_ | refine XE.andV ?_ | refine XE.orV ?_ | refine XE.notV ?_ | refine XE.ifE ?_ | refine XE.make ?_ | refine XE.isC ?_ | refine XE.isTy ?_ | refine XE.fld hH.cls hH.poly ?_ | refine XE.fld hH.cls hH.rows ?_ | refine XE.fld hH.cls hH.ways ?_ | refine XE.fld hN.cls hN.home ?_ | refine XE.fld hN.cls hN.parts ?_ | refine XE.km rfl ?_ | refine XE.kmX0 rfl ?_ | refine XE.kc rfl ?_ | refine XE.kcX0 rfl ?_) | (guard_target =~ XN _ _ _ _ _; first | refine XN.lst ?_ | refine XN.op dn_cat ?_ | refine XN.op dn_rep ?_ | refine XN.sl ?_ | refine XN.cb dn_listOf ?_) | (guard_target =~ XA _ _ _ _ _; first | refine XA.nil ?_ | refine XA.cons ?_) | (guard_target =~ XT _ _ _ _ _; first | refine XT.test ?_ | refine XT.b ?_ | refine XT.not ?_ | refine XT.and ?_ | refine XT.or ?_ | refine XT.yes ?_) | (guard_target =~ XO _ _ _ _ _; first | refine XO.no ?_ | refine XO.yes ?_) | (guard_target =~ XGs _ _ _ _ _ _; first | refine XGs.cons ?_ | refine XGs.nil ?_) | (guard_target =~ XG _ _ _ _ _ _; first | refine XG.name rfl ?_ | refine XG.tupG rfl ?_ | refine XG.unlG rfl ?_) | refine go_len1 rfl ?_ | refine go_fld rfl ?_ | refine go_ins rfl rfl ?_ | refine go_kc rfl rfl ?_ | refine go_isC ?_ | refine go_isTy rfl (by first | exact kb_int_int | exact kb_int_bool | exact kb_bool_int | exact kb_bool_bool | exact kb_str_str | exact kb_list_list | exact kb_tuple_tuple | exact kb_tuple_list | exact kb_list_tuple | exact kb_NoneType_list | exact kb_NoneType_int | exact kb_str_int | exact kb_int_list | exact kb_int_tuple | exact kb_NoneType_tuple | exact kb_list_int | exact kb_tuple_int | exact kb_str_bool) ?_ | refine go_non ?_ | refine go_I0 ?_ | refine go_I ?_ ?_ | refine go_ix rfl ?_ | refine go_ixT rfl ?_ | refine go_eq rfl rfl rfl ?_ | refine go_ne rfl rfl rfl ?_ | refine go_len rfl ?_ | refine go_cat ?_ ?_ | refine go_rep ?_ ?_ ?_ ?_ | refine go_un ?_ | refine go_int ?_ | refine go_lst ?_ | refine go_tup ?_ | refine go_str ?_ | refine go_bl ?_ | refine go_ixO rfl ?_ | refine go_put rfl ?_ | refine go_ext ?_ ?_ | refine go_app ?_ ?_ | refine go_rg1 ?_ ?_ | refine go_rg2 ?_ ?_ | refine go_rg3 ?_ ?_ | refine go_enum ?_ | refine go_zipS ?_ ?_ | refine go_zip ?_))
    refine XE.kf ?_
    (repeat' (first | (guard_target =~ XS _ _ _ _ _; first | exact XS.next | refine XS.next ?_ | refine XS.seq ?_ | refine XS.set ?_ | refine XS.ret ?_ | refine XS.ite ?_ | refine XS.drop ?_ | refine XS.asg ?_ | refine XS.par3 ?_ | refine XS.par ?_ | refine XS.retN ?_ | refine XS.next ?_) | (guard_target =~ XE _ _ _ _ _; first | refine XE.var rfl ?_ | refine XE.int ?_ | refine XE.bl ?_ | refine XE.str ?_ | refine XE.non ?_ | refine XE.ixO rfl ?_ | refine XE.lenO rfl ?_ | refine XE.op dr_I0 ?_ | refine XE.op dr_I ?_ | refine XE.op dr_ixL ?_ | refine XE.op dr_ixT ?_ | refine XE.op dr_eq ?_ | refine XE.op dr_ne ?_ | refine XE.op dr_eqD ?_ | refine XE.op dr_neD ?_ | refine XE.op dr_isN ?_ | refine XE.op dr_notN ?_ | refine XE.op dr_eqO ?_ | refine XE.op dr_neO ?_ | refine XE.unI ?_ | refine XE.tup ?_ | refine XE.ofN (XN.lst ?_) | refine XE.ofN (XN.op dn_cat ?_) | refine XE.ofN (XN.op dn_rep ?_) | refine XE.ofN (XN.sl ?_) | refine XE.ofN (XN.cb dn_listOf ?_) | refine XE.cb db_abs ?_ | refine XE.cb db_max2 ?_ | refine XE.len1 ?_ | refine XE.cb db_lenO ?_ | refine XE.cb db_int1 ?_ | refine XE.call ?_ | refine XE.callX0 ?_ | refine XE.callP rfl ?_ | refine XE.andV ?_ | refine XE.orV ?_ | refine XE.notV ?_ | refine XE.ifE ?_ | refine XE.make ?_ | refine XE.isC ?_ | refine XE.isTy ?_ | refine XE.fld hH.cls hH.poly ?_ | refine XE.fld hH.cls hH.rows ?_ | refine XE.fld hH.cls hH.ways ?_ | refine XE.fld hN.cls hN.home ?_ | refine XE.fld hN.cls hN.parts ?_ | refine XE.km rfl ?_ | refine XE.kmX0 rfl ?_ | refine XE.kc rfl ?_ | refine XE.kcX0 rfl ?_) | (guard_target =~ XN _ _ _ _ _; first | refine XN.lst ?_ | refine XN.op dn_cat ?_ | refine XN.op dn_rep ?_ | refine XN.sl ?_ | refine XN.cb dn_listOf ?_) | (guard_target =~ XA _ _ _ _ _; first | refine XA.nil ?_ | refine XA.cons ?_) | (guard_target =~ XT _ _ _ _ _; first | refine XT.test ?_ | refine XT.b ?_ | refine XT.not ?_ | refine XT.and ?_ | refine XT.or ?_ | refine XT.yes ?_) | (guard_target =~ XO _ _ _ _ _; first | refine XO.no ?_ | refine XO.yes ?_) | (guard_target =~ XGs _ _ _ _ _ _; first | refine XGs.cons ?_ | refine XGs.nil ?_) | (guard_target =~ XG _ _ _ _ _ _; first | refine XG.name rfl ?_ | refine XG.tupG rfl ?_ | refine XG.unlG rfl ?_) | refine go_len1 rfl ?_ | refine go_fld rfl ?_ | refine go_ins rfl rfl ?_ | refine go_kc rfl rfl ?_ | refine go_isC ?_ | refine go_isTy rfl (by first | exact kb_int_int | exact kb_int_bool | exact kb_bool_int | exact kb_bool_bool | exact kb_str_str | exact kb_list_list | exact kb_tuple_tuple | exact kb_tuple_list | exact kb_list_tuple | exact kb_NoneType_list | exact kb_NoneType_int | exact kb_str_int | exact kb_int_list | exact kb_int_tuple | exact kb_NoneType_tuple | exact kb_list_int | exact kb_tuple_int | exact kb_str_bool) ?_ | refine go_non ?_ | refine go_I0 ?_ | refine go_I ?_ ?_ | refine go_ix rfl ?_ | refine go_ixT rfl ?_ | refine go_eq rfl rfl rfl ?_ | refine go_ne rfl rfl rfl ?_ | refine go_len rfl ?_ | refine go_cat ?_ ?_ | refine go_rep ?_ ?_ ?_ ?_ | refine go_un ?_ | refine go_int ?_ | refine go_lst ?_ | refine go_tup ?_ | refine go_str ?_ | refine go_bl ?_ | refine go_ixO rfl ?_ | refine go_put rfl ?_ | refine go_ext ?_ ?_ | refine go_app ?_ ?_ | refine go_rg1 ?_ ?_ | refine go_rg2 ?_ ?_ | refine go_rg3 ?_ ?_ | refine go_enum ?_ | refine go_zipS ?_ ?_ | refine go_zip ?_))
    refine ⟨_, _, _, rfl, ko.ex 0 (by decide), PK.n_at, rfl, ?_⟩
    (repeat' (first | (guard_target =~ XS _ _ _ _ _; first | exact XS.next | refine XS.next ?_ | refine XS.seq ?_ | refine XS.set ?_ | refine XS.ret ?_ | refine XS.ite ?_ | refine XS.drop ?_ | refine XS.asg ?_ | refine XS.par3 ?_ | refine XS.par ?_ | refine XS.retN ?_ | refine XS.next ?_) | (guard_target =~ XE _ _ _ _ _; first | refine XE.var rfl ?_ | refine XE.int ?_ | refine XE.bl ?_ | refine XE.str ?_ | refine XE.non ?_ | refine XE.ixO rfl ?_ | refine XE.lenO rfl ?_ | refine XE.op dr_I0 ?_ | refine XE.op dr_I ?_ | refine XE.op dr_ixL ?_ | refine XE.op dr_ixT ?_ | refine XE.op dr_eq ?_ | refine XE.op dr_ne ?_ | refine XE.op dr_eqD ?_ | refine XE.op dr_neD ?_ | refine XE.op dr_isN ?_ | refine XE.op dr_notN ?_ | refine XE.op dr_eqO ?_ | refine XE.op dr_neO ?_ | refine XE.unI ?_ | refine XE.tup ?_ | refine XE.ofN (XN.lst ?_) | refine XE.ofN (XN.op dn_cat ?_) | refine XE.ofN (XN.op dn_rep ?_) | refine XE.ofN (XN.sl ?_) | refine XE.ofN (XN.cb dn_listOf ?_) | refine XE.cb db_abs ?_ | refine XE.cb db_max2 ?_ | refine XE.len1 ?_ | refine XE.cb db_lenO ?_ | refine XE.cb db_int1 ?_ | refine XE.call ?_ | refine XE.callX0 ?_ | refine XE.callP rfl ?_ | refine XE.andV ?_ | refine XE.orV ?_ | refine XE.notV ?_ | refine XE.ifE ?_ | refine XE.make ?_ | refine XE.isC ?_ | refine XE.isTy ?_ | refine XE.fld hH.cls hH.poly ?_ | refine XE.fld hH.cls hH.rows ?_ | refine XE.fld hH.cls hH.ways ?_ | refine XE.fld hN.cls hN.home ?_ | refine XE.fld hN.cls hN.parts ?_ | refine XE.km rfl ?_ | refine XE.kmX0 rfl ?_ | refine XE.kc rfl ?_ | refine XE.kcX0 rfl ?_) | (guard_target =~ XN _ _ _ _ _; first | refine XN.lst ?_ | refine XN.op dn_cat ?_ | refine XN.op dn_rep ?_ | refine XN.sl ?_ | refine XN.cb dn_listOf ?_) | (guard_target =~ XA _ _ _ _ _; first | refine XA.nil ?_ | refine XA.cons ?_) | (guard_target =~ XT _ _ _ _ _; first | refine XT.test ?_ | refine XT.b ?_ | refine XT.not ?_ | refine XT.and ?_ | refine XT.or ?_ | refine XT.yes ?_) | (guard_target =~ XO _ _ _ _ _; first | refine XO.no ?_ | refine XO.yes ?_) | (guard_target =~ XGs _ _ _ _ _ _; first | refine XGs.cons ?_ | refine XGs.nil ?_) | (guard_target =~ XG _ _ _ _ _ _; first | refine XG.name rfl ?_ | refine XG.tupG rfl ?_ | refine XG.unlG rfl ?_) | refine go_len1 rfl ?_ | refine go_fld rfl ?_ | refine go_ins rfl rfl ?_ | refine go_kc rfl rfl ?_ | refine go_isC ?_ | refine go_isTy rfl (by first | exact kb_int_int | exact kb_int_bool | exact kb_bool_int | exact kb_bool_bool | exact kb_str_str | exact kb_list_list | exact kb_tuple_tuple | exact kb_tuple_list | exact kb_list_tuple | exact kb_NoneType_list | exact kb_NoneType_int | exact kb_str_int | exact kb_int_list | exact kb_int_tuple | exact kb_NoneType_tuple | exact kb_list_int | exact kb_tuple_int | exact kb_str_bool) ?_ | refine go_non ?_ | refine go_I0 ?_ | refine go_I ?_ ?_ | refine go_ix rfl ?_ | refine go_ixT rfl ?_ | refine go_eq rfl rfl rfl ?_ | refine go_ne rfl rfl rfl ?_ | refine go_len rfl ?_ | refine go_cat ?_ ?_ | refine go_rep ?_ ?_ ?_ ?_ | refine go_un ?_ | refine go_int ?_ | refine go_lst ?_ | refine go_tup ?_ | refine go_str ?_ | refine go_bl ?_ | refine go_ixO rfl ?_ | refine go_put rfl ?_ | refine go_ext ?_ ?_ | refine go_app ?_ ?_ | refine go_rg1 ?_ ?_ | refine go_rg2 ?_ ?_ | refine go_rg3 ?_ ?_ | refine go_enum ?_ | refine go_zipS ?_ ?_ | refine go_zip ?_))
    refine XE.kf ?_
    (repeat' (first | (guard_target =~ XS _ _ _ _ _; first | exact XS.next | refine XS.next ?_ | refine XS.seq ?_ | refine XS.set ?_ | refine XS.ret ?_ | refine XS.ite ?_ | refine XS.drop ?_ | refine XS.asg ?_ | refine XS.par3 ?_ | refine XS.par ?_ | refine XS.retN ?_ | refine XS.next ?_) | (guard_target =~ XE _ _ _ _ _; first | refine XE.var rfl ?_ | refine XE.int ?_ | refine XE.bl ?_ | refine XE.str ?_ | refine XE.non ?_ | refine XE.ixO rfl ?_ | refine XE.lenO rfl ?_ | refine XE.op dr_I0 ?_ | refine XE.op dr_I ?_ | refine XE.op dr_ixL ?_ | refine XE.op dr_ixT ?_ | refine XE.op dr_eq ?_ | refine XE.op dr_ne ?_ | refine XE.op dr_eqD ?_ | refine XE.op dr_neD ?_ | refine XE.op dr_isN ?_ | refine XE.op dr_notN ?_ | refine XE.op dr_eqO ?_ | refine XE.op dr_neO ?_ | refine XE.unI ?_ | refine XE.tup ?_ | refine XE.ofN (XN.lst ?_) | refine XE.ofN (XN.op dn_cat ?_) | refine XE.ofN (XN.op dn_rep ?_) | refine XE.ofN (XN.sl ?_) | refine XE.ofN (XN.cb dn_listOf ?_) | refine XE.cb db_abs ?_ | refine XE.cb db_max2 ?_ | refine XE.len1 ?_ | refine XE.cb db_lenO ?_ | refine XE.cb db_int1 ?_ | refine XE.call ?_ | refine XE.callX0 ?_ | refine XE.callP rfl ?_ | refine XE.andV ?_ | refine XE.orV ?_ | refine XE.notV ?_ | refine XE.ifE ?_ | refine XE.make ?_ | refine XE.isC ?_ | refine XE.isTy ?_ | refine XE.fld hH.cls hH.poly ?_ | refine XE.fld hH.cls hH.rows ?_ | refine XE.fld hH.cls hH.ways ?_ | refine XE.fld hN.cls hN.home ?_ | refine XE.fld hN.cls hN.parts ?_ | refine XE.km rfl ?_ | refine XE.kmX0 rfl ?_ | refine XE.kc rfl ?_ | refine XE.kcX0 rfl ?_) | (guard_target =~ XN _ _ _ _ _; first | refine XN.lst ?_ | refine XN.op dn_cat ?_ | refine XN.op dn_rep ?_ | refine XN.sl ?_ | refine XN.cb dn_listOf ?_) | (guard_target =~ XA _ _ _ _ _; first | refine XA.nil ?_ | refine XA.cons ?_) | (guard_target =~ XT _ _ _ _ _; first | refine XT.test ?_ | refine XT.b ?_ | refine XT.not ?_ | refine XT.and ?_ | refine XT.or ?_ | refine XT.yes ?_) | (guard_target =~ XO _ _ _ _ _; first | refine XO.no ?_ | refine XO.yes ?_) | (guard_target =~ XGs _ _ _ _ _ _; first | refine XGs.cons ?_ | refine XGs.nil ?_) | (guard_target =~ XG _ _ _ _ _ _; first | refine XG.name rfl ?_ | refine XG.tupG rfl ?_ | refine XG.unlG rfl ?_) | refine go_len1 rfl ?_ | refine go_fld rfl ?_ | refine go_ins rfl rfl ?_ | refine go_kc rfl rfl ?_ | refine go_isC ?_ | refine go_isTy rfl (by first | exact kb_int_int | exact kb_int_bool | exact kb_bool_int | exact kb_bool_bool | exact kb_str_str | exact kb_list_list | exact kb_tuple_tuple | exact kb_tuple_list | exact kb_list_tuple | exact kb_NoneType_list | exact kb_NoneType_int | exact kb_str_int | exact kb_int_list | exact kb_int_tuple | exact kb_NoneType_tuple | exact kb_list_int | exact kb_tuple_int | exact kb_str_bool) ?_ | refine go_non ?_ | refine go_I0 ?_ | refine go_I ?_ ?_ | refine go_ix rfl ?_ | refine go_ixT rfl ?_ | refine go_eq rfl rfl rfl ?_ | refine go_ne rfl rfl rfl ?_ | refine go_len rfl ?_ | refine go_cat ?_ ?_ | refine go_rep ?_ ?_ ?_ ?_ | refine go_un ?_ | refine go_int ?_ | refine go_lst ?_ | refine go_tup ?_ | refine go_str ?_ | refine go_bl ?_ | refine go_ixO rfl ?_ | refine go_put rfl ?_ | refine go_ext ?_ ?_ | refine go_app ?_ ?_ | refine go_rg1 ?_ ?_ | refine go_rg2 ?_ ?_ | refine go_rg3 ?_ ?_ | refine go_enum ?_ | refine go_zipS ?_ ?_ | refine go_zip ?_))
    refine ⟨_, _, _, rfl, ko.ex 1 (by decide), PK.n_move, rfl, ?_⟩
    (repeat' (first | (guard_target =~ XS _ _ _ _ _; first | exact XS.next | refine XS.next ?_ | refine XS.seq ?_ | refine XS.set ?_ | refine XS.ret ?_ | refine XS.ite ?_ | refine XS.drop ?_ | refine XS.asg ?_ | refine XS.par3 ?_ | refine XS.par ?_ | refine XS.retN ?_ | refine XS.next ?_) | (guard_target =~ XE _ _ _ _ _; first | refine XE.var rfl ?_ | refine XE.int ?_ | refine XE.bl ?_ | refine XE.str ?_ | refine XE.non ?_ | refine XE.ixO rfl ?_ | refine XE.lenO rfl ?_ | refine XE.op dr_I0 ?_ | refine XE.op dr_I ?_ | refine XE.op dr_ixL ?_ | refine XE.op dr_ixT ?_ | refine XE.op dr_eq ?_ | refine XE.op dr_ne ?_ | refine XE.op dr_eqD ?_ | refine XE.op dr_neD ?_ | refine XE.op dr_isN ?_ | refine XE.op dr_notN ?_ | refine XE.op dr_eqO ?_ | refine XE.op dr_neO ?_ | refine XE.unI ?_ | refine XE.tup ?_ | refine XE.ofN (XN.lst ?_) | refine XE.ofN (XN.op dn_cat ?_) | refine XE.ofN (XN.op dn_rep ?_) | refine XE.ofN (XN.sl ?_) | refine XE.ofN (XN.cb dn_listOf ?_) | refine XE.cb db_abs ?_ | refine XE.cb db_max2 ?_ | refine XE.len1 ?_ | refine XE.cb db_lenO ?_ | refine XE.cb db_int1 ?_ | refine XE.call ?_ | refine XE.callX0 ?_ | refine XE.callP rfl ?_ | refine XE.andV ?_ | refine XE.orV ?_ | refine XE.notV ?_ | refine XE.ifE ?_ | refine XE.make ?_ | refine XE.isC ?_ | refine XE.isTy ?_ | refine XE.fld hH.cls hH.poly ?_ | refine XE.fld hH.cls hH.rows ?_ | refine XE.fld hH.cls hH.ways ?_ | refine XE.fld hN.cls hN.home ?_ | refine XE.fld hN.cls hN.parts ?_ | refine XE.km rfl ?_ | refine XE.kmX0 rfl ?_ | refine XE.kc rfl ?_ | refine XE.kcX0 rfl ?_) | (guard_target =~ XN _ _ _ _ _; first | refine XN.lst ?_ | refine XN.op dn_cat ?_ | refine XN.op dn_rep ?_ | refine XN.sl ?_ | refine XN.cb dn_listOf ?_) | (guard_target =~ XA _ _ _ _ _; first | refine XA.nil ?_ | refine XA.cons ?_) | (guard_target =~ XT _ _ _ _ _; first | refine XT.test ?_ | refine XT.b ?_ | refine XT.not ?_ | refine XT.and ?_ | refine XT.or ?_ | refine XT.yes ?_) | (guard_target =~ XO _ _ _ _ _; first | refine XO.no ?_ | refine XO.yes ?_) | (guard_target =~ XGs _ _ _ _ _ _; first | refine XGs.cons ?_ | refine XGs.nil ?_) | (guard_target =~ XG _ _ _ _ _ _; first | refine XG.name rfl ?_ | refine XG.tupG rfl ?_ | refine XG.unlG rfl ?_) | refine go_len1 rfl ?_ | refine go_fld rfl ?_ | refine go_ins rfl rfl ?_ | refine go_kc rfl rfl ?_ | refine go_isC ?_ | refine go_isTy rfl (by first | exact kb_int_int | exact kb_int_bool | exact kb_bool_int | exact kb_bool_bool | exact kb_str_str | exact kb_list_list | exact kb_tuple_tuple | exact kb_tuple_list | exact kb_list_tuple | exact kb_NoneType_list | exact kb_NoneType_int | exact kb_str_int | exact kb_int_list | exact kb_int_tuple | exact kb_NoneType_tuple | exact kb_list_int | exact kb_tuple_int | exact kb_str_bool) ?_ | refine go_non ?_ | refine go_I0 ?_ | refine go_I ?_ ?_ | refine go_ix rfl ?_ | refine go_ixT rfl ?_ | refine go_eq rfl rfl rfl ?_ | refine go_ne rfl rfl rfl ?_ | refine go_len rfl ?_ | refine go_cat ?_ ?_ | refine go_rep ?_ ?_ ?_ ?_ | refine go_un ?_ | refine go_int ?_ | refine go_lst ?_ | refine go_tup ?_ | refine go_str ?_ | refine go_bl ?_ | refine go_ixO rfl ?_ | refine go_put rfl ?_ | refine go_ext ?_ ?_ | refine go_app ?_ ?_ | refine go_rg1 ?_ ?_ | refine go_rg2 ?_ ?_ | refine go_rg3 ?_ ?_ | refine go_enum ?_ | refine go_zipS ?_ ?_ | refine go_zip ?_))
    refine XE.kf ?_
    (repeat' (first | (guard_target =~ XS _ _ _ _ _; first | exact XS.next | refine XS.next ?_ | refine XS.seq ?_ | refine XS.set ?_ | refine XS.ret ?_ | refine XS.ite ?_ | refine XS.drop ?_ | refine XS.asg ?_ | refine XS.par3 ?_ | refine XS.par ?_ | refine XS.retN ?_ | refine XS.next ?_) | (guard_target =~ XE _ _ _ _ _; first | refine XE.var rfl ?_ | refine XE.int ?_ | refine XE.bl ?_ | refine XE.str ?_ | refine XE.non ?_ | refine XE.ixO rfl ?_ | refine XE.lenO rfl ?_ | refine XE.op dr_I0 ?_ | refine XE.op dr_I ?_ | refine XE.op dr_ixL ?_ | refine XE.op dr_ixT ?_ | refine XE.op dr_eq ?_ | refine XE.op dr_ne ?_ | refine XE.op dr_eqD ?_ | refine XE.op dr_neD ?_ | refine XE.op dr_isN ?_ | refine XE.op dr_notN ?_ | refine XE.op dr_eqO ?_ | refine XE.op dr_neO ?_ | refine XE.unI ?_ | refine XE.tup ?_ | refine XE.ofN (XN.lst ?_) | refine XE.ofN (XN.op dn_cat ?_) | refine XE.ofN (XN.op dn_rep ?_) | refine XE.ofN (XN.sl ?_) | refine XE.ofN (XN.cb dn_listOf ?_) | refine XE.cb db_abs ?_ | refine XE.cb db_max2 ?_ | refine XE.len1 ?_ | refine XE.cb db_lenO ?_ | refine XE.cb db_int1 ?_ | refine XE.call ?_ | refine XE.callX0 ?_ | refine XE.callP rfl ?_ | refine XE.andV ?_ | refine XE.orV ?_ | refine XE.notV ?_ | refine XE.ifE ?_ | refine XE.make ?_ | refine XE.isC ?_ | refine XE.isTy ?_ | refine XE.fld hH.cls hH.poly ?_ | refine XE.fld hH.cls hH.rows ?_ | refine XE.fld hH.cls hH.ways ?_ | refine XE.fld hN.cls hN.home ?_ | refine XE.fld hN.cls hN.parts ?_ | refine XE.km rfl ?_ | refine XE.kmX0 rfl ?_ | refine XE.kc rfl ?_ | refine XE.kcX0 rfl ?_) | (guard_target =~ XN _ _ _ _ _; first | refine XN.lst ?_ | refine XN.op dn_cat ?_ | refine XN.op dn_rep ?_ | refine XN.sl ?_ | refine XN.cb dn_listOf ?_) | (guard_target =~ XA _ _ _ _ _; first | refine XA.nil ?_ | refine XA.cons ?_) | (guard_target =~ XT _ _ _ _ _; first | refine XT.test ?_ | refine XT.b ?_ | refine XT.not ?_ | refine XT.and ?_ | refine XT.or ?_ | refine XT.yes ?_) | (guard_target =~ XO _ _ _ _ _; first | refine XO.no ?_ | refine XO.yes ?_) | (guard_target =~ XGs _ _ _ _ _ _; first | refine XGs.cons ?_ | refine XGs.nil ?_) | (guard_target =~ XG _ _ _ _ _ _; first | refine XG.name rfl ?_ | refine XG.tupG rfl ?_ | refine XG.unlG rfl ?_) | refine go_len1 rfl ?_ | refine go_fld rfl ?_ | refine go_ins rfl rfl ?_ | refine go_kc rfl rfl ?_ | refine go_isC ?_ | refine go_isTy rfl (by first | exact kb_int_int | exact kb_int_bool | exact kb_bool_int | exact kb_bool_bool | exact kb_str_str | exact kb_list_list | exact kb_tuple_tuple | exact kb_tuple_list | exact kb_list_tuple | exact kb_NoneType_list | exact kb_NoneType_int | exact kb_str_int | exact kb_int_list | exact kb_int_tuple | exact kb_NoneType_tuple | exact kb_list_int | exact kb_tuple_int | exact kb_str_bool) ?_ | refine go_non ?_ | refine go_I0 ?_ | refine go_I ?_ ?_ | refine go_ix rfl ?_ | refine go_ixT rfl ?_ | refine go_eq rfl rfl rfl ?_ | refine go_ne rfl rfl rfl ?_ | refine go_len rfl ?_ | refine go_cat ?_ ?_ | refine go_rep ?_ ?_ ?_ ?_ | refine go_un ?_ | refine go_int ?_ | refine go_lst ?_ | refine go_tup ?_ | refine go_str ?_ | refine go_bl ?_ | refine go_ixO rfl ?_ | refine go_put rfl ?_ | refine go_ext ?_ ?_ | refine go_app ?_ ?_ | refine go_rg1 ?_ ?_ | refine go_rg2 ?_ ?_ | refine go_rg3 ?_ ?_ | refine go_enum ?_ | refine go_zipS ?_ ?_ | refine go_zip ?_))
    refine ⟨_, _, _, rfl, ko.ex 11 (by decide), PK.n_name, rfl, ?_⟩
    (repeat' (first | (guard_target =~ XS _ _ _ _ _; first | exact XS.next | refine XS.next ?_ | refine XS.seq ?_ | refine XS.set ?_ | refine XS.ret ?_ | refine XS.ite ?_ | refine XS.drop ?_ | refine XS.asg ?_ | refine XS.par3 ?_ | refine XS.par ?_ | refine XS.retN ?_ | refine XS.next ?_) | (guard_target =~ XE _ _ _ _ _; first | refine XE.var rfl ?_ | refine XE.int ?_ | refine XE.bl ?_ | refine XE.str ?_ | refine XE.non ?_ | refine XE.ixO rfl ?_ | refine XE.lenO rfl ?_ | refine XE.op dr_I0 ?_ | refine XE.op dr_I ?_ | refine XE.op dr_ixL ?_ | refine XE.op dr_ixT ?_ | refine XE.op dr_eq ?_ | refine XE.op dr_ne ?_ | refine XE.op dr_eqD ?_ | refine XE.op dr_neD ?_ | refine XE.op dr_isN ?_ | refine XE.op dr_notN ?_ | refine XE.op dr_eqO ?_ | refine XE.op dr_neO ?_ | refine XE.unI ?_ | refine XE.tup ?_ | refine XE.ofN (XN.lst ?_) | refine XE.ofN (XN.op dn_cat ?_) | refine XE.ofN (XN.op dn_rep ?_) | refine XE.ofN (XN.sl ?_) | refine XE.ofN (XN.cb dn_listOf ?_) | refine XE.cb db_abs ?_ | refine XE.cb db_max2 ?_ | refine XE.len1 ?_ | refine XE.cb db_lenO ?_ | refine XE.cb db_int1 ?_ | refine XE.call ?_ | refine XE.callX0 ?_ | refine XE.callP rfl ?_ | refine XE.andV ?_ | refine XE.orV ?_ | refine XE.notV ?_ | refine XE.ifE ?_ | refine XE.make ?_ | refine XE.isC ?_ | refine XE.isTy ?_ | refine XE.fld hH.cls hH.poly ?_ | refine XE.fld hH.cls hH.rows ?_ | refine XE.fld hH.cls hH.ways ?_ | refine XE.fld hN.cls hN.home ?_ | refine XE.fld hN.cls hN.parts ?_ | refine XE.km rfl ?_ | refine XE.kmX0 rfl ?_ | refine XE.kc rfl ?_ | refine XE.kcX0 rfl ?_) | (guard_target =~ XN _ _ _ _ _; first | refine XN.lst ?_ | refine XN.op dn_cat ?_ | refine XN.op dn_rep ?_ | refine XN.sl ?_ | refine XN.cb dn_listOf ?_) | (guard_target =~ XA _ _ _ _ _; first | refine XA.nil ?_ | refine XA.cons ?_) | (guard_target =~ XT _ _ _ _ _; first | refine XT.test ?_ | refine XT.b ?_ | refine XT.not ?_ | refine XT.and ?_ | refine XT.or ?_ | refine XT.yes ?_) | (guard_target =~ XO _ _ _ _ _; first | refine XO.no ?_ | refine XO.yes ?_) | (guard_target =~ XGs _ _ _ _ _ _; first | refine XGs.cons ?_ | refine XGs.nil ?_) | (guard_target =~ XG _ _ _ _ _ _; first | refine XG.name rfl ?_ | refine XG.tupG rfl ?_ | refine XG.unlG rfl ?_) | refine go_len1 rfl ?_ | refine go_fld rfl ?_ | refine go_ins rfl rfl ?_ | refine go_kc rfl rfl ?_ | refine go_isC ?_ | refine go_isTy rfl (by first | exact kb_int_int | exact kb_int_bool | exact kb_bool_int | exact kb_bool_bool | exact kb_str_str | exact kb_list_list | exact kb_tuple_tuple | exact kb_tuple_list | exact kb_list_tuple | exact kb_NoneType_list | exact kb_NoneType_int | exact kb_str_int | exact kb_int_list | exact kb_int_tuple | exact kb_NoneType_tuple | exact kb_list_int | exact kb_tuple_int | exact kb_str_bool) ?_ | refine go_non ?_ | refine go_I0 ?_ | refine go_I ?_ ?_ | refine go_ix rfl ?_ | refine go_ixT rfl ?_ | refine go_eq rfl rfl rfl ?_ | refine go_ne rfl rfl rfl ?_ | refine go_len rfl ?_ | refine go_cat ?_ ?_ | refine go_rep ?_ ?_ ?_ ?_ | refine go_un ?_ | refine go_int ?_ | refine go_lst ?_ | refine go_tup ?_ | refine go_str ?_ | refine go_bl ?_ | refine go_ixO rfl ?_ | refine go_put rfl ?_ | refine go_ext ?_ ?_ | refine go_app ?_ ?_ | refine go_rg1 ?_ ?_ | refine go_rg2 ?_ ?_ | refine go_rg3 ?_ ?_ | refine go_enum ?_ | refine go_zipS ?_ ?_ | refine go_zip ?_))
    refine XE.kf ?_
    (repeat' (first | (guard_target =~ XS _ _ _ _ _; first | exact XS.next | refine XS.next ?_ | refine XS.seq ?_ | refine XS.set ?_ | refine XS.ret ?_ | refine XS.ite ?_ | refine XS.drop ?_ | refine XS.asg ?_ | refine XS.par3 ?_ | refine XS.par ?_ | refine XS.retN ?_ | refine XS.next ?_) | (guard_target =~ XE _ _ _ _ _; first | refine XE.var rfl ?_ | refine XE.int ?_ | refine XE.bl ?_ | refine XE.str ?_ | refine XE.non ?_ | refine XE.ixO rfl ?_ | refine XE.lenO rfl ?_ | refine XE.op dr_I0 ?_ | refine XE.op dr_I ?_ | refine XE.op dr_ixL ?_ | refine XE.op dr_ixT ?_ | refine XE.op dr_eq ?_ | refine XE.op dr_ne ?_ | refine XE.op dr_eqD ?_ | refine XE.op dr_neD ?_ | refine XE.op dr_isN ?_ | refine XE.op dr_notN ?_ | refine XE.op dr_eqO ?_ | refine XE.op dr_neO ?_ | refine XE.unI ?_ | refine XE.tup ?_ | refine XE.ofN (XN.lst ?_) | refine XE.ofN (XN.op dn_cat ?_) | refine XE.ofN (XN.op dn_rep ?_) | refine XE.ofN (XN.sl ?_) | refine XE.ofN (XN.cb dn_listOf ?_) | refine XE.cb db_abs ?_ | refine XE.cb db_max2 ?_ | refine XE.len1 ?_ | refine XE.cb db_lenO ?_ | refine XE.cb db_int1 ?_ | refine XE.call ?_ | refine XE.callX0 ?_ | refine XE.callP rfl ?_ | refine XE.andV ?_ | refine XE.orV ?_ | refine XE.notV ?_ | refine XE.ifE ?_ | refine XE.make ?_ | refine XE.isC ?_ | refine XE.isTy ?_ | refine XE.fld hH.cls hH.poly ?_ | refine XE.fld hH.cls hH.rows ?_ | refine XE.fld hH.cls hH.ways ?_ | refine XE.fld hN.cls hN.home ?_ | refine XE.fld hN.cls hN.parts ?_ | refine XE.km rfl ?_ | refine XE.kmX0 rfl ?_ | refine XE.kc rfl ?_ | refine XE.kcX0 rfl ?_) | (guard_target =~ XN _ _ _ _ _; first | refine XN.lst ?_ | refine XN.op dn_cat ?_ | refine XN.op dn_rep ?_ | refine XN.sl ?_ | refine XN.cb dn_listOf ?_) | (guard_target =~ XA _ _ _ _ _; first | refine XA.nil ?_ | refine XA.cons ?_) | (guard_target =~ XT _ _ _ _ _; first | refine XT.test ?_ | refine XT.b ?_ | refine XT.not ?_ | refine XT.and ?_ | refine XT.or ?_ | refine XT.yes ?_) | (guard_target =~ XO _ _ _ _ _; first | refine XO.no ?_ | refine XO.yes ?_) | (guard_target =~ XGs _ _ _ _ _ _; first | refine XGs.cons ?_ | refine XGs.nil ?_) | (guard_target =~ XG _ _ _ _ _ _; first | refine XG.name rfl ?_ | refine XG.tupG rfl ?_ | refine XG.unlG rfl ?_) | refine go_len1 rfl ?_ | refine go_fld rfl ?_ | refine go_ins rfl rfl ?_ | refine go_kc rfl rfl ?_ | refine go_isC ?_ | refine go_isTy rfl (by first | exact kb_int_int | exact kb_int_bool | exact kb_bool_int | exact kb_bool_bool | exact kb_str_str | exact kb_list_list | exact kb_tuple_tuple | exact kb_tuple_list | exact kb_list_tuple | exact kb_NoneType_list | exact kb_NoneType_int | exact kb_str_int | exact kb_int_list | exact kb_int_tuple | exact kb_NoneType_tuple | exact kb_list_int | exact kb_tuple_int | exact kb_str_bool) ?_ | refine go_non ?_ | refine go_I0 ?_ | refine go_I ?_ ?_ | refine go_ix rfl ?_ | refine go_ixT rfl ?_ | refine go_eq rfl rfl rfl ?_ | refine go_ne rfl rfl rfl ?_ | refine go_len rfl ?_ | refine go_cat ?_ ?_ | refine go_rep ?_ ?_ ?_ ?_ | refine go_un ?_ | refine go_int ?_ | refine go_lst ?_ | refine go_tup ?_ | refine go_str ?_ | refine go_bl ?_ | refine go_ixO rfl ?_ | refine go_put rfl ?_ | refine go_ext ?_ ?_ | refine go_app ?_ ?_ | refine go_rg1 ?_ ?_ | refine go_rg2 ?_ ?_ | refine go_rg3 ?_ ?_ | refine go_enum ?_ | refine go_zipS ?_ ?_ | refine go_zip ?_))
    refine ⟨_, _, _, rfl, ko.ex 12 (by decide), PK.n_twice, rfl, ?_⟩
    (repeat' (first | (guard_target =~ XS _ _ _ _ _; first | exact XS.next | refine XS.next ?_ | refine XS.seq ?_ | refine XS.set ?_ | refine XS.ret ?_ | refine XS.ite ?_ | refine XS.drop ?_ | refine XS.asg ?_ | refine XS.par3 ?_ | refine XS.par ?_ | refine XS.retN ?_ | refine XS.next ?_) | (guard_target =~ XE _ _ _ _ _; first | refine XE.var rfl ?_ | refine XE.int ?_ | refine XE.bl ?_ | refine XE.str ?_ | refine XE.non ?_ | refine XE.ixO rfl ?_ | refine XE.lenO rfl ?_ | refine XE.op dr_I0 ?_ | refine XE.op dr_I ?_ | refine XE.op dr_ixL ?_ | refine XE.op dr_ixT ?_ | refine XE.op dr_eq ?_ | refine XE.op dr_ne ?_ | refine XE.op dr_eqD ?_ | refine XE.op dr_neD ?_ | refine XE.op dr_isN ?_ | refine XE.op dr_notN ?_ | refine XE.op dr_eqO ?_ | refine XE.op dr_neO ?_ | refine XE.unI ?_ | refine XE.tup ?_ | refine XE.ofN (XN.lst ?_) | refine XE.ofN (XN.op dn_cat ?_) | refine XE.ofN (XN.op dn_rep ?_) | refine XE.ofN (XN.sl ?_) | refine XE.ofN (XN.cb dn_listOf ?_) | refine XE.cb db_abs ?_ | refine XE.cb db_max2 ?_ | refine XE.len1 ?_ | refine XE.cb db_lenO ?_ | refine XE.cb db_int1 ?_ | refine XE.call ?_ | refine XE.callX0 ?_ | refine XE.callP rfl ?_ | refine XE.andV ?_ | refine XE.orV ?_ | refine XE.notV ?_ | refine XE.ifE ?_ | refine XE.make ?_ | refine XE.isC ?_ | refine XE.isTy ?_ | refine XE.fld hH.cls hH.poly ?_ | refine XE.fld hH.cls hH.rows ?_ | refine XE.fld hH.cls hH.ways ?_ | refine XE.fld hN.cls hN.home ?_ | refine XE.fld hN.cls hN.parts ?_ | refine XE.km rfl ?_ | refine XE.kmX0 rfl ?_ | refine XE.kc rfl ?_ | refine XE.kcX0 rfl ?_) | (guard_target =~ XN _ _ _ _ _; first | refine XN.lst ?_ | refine XN.op dn_cat ?_ | refine XN.op dn_rep ?_ | refine XN.sl ?_ | refine XN.cb dn_listOf ?_) | (guard_target =~ XA _ _ _ _ _; first | refine XA.nil ?_ | refine XA.cons ?_) | (guard_target =~ XT _ _ _ _ _; first | refine XT.test ?_ | refine XT.b ?_ | refine XT.not ?_ | refine XT.and ?_ | refine XT.or ?_ | refine XT.yes ?_) | (guard_target =~ XO _ _ _ _ _; first | refine XO.no ?_ | refine XO.yes ?_) | (guard_target =~ XGs _ _ _ _ _ _; first | refine XGs.cons ?_ | refine XGs.nil ?_) | (guard_target =~ XG _ _ _ _ _ _; first | refine XG.name rfl ?_ | refine XG.tupG rfl ?_ | refine XG.unlG rfl ?_) | refine go_len1 rfl ?_ | refine go_fld rfl ?_ | refine go_ins rfl rfl ?_ | refine go_kc rfl rfl ?_ | refine go_isC ?_ | refine go_isTy rfl (by first | exact kb_int_int | exact kb_int_bool | exact kb_bool_int | exact kb_bool_bool | exact kb_str_str | exact kb_list_list | exact kb_tuple_tuple | exact kb_tuple_list | exact kb_list_tuple | exact kb_NoneType_list | exact kb_NoneType_int | exact kb_str_int | exact kb_int_list | exact kb_int_tuple | exact kb_NoneType_tuple | exact kb_list_int | exact kb_tuple_int | exact kb_str_bool) ?_ | refine go_non ?_ | refine go_I0 ?_ | refine go_I ?_ ?_ | refine go_ix rfl ?_ | refine go_ixT rfl ?_ | refine go_eq rfl rfl rfl ?_ | refine go_ne rfl rfl rfl ?_ | refine go_len rfl ?_ | refine go_cat ?_ ?_ | refine go_rep ?_ ?_ ?_ ?_ | refine go_un ?_ | refine go_int ?_ | refine go_lst ?_ | refine go_tup ?_ | refine go_str ?_ | refine go_bl ?_ | refine go_ixO rfl ?_ | refine go_put rfl ?_ | refine go_ext ?_ ?_ | refine go_app ?_ ?_ | refine go_rg1 ?_ ?_ | refine go_rg2 ?_ ?_ | refine go_rg3 ?_ ?_ | refine go_enum ?_ | refine go_zipS ?_ ?_ | refine go_zip ?_))
    refine neD_self (by decide +kernel) rfl ?_
    (repeat' (first | (guard_target =~ XS _ _ _ _ _; first | exact XS.next | refine XS.next ?_ | refine XS.seq ?_ | refine XS.set ?_ | refine XS.ret ?_ | refine XS.ite ?_ | refine XS.drop ?_ | refine XS.asg ?_ | refine XS.par3 ?_ | refine XS.par ?_ | refine XS.retN ?_ | refine XS.next ?_) | (guard_target =~ XE _ _ _ _ _; first | refine XE.var rfl ?_ | refine XE.int ?_ | refine XE.bl ?_ | refine XE.str ?_ | refine XE.non ?_ | refine XE.ixO rfl ?_ | refine XE.lenO rfl ?_ | refine XE.op dr_I0 ?_ | refine XE.op dr_I ?_ | refine XE.op dr_ixL ?_ | refine XE.op dr_ixT ?_ | refine XE.op dr_eq ?_ | refine XE.op dr_ne ?_ | refine XE.op dr_eqD ?_ | refine XE.op dr_neD ?_ | refine XE.op dr_isN ?_ | refine XE.op dr_notN ?_ | refine XE.op dr_eqO ?_ | refine XE.op dr_neO ?_ | refine XE.unI ?_ | refine XE.tup ?_ | refine XE.ofN (XN.lst ?_) | refine XE.ofN (XN.op dn_cat ?_) | refine XE.ofN (XN.op dn_rep ?_) | refine XE.ofN (XN.sl ?_) | refine XE.ofN (XN.cb dn_listOf ?_) | refine XE.cb db_abs ?_ | refine XE.cb db_max2 ?_ | refine XE.len1 ?_ | refine XE.cb db_lenO ?_ | refine XE.cb db_int1 ?_ | refine XE.call ?_ | refine XE.callX0 ?_ | refine XE.callP rfl ?_ | refine XE.andV ?_ | refine XE.orV ?_ | refine XE.notV ?_ | refine XE.ifE ?_ | refine XE.make ?_ | refine XE.isC ?_ | refine XE.isTy ?_ | refine XE.fld hH.cls hH.poly ?_ | refine XE.fld hH.cls hH.rows ?_ | refine XE.fld hH.cls hH.ways ?_ | refine XE.fld hN.cls hN.home ?_ | refine XE.fld hN.cls hN.parts ?_ | refine XE.km rfl ?_ | refine XE.kmX0 rfl ?_ | refine XE.kc rfl ?_ | refine XE.kcX0 rfl ?_) | (guard_target =~ XN _ _ _ _ _; first | refine XN.lst ?_ | refine XN.op dn_cat ?_ | refine XN.op dn_rep ?_ | refine XN.sl ?_ | refine XN.cb dn_listOf ?_) | (guard_target =~ XA _ _ _ _ _; first | refine XA.nil ?_ | refine XA.cons ?_) | (guard_target =~ XT _ _ _ _ _; first | refine XT.test ?_ | refine XT.b ?_ | refine XT.not ?_ | refine XT.and ?_ | refine XT.or ?_ | refine XT.yes ?_) | (guard_target =~ XO _ _ _ _ _; first | refine XO.no ?_ | refine XO.yes ?_) | (guard_target =~ XGs _ _ _ _ _ _; first | refine XGs.cons ?_ | refine XGs.nil ?_) | (guard_target =~ XG _ _ _ _ _ _; first | refine XG.name rfl ?_ | refine XG.tupG rfl ?_ | refine XG.unlG rfl ?_) | refine go_len1 rfl ?_ | refine go_fld rfl ?_ | refine go_ins rfl rfl ?_ | refine go_kc rfl rfl ?_ | refine go_isC ?_ | refine go_isTy rfl (by first | exact kb_int_int | exact kb_int_bool | exact kb_bool_int | exact kb_bool_bool | exact kb_str_str | exact kb_list_list | exact kb_tuple_tuple | exact kb_tuple_list | exact kb_list_tuple | exact kb_NoneType_list | exact kb_NoneType_int | exact kb_str_int | exact kb_int_list | exact kb_int_tuple | exact kb_NoneType_tuple | exact kb_list_int | exact kb_tuple_int | exact kb_str_bool) ?_ | refine go_non ?_ | refine go_I0 ?_ | refine go_I ?_ ?_ | refine go_ix rfl ?_ | refine go_ixT rfl ?_ | refine go_eq rfl rfl rfl ?_ | refine go_ne rfl rfl rfl ?_ | refine go_len rfl ?_ | refine go_cat ?_ ?_ | refine go_rep ?_ ?_ ?_ ?_ | refine go_un ?_ | refine go_int ?_ | refine go_lst ?_ | refine go_tup ?_ | refine go_str ?_ | refine go_bl ?_ | refine go_ixO rfl ?_ | refine go_put rfl ?_ | refine go_ext ?_ ?_ | refine go_app ?_ ?_ | refine go_rg1 ?_ ?_ | refine go_rg2 ?_ ?_ | refine go_rg3 ?_ ?_ | refine go_enum ?_ | refine go_zipS ?_ ?_ | refine go_zip ?_))
    show XE z _ [.raw (.ref a), .pu, .dt (.int pl), .dt (.int (nu - 50)), .dt (.str wo), .dt (.lst (rowD c .non .non (.str "") (.str ""))), .un, .un, .un, .un] _ _
    refine XE.newA rfl ?_
    (repeat' (first | (guard_target =~ XS _ _ _ _ _; first | exact XS.next | refine XS.next ?_ | refine XS.seq ?_ | refine XS.set ?_ | refine XS.ret ?_ | refine XS.ite ?_ | refine XS.drop ?_ | refine XS.asg ?_ | refine XS.par3 ?_ | refine XS.par ?_ | refine XS.retN ?_ | refine XS.next ?_) | (guard_target =~ XE _ _ _ _ _; first | refine XE.var rfl ?_ | refine XE.int ?_ | refine XE.bl ?_ | refine XE.str ?_ | refine XE.non ?_ | refine XE.ixO rfl ?_ | refine XE.lenO rfl ?_ | refine XE.op dr_I0 ?_ | refine XE.op dr_I ?_ | refine XE.op dr_ixL ?_ | refine XE.op dr_ixT ?_ | refine XE.op dr_eq ?_ | refine XE.op dr_ne ?_ | refine XE.op dr_eqD ?_ | refine XE.op dr_neD ?_ | refine XE.op dr_isN ?_ | refine XE.op dr_notN ?_ | refine XE.op dr_eqO ?_ | refine XE.op dr_neO ?_ | refine XE.unI ?_ | refine XE.tup ?_ | refine XE.ofN (XN.lst ?_) | refine XE.ofN (XN.op dn_cat ?_) | refine XE.ofN (XN.op dn_rep ?_) | refine XE.ofN (XN.sl ?_) | refine XE.ofN (XN.cb dn_listOf ?_) | refine XE.cb db_abs ?_ | refine XE.cb db_max2 ?_ | refine XE.len1 ?_ | refine XE.cb db_lenO ?_ | refine XE.cb db_int1 ?_ | refine XE.call ?_ | refine XE.callX0 ?_ | refine XE.callP rfl ?_ | refine XE.andV ?_ | refine XE.orV ?_ | refine XE.notV ?_ | refine XE.ifE ?_ | refine XE.make ?_ | refine XE.isC ?_ | refine XE.isTy ?_ | refine XE.fld hH.cls hH.poly ?_ | refine XE.fld hH.cls hH.rows ?_ | refine XE.fld hH.cls hH.ways ?_ | refine XE.fld hN.cls hN.home ?_ | refine XE.fld hN.cls hN.parts ?_ | refine XE.km rfl ?_ | refine XE.kmX0 rfl ?_ | refine XE.kc rfl ?_ | refine XE.kcX0 rfl ?_) | (guard_target =~ XN _ _ _ _ _; first | refine XN.lst ?_ | refine XN.op dn_cat ?_ | refine XN.op dn_rep ?_ | refine XN.sl ?_ | refine XN.cb dn_listOf ?_) | (guard_target =~ XA _ _ _ _ _; first | refine XA.nil ?_ | refine XA.cons ?_) | (guard_target =~ XT _ _ _ _ _; first | refine XT.test ?_ | refine XT.b ?_ | refine XT.not ?_ | refine XT.and ?_ | refine XT.or ?_ | refine XT.yes ?_) | (guard_target =~ XO _ _ _ _ _; first | refine XO.no ?_ | refine XO.yes ?_) | (guard_target =~ XGs _ _ _ _ _ _; first | refine XGs.cons ?_ | refine XGs.nil ?_) | (guard_target =~ XG _ _ _ _ _ _; first | refine XG.name rfl ?_ | refine XG.tupG rfl ?_ | refine XG.unlG rfl ?_) | refine go_len1 rfl ?_ | refine go_fld rfl ?_ | refine go_ins rfl rfl ?_ | refine go_kc rfl rfl ?_ | refine go_isC ?_ | refine go_isTy rfl (by first | exact kb_int_int | exact kb_int_bool | exact kb_bool_int | exact kb_bool_bool | exact kb_str_str | exact kb_list_list | exact kb_tuple_tuple | exact kb_tuple_list | exact kb_list_tuple | exact kb_NoneType_list | exact kb_NoneType_int | exact kb_str_int | exact kb_int_list | exact kb_int_tuple | exact kb_NoneType_tuple | exact kb_list_int | exact kb_tuple_int | exact kb_str_bool) ?_ | refine go_non ?_ | refine go_I0 ?_ | refine go_I ?_ ?_ | refine go_ix rfl ?_ | refine go_ixT rfl ?_ | refine go_eq rfl rfl rfl ?_ | refine go_ne rfl rfl rfl ?_ | refine go_len rfl ?_ | refine go_cat ?_ ?_ | refine go_rep ?_ ?_ ?_ ?_ | refine go_un ?_ | refine go_int ?_ | refine go_lst ?_ | refine go_tup ?_ | refine go_str ?_ | refine go_bl ?_ | refine go_ixO rfl ?_ | refine go_put rfl ?_ | refine go_ext ?_ ?_ | refine go_app ?_ ?_ | refine go_rg1 ?_ ?_ | refine go_rg2 ?_ ?_ | refine go_rg3 ?_ ?_ | refine go_enum ?_ | refine go_zipS ?_ ?_ | refine go_zip ?_))
    refine ⟨_, rfl, ?_⟩
    (repeat' (first | (guard_target =~ XS _ _ _ _ _; first | exact XS.next | refine XS.next ?_ | refine XS.seq ?_ | refine XS.set ?_ | refine XS.ret ?_ | refine XS.ite ?_ | refine XS.drop ?_ | refine XS.asg ?_ | refine XS.par3 ?_ | refine XS.par ?_ | refine XS.retN ?_ | refine XS.next ?_) | (guard_target =~ XE _ _ _ _ _; first | refine XE.var rfl ?_ | refine XE.int ?_ | refine XE.bl ?_ | refine XE.str ?_ | refine XE.non ?_ | refine XE.ixO rfl ?_ | refine XE.lenO rfl ?_ | refine XE.op dr_I0 ?_ | refine XE.op dr_I ?_ | refine XE.op dr_ixL ?_ | refine XE.op dr_ixT ?_ | refine XE.op dr_eq ?_ | refine XE.op dr_ne ?_ | refine XE.op dr_eqD ?_ | refine XE.op dr_neD ?_ | refine XE.op dr_isN ?_ | refine XE.op dr_notN ?_ | refine XE.op dr_eqO ?_ | refine XE.op dr_neO ?_ | refine XE.unI ?_ | refine XE.tup ?_ | refine XE.ofN (XN.lst ?_) | refine XE.ofN (XN.op dn_cat ?_) | refine XE.ofN (XN.op dn_rep ?_) | refine XE.ofN (XN.sl ?_) | refine XE.ofN (XN.cb dn_listOf ?_) | refine XE.cb db_abs ?_ | refine XE.cb db_max2 ?_ | refine XE.len1 ?_ | refine XE.cb db_lenO ?_ | refine XE.cb db_int1 ?_ | refine XE.call ?_ | refine XE.callX0 ?_ | refine XE.callP rfl ?_ | refine XE.andV ?_ | refine XE.orV ?_ | refine XE.notV ?_ | refine XE.ifE ?_ | refine XE.make ?_ | refine XE.isC ?_ | refine XE.isTy ?_ | refine XE.fld hH.cls hH.poly ?_ | refine XE.fld hH.cls hH.rows ?_ | refine XE.fld hH.cls hH.ways ?_ | refine XE.fld hN.cls hN.home ?_ | refine XE.fld hN.cls hN.parts ?_ | refine XE.km rfl ?_ | refine XE.kmX0 rfl ?_ | refine XE.kc rfl ?_ | refine XE.kcX0 rfl ?_) | (guard_target =~ XN _ _ _ _ _; first | refine XN.lst ?_ | refine XN.op dn_cat ?_ | refine XN.op dn_rep ?_ | refine XN.sl ?_ | refine XN.cb dn_listOf ?_) | (guard_target =~ XA _ _ _ _ _; first | refine XA.nil ?_ | refine XA.cons ?_) | (guard_target =~ XT _ _ _ _ _; first | refine XT.test ?_ | refine XT.b ?_ | refine XT.not ?_ | refine XT.and ?_ | refine XT.or ?_ | refine XT.yes ?_) | (guard_target =~ XO _ _ _ _ _; first | refine XO.no ?_ | refine XO.yes ?_) | (guard_target =~ XGs _ _ _ _ _ _; first | refine XGs.cons ?_ | refine XGs.nil ?_) | (guard_target =~ XG _ _ _ _ _ _; first | refine XG.name rfl ?_ | refine XG.tupG rfl ?_ | refine XG.unlG rfl ?_) | refine go_len1 rfl ?_ | refine go_fld rfl ?_ | refine go_ins rfl rfl ?_ | refine go_kc rfl rfl ?_ | refine go_isC ?_ | refine go_isTy rfl (by first | exact kb_int_int | exact kb_int_bool | exact kb_bool_int | exact kb_bool_bool | exact kb_str_str | exact kb_list_list | exact kb_tuple_tuple | exact kb_tuple_list | exact kb_list_tuple | exact kb_NoneType_list | exact kb_NoneType_int | exact kb_str_int | exact kb_int_list | exact kb_int_tuple | exact kb_NoneType_tuple | exact kb_list_int | exact kb_tuple_int | exact kb_str_bool) ?_ | refine go_non ?_ | refine go_I0 ?_ | refine go_I ?_ ?_ | refine go_ix rfl ?_ | refine go_ixT rfl ?_ | refine go_eq rfl rfl rfl ?_ | refine go_ne rfl rfl rfl ?_ | refine go_len rfl ?_ | refine go_cat ?_ ?_ | refine go_rep ?_ ?_ ?_ ?_ | refine go_un ?_ | refine go_int ?_ | refine go_lst ?_ | refine go_tup ?_ | refine go_str ?_ | refine go_bl ?_ | refine go_ixO rfl ?_ | refine go_put rfl ?_ | refine go_ext ?_ ?_ | refine go_app ?_ ?_ | refine go_rg1 ?_ ?_ | refine go_rg2 ?_ ?_ | refine go_rg3 ?_ ?_ | refine go_enum ?_ | refine go_zipS ?_ ?_ | refine go_zip ?_))
    refine XE.newA rfl ?_
    (repeat' (first | (guard_target =~ XS _ _ _ _ _; first | exact XS.next | refine XS.next ?_ | refine XS.seq ?_ | refine XS.set ?_ | refine XS.ret ?_ | refine XS.ite ?_ | refine XS.drop ?_ | refine XS.asg ?_ | refine XS.par3 ?_ | refine XS.par ?_ | refine XS.retN ?_ | refine XS.next ?_) | (guard_target =~ XE _ _ _ _ _; first | refine XE.var rfl ?_ | refine XE.int ?_ | refine XE.bl ?_ | refine XE.str ?_ | refine XE.non ?_ | refine XE.ixO rfl ?_ | refine XE.lenO rfl ?_ | refine XE.op dr_I0 ?_ | refine XE.op dr_I ?_ | refine XE.op dr_ixL ?_ | refine XE.op dr_ixT ?_ | refine XE.op dr_eq ?_ | refine XE.op dr_ne ?_ | refine XE.op dr_eqD ?_ | refine XE.op dr_neD ?_ | refine XE.op dr_isN ?_ | refine XE.op dr_notN ?_ | refine XE.op dr_eqO ?_ | refine XE.op dr_neO ?_ | refine XE.unI ?_ | refine XE.tup ?_ | refine XE.ofN (XN.lst ?_) | refine XE.ofN (XN.op dn_cat ?_) | refine XE.ofN (XN.op dn_rep ?_) | refine XE.ofN (XN.sl ?_) | refine XE.ofN (XN.cb dn_listOf ?_) | refine XE.cb db_abs ?_ | refine XE.cb db_max2 ?_ | refine XE.len1 ?_ | refine XE.cb db_lenO ?_ | refine XE.cb db_int1 ?_ | refine XE.call ?_ | refine XE.callX0 ?_ | refine XE.callP rfl ?_ | refine XE.andV ?_ | refine XE.orV ?_ | refine XE.notV ?_ | refine XE.ifE ?_ | refine XE.make ?_ | refine XE.isC ?_ | refine XE.isTy ?_ | refine XE.fld hH.cls hH.poly ?_ | refine XE.fld hH.cls hH.rows ?_ | refine XE.fld hH.cls hH.ways ?_ | refine XE.fld hN.cls hN.home ?_ | refine XE.fld hN.cls hN.parts ?_ | refine XE.km rfl ?_ | refine XE.kmX0 rfl ?_ | refine XE.kc rfl ?_ | refine XE.kcX0 rfl ?_) | (guard_target =~ XN _ _ _ _ _; first | refine XN.lst ?_ | refine XN.op dn_cat ?_ | refine XN.op dn_rep ?_ | refine XN.sl ?_ | refine XN.cb dn_listOf ?_) | (guard_target =~ XA _ _ _ _ _; first | refine XA.nil ?_ | refine XA.cons ?_) | (guard_target =~ XT _ _ _ _ _; first | refine XT.test ?_ | refine XT.b ?_ | refine XT.not ?_ | refine XT.and ?_ | refine XT.or ?_ | refine XT.yes ?_) | (guard_target =~ XO _ _ _ _ _; first | refine XO.no ?_ | refine XO.yes ?_) | (guard_target =~ XGs _ _ _ _ _ _; first | refine XGs.cons ?_ | refine XGs.nil ?_) | (guard_target =~ XG _ _ _ _ _ _; first | refine XG.name rfl ?_ | refine XG.tupG rfl ?_ | refine XG.unlG rfl ?_) | refine go_len1 rfl ?_ | refine go_fld rfl ?_ | refine go_ins rfl rfl ?_ | refine go_kc rfl rfl ?_ | refine go_isC ?_ | refine go_isTy rfl (by first | exact kb_int_int | exact kb_int_bool | exact kb_bool_int | exact kb_bool_bool | exact kb_str_str | exact kb_list_list | exact kb_tuple_tuple | exact kb_tuple_list | exact kb_list_tuple | exact kb_NoneType_list | exact kb_NoneType_int | exact kb_str_int | exact kb_int_list | exact kb_int_tuple | exact kb_NoneType_tuple | exact kb_list_int | exact kb_tuple_int | exact kb_str_bool) ?_ | refine go_non ?_ | refine go_I0 ?_ | refine go_I ?_ ?_ | refine go_ix rfl ?_ | refine go_ixT rfl ?_ | refine go_eq rfl rfl rfl ?_ | refine go_ne rfl rfl rfl ?_ | refine go_len rfl ?_ | refine go_cat ?_ ?_ | refine go_rep ?_ ?_ ?_ ?_ | refine go_un ?_ | refine go_int ?_ | refine go_lst ?_ | refine go_tup ?_ | refine go_str ?_ | refine go_bl ?_ | refine go_ixO rfl ?_ | refine go_put rfl ?_ | refine go_ext ?_ ?_ | refine go_app ?_ ?_ | refine go_rg1 ?_ ?_ | refine go_rg2 ?_ ?_ | refine go_rg3 ?_ ?_ | refine go_enum ?_ | refine go_zipS ?_ ?_ | refine go_zip ?_))
    refine ⟨_, rfl, ?_⟩
    (repeat' (first | (guard_target =~ XS _ _ _ _ _; first | exact XS.next | refine XS.next ?_ | refine XS.seq ?_ | refine XS.set ?_ | refine XS.ret ?_ | refine XS.ite ?_ | refine XS.drop ?_ | refine XS.asg ?_ | refine XS.par3 ?_ | refine XS.par ?_ | refine XS.retN ?_ | refine XS.next ?_) | (guard_target =~ XE _ _ _ _ _; first | refine XE.var rfl ?_ | refine XE.int ?_ | refine XE.bl ?_ | refine XE.str ?_ | refine XE.non ?_ | refine XE.ixO rfl ?_ | refine XE.lenO rfl ?_ | refine XE.op dr_I0 ?_ | refine XE.op dr_I ?_ | refine XE.op dr_ixL ?_ | refine XE.op dr_ixT ?_ | refine XE.op dr_eq ?_ | refine XE.op dr_ne ?_ | refine XE.op dr_eqD ?_ | refine XE.op dr_neD ?_ | refine XE.op dr_isN ?_ | refine XE.op dr_notN ?_ | refine XE.op dr_eqO ?_ | refine XE.op dr_neO ?_ | refine XE.unI ?_ | refine XE.tup ?_ | refine XE.ofN (XN.lst ?_) | refine XE.ofN (XN.op dn_cat ?_) | refine XE.ofN (XN.op dn_rep ?_) | refine XE.ofN (XN.sl ?_) | refine XE.ofN (XN.cb dn_listOf ?_) | refine XE.cb db_abs ?_ | refine XE.cb db_max2 ?_ | refine XE.len1 ?_ | refine XE.cb db_lenO ?_ | refine XE.cb db_int1 ?_ | refine XE.call ?_ | refine XE.callX0 ?_ | refine XE.callP rfl ?_ | refine XE.andV ?_ | refine XE.orV ?_ | refine XE.notV ?_ | refine XE.ifE ?_ | refine XE.make ?_ | refine XE.isC ?_ | refine XE.isTy ?_ | refine XE.fld hH.cls hH.poly ?_ | refine XE.fld hH.cls hH.rows ?_ | refine XE.fld hH.cls hH.ways ?_ | refine XE.fld hN.cls hN.home ?_ | refine XE.fld hN.cls hN.parts ?_ | refine XE.km rfl ?_ | refine XE.kmX0 rfl ?_ | refine XE.kc rfl ?_ | refine XE.kcX0 rfl ?_) | (guard_target =~ XN _ _ _ _ _; first | refine XN.lst ?_ | refine XN.op dn_cat ?_ | refine XN.op dn_rep ?_ | refine XN.sl ?_ | refine XN.cb dn_listOf ?_) | (guard_target =~ XA _ _ _ _ _; first | refine XA.nil ?_ | refine XA.cons ?_) | (guard_target =~ XT _ _ _ _ _; first | refine XT.test ?_ | refine XT.b ?_ | refine XT.not ?_ | refine XT.and ?_ | refine XT.or ?_ | refine XT.yes ?_) | (guard_target =~ XO _ _ _ _ _; first | refine XO.no ?_ | refine XO.yes ?_) | (guard_target =~ XGs _ _ _ _ _ _; first | refine XGs.cons ?_ | refine XGs.nil ?_) | (guard_target =~ XG _ _ _ _ _ _; first | refine XG.name rfl ?_ | refine XG.tupG rfl ?_ | refine XG.unlG rfl ?_) | refine go_len1 rfl ?_ | refine go_fld rfl ?_ | refine go_ins rfl rfl ?_ | refine go_kc rfl rfl ?_ | refine go_isC ?_ | refine go_isTy rfl (by first | exact kb_int_int | exact kb_int_bool | exact kb_bool_int | exact kb_bool_bool | exact kb_str_str | exact kb_list_list | exact kb_tuple_tuple | exact kb_tuple_list | exact kb_list_tuple | exact kb_NoneType_list | exact kb_NoneType_int | exact kb_str_int | exact kb_int_list | exact kb_int_tuple | exact kb_NoneType_tuple | exact kb_list_int | exact kb_tuple_int | exact kb_str_bool) ?_ | refine go_non ?_ | refine go_I0 ?_ | refine go_I ?_ ?_ | refine go_ix rfl ?_ | refine go_ixT rfl ?_ | refine go_eq rfl rfl rfl ?_ | refine go_ne rfl rfl rfl ?_ | refine go_len rfl ?_ | refine go_cat ?_ ?_ | refine go_rep ?_ ?_ ?_ ?_ | refine go_un ?_ | refine go_int ?_ | refine go_lst ?_ | refine go_tup ?_ | refine go_str ?_ | refine go_bl ?_ | refine go_ixO rfl ?_ | refine go_put rfl ?_ | refine go_ext ?_ ?_ | refine go_app ?_ ?_ | refine go_rg1 ?_ ?_ | refine go_rg2 ?_ ?_ | refine go_rg3 ?_ ?_ | refine go_enum ?_ | refine go_zipS ?_ ?_ | refine go_zip ?_))
    · exact Nat.le_of_ble_eq_true rfl
    refine XE.newA rfl ?_
    (repeat' (first | (guard_target =~ XS _ _ _ _ _; first | exact XS.next | refine XS.next ?_ | refine XS.seq ?_ | refine XS.set ?_ | refine XS.ret ?_ | refine XS.ite ?_ | refine XS.drop ?_ | refine XS.asg ?_ | refine XS.par3 ?_ | refine XS.par ?_ | refine XS.retN ?_ | refine XS.next ?_) | (guard_target =~ XE _ _ _ _ _; first | refine XE.var rfl ?_ | refine XE.int ?_ | refine XE.bl ?_ | refine XE.str ?_ | refine XE.non ?_ | refine XE.ixO rfl ?_ | refine XE.lenO rfl ?_ | refine XE.op dr_I0 ?_ | refine XE.op dr_I ?_ | refine XE.op dr_ixL ?_ | refine XE.op dr_ixT ?_ | refine XE.op dr_eq ?_ | refine XE.op dr_ne ?_ | refine XE.op dr_eqD ?_ | refine XE.op dr_neD ?_ | refine XE.op dr_isN ?_ | refine XE.op dr_notN ?_ | refine XE.op dr_eqO ?_ | refine XE.op dr_neO ?_ | refine XE.unI ?_ | refine XE.tup ?_ | refine XE.ofN (XN.lst ?_) | refine XE.ofN (XN.op dn_cat ?_) | refine XE.ofN (XN.op dn_rep ?_) | refine XE.ofN (XN.sl ?_) | refine XE.ofN (XN.cb dn_listOf ?_) | refine XE.cb db_abs ?_ | refine XE.cb db_max2 ?_ | refine XE.len1 ?_ | refine XE.cb db_lenO ?_ | refine XE.cb db_int1 ?_ | refine XE.call ?_ | refine XE.callX0 ?_ | refine XE.callP rfl ?_ | refine XE.andV ?_ | refine XE.orV ?_ | refine XE.notV ?_ | refine XE.ifE ?_ | refine XE.make ?_ | refine XE.isC ?_ | refine XE.isTy ?_ | refine XE.fld hH.cls hH.poly ?_ | refine XE.fld hH.cls hH.rows ?_ | refine XE.fld hH.cls hH.ways ?_ | refine XE.fld hN.cls hN.home ?_ | refine XE.fld hN.cls hN.parts ?_ | refine XE.km rfl ?_ | refine XE.kmX0 rfl ?_ | refine XE.kc rfl ?_ | refine XE.kcX0 rfl ?_) | (guard_target =~ XN _ _ _ _ _; first | refine XN.lst ?_ | refine XN.op dn_cat ?_ | refine XN.op dn_rep ?_ | refine XN.sl ?_ | refine XN.cb dn_listOf ?_) | (guard_target =~ XA _ _ _ _ _; first | refine XA.nil ?_ | refine XA.cons ?_) | (guard_target =~ XT _ _ _ _ _; first | refine XT.test ?_ | refine XT.b ?_ | refine XT.not ?_ | refine XT.and ?_ | refine XT.or ?_ | refine XT.yes ?_) | (guard_target =~ XO _ _ _ _ _; first | refine XO.no ?_ | refine XO.yes ?_) | (guard_target =~ XGs _ _ _ _ _ _; first | refine XGs.cons ?_ | refine XGs.nil ?_) | (guard_target =~ XG _ _ _ _ _ _; first | refine XG.name rfl ?_ | refine XG.tupG rfl ?_ | refine XG.unlG rfl ?_) | refine go_len1 rfl ?_ | refine go_fld rfl ?_ | refine go_ins rfl rfl ?_ | refine go_kc rfl rfl ?_ | refine go_isC ?_ | refine go_isTy rfl (by first | exact kb_int_int | exact kb_int_bool | exact kb_bool_int | exact kb_bool_bool | exact kb_str_str | exact kb_list_list | exact kb_tuple_tuple | exact kb_tuple_list | exact kb_list_tuple | exact kb_NoneType_list | exact kb_NoneType_int | exact kb_str_int | exact kb_int_list | exact kb_int_tuple | exact kb_NoneType_tuple | exact kb_list_int | exact kb_tuple_int | exact kb_str_bool) ?_ | refine go_non ?_ | refine go_I0 ?_ | refine go_I ?_ ?_ | refine go_ix rfl ?_ | refine go_ixT rfl ?_ | refine go_eq rfl rfl rfl ?_ | refine go_ne rfl rfl rfl ?_ | refine go_len rfl ?_ | refine go_cat ?_ ?_ | refine go_rep ?_ ?_ ?_ ?_ | refine go_un ?_ | refine go_int ?_ | refine go_lst ?_ | refine go_tup ?_ | refine go_str ?_ | refine go_bl ?_ | refine go_ixO rfl ?_ | refine go_put rfl ?_ | refine go_ext ?_ ?_ | refine go_app ?_ ?_ | refine go_rg1 ?_ ?_ | refine go_rg2 ?_ ?_ | refine go_rg3 ?_ ?_ | refine go_enum ?_ | refine go_zipS ?_ ?_ | refine go_zip ?_))
    refine ⟨_, rfl, ?_⟩
    (repeat' (first | (guard_target =~ XS _ _ _ _ _; first | exact XS.next | refine XS.next ?_ | refine XS.seq ?_ | refine XS.set ?_ | refine XS.ret ?_ | refine XS.ite ?_ | refine XS.drop ?_ | refine XS.asg ?_ | refine XS.par3 ?_ | refine XS.par ?_ | refine XS.retN ?_ | refine XS.next ?_) | (guard_target =~ XE _ _ _ _ _; first | refine XE.var rfl ?_ | refine XE.int ?_ | refine XE.bl ?_ | refine XE.str ?_ | refine XE.non ?_ | refine XE.ixO rfl ?_ | refine XE.lenO rfl ?_ | refine XE.op dr_I0 ?_ | refine XE.op dr_I ?_ | refine XE.op dr_ixL ?_ | refine XE.op dr_ixT ?_ | refine XE.op dr_eq ?_ | refine XE.op dr_ne ?_ | refine XE.op dr_eqD ?_ | refine XE.op dr_neD ?_ | refine XE.op dr_isN ?_ | refine XE.op dr_notN ?_ | refine XE.op dr_eqO ?_ | refine XE.op dr_neO ?_ | refine XE.unI ?_ | refine XE.tup ?_ | refine XE.ofN (XN.lst ?_) | refine XE.ofN (XN.op dn_cat ?_) | refine XE.ofN (XN.op dn_rep ?_) | refine XE.ofN (XN.sl ?_) | refine XE.ofN (XN.cb dn_listOf ?_) | refine XE.cb db_abs ?_ | refine XE.cb db_max2 ?_ | refine XE.len1 ?_ | refine XE.cb db_lenO ?_ | refine XE.cb db_int1 ?_ | refine XE.call ?_ | refine XE.callX0 ?_ | refine XE.callP rfl ?_ | refine XE.andV ?_ | refine XE.orV ?_ | refine XE.notV ?_ | refine XE.ifE ?_ | refine XE.make ?_ | refine XE.isC ?_ | refine XE.isTy ?_ | refine XE.fld hH.cls hH.poly ?_ | refine XE.fld hH.cls hH.rows ?_ | refine XE.fld hH.cls hH.ways ?_ | refine XE.fld hN.cls hN.home ?_ | refine XE.fld hN.cls hN.parts ?_ | refine XE.km rfl ?_ | refine XE.kmX0 rfl ?_ | refine XE.kc rfl ?_ | refine XE.kcX0 rfl ?_) | (guard_target =~ XN _ _ _ _ _; first | refine XN.lst ?_ | refine XN.op dn_cat ?_ | refine XN.op dn_rep ?_ | refine XN.sl ?_ | refine XN.cb dn_listOf ?_) | (guard_target =~ XA _ _ _ _ _; first | refine XA.nil ?_ | refine XA.cons ?_) | (guard_target =~ XT _ _ _ _ _; first | refine XT.test ?_ | refine XT.b ?_ | refine XT.not ?_ | refine XT.and ?_ | refine XT.or ?_ | refine XT.yes ?_) | (guard_target =~ XO _ _ _ _ _; first | refine XO.no ?_ | refine XO.yes ?_) | (guard_target =~ XGs _ _ _ _ _ _; first | refine XGs.cons ?_ | refine XGs.nil ?_) | (guard_target =~ XG _ _ _ _ _ _; first | refine XG.name rfl ?_ | refine XG.tupG rfl ?_ | refine XG.unlG rfl ?_) | refine go_len1 rfl ?_ | refine go_fld rfl ?_ | refine go_ins rfl rfl ?_ | refine go_kc rfl rfl ?_ | refine go_isC ?_ | refine go_isTy rfl (by first | exact kb_int_int | exact kb_int_bool | exact kb_bool_int | exact kb_bool_bool | exact kb_str_str | exact kb_list_list | exact kb_tuple_tuple | exact kb_tuple_list | exact kb_list_tuple | exact kb_NoneType_list | exact kb_NoneType_int | exact kb_str_int | exact kb_int_list | exact kb_int_tuple | exact kb_NoneType_tuple | exact kb_list_int | exact kb_tuple_int | exact kb_str_bool) ?_ | refine go_non ?_ | refine go_I0 ?_ | refine go_I ?_ ?_ | refine go_ix rfl ?_ | refine go_ixT rfl ?_ | refine go_eq rfl rfl rfl ?_ | refine go_ne rfl rfl rfl ?_ | refine go_len rfl ?_ | refine go_cat ?_ ?_ | refine go_rep ?_ ?_ ?_ ?_ | refine go_un ?_ | refine go_int ?_ | refine go_lst ?_ | refine go_tup ?_ | refine go_str ?_ | refine go_bl ?_ | refine go_ixO rfl ?_ | refine go_put rfl ?_ | refine go_ext ?_ ?_ | refine go_app ?_ ?_ | refine go_rg1 ?_ ?_ | refine go_rg2 ?_ ?_ | refine go_rg3 ?_ ?_ | refine go_enum ?_ | refine go_zipS ?_ ?_ | refine go_zip ?_))
    refine XE.newA rfl ?_
    (repeat' (first | (guard_target =~ XS _ _ _ _ _; first | exact XS.next | refine XS.next ?_ | refine XS.seq ?_ | refine XS.set ?_ | refine XS.ret ?_ | refine XS.ite ?_ | refine XS.drop ?_ | refine XS.asg ?_ | refine XS.par3 ?_ | refine XS.par ?_ | refine XS.retN ?_ | refine XS.next ?_) | (guard_target =~ XE _ _ _ _ _; first | refine XE.var rfl ?_ | refine XE.int ?_ | refine XE.bl ?_ | refine XE.str ?_ | refine XE.non ?_ | refine XE.ixO rfl ?_ | refine XE.lenO rfl ?_ | refine XE.op dr_I0 ?_ | refine XE.op dr_I ?_ | refine XE.op dr_ixL ?_ | refine XE.op dr_ixT ?_ | refine XE.op dr_eq ?_ | refine XE.op dr_ne ?_ | refine XE.op dr_eqD ?_ | refine XE.op dr_neD ?_ | refine XE.op dr_isN ?_ | refine XE.op dr_notN ?_ | refine XE.op dr_eqO ?_ | refine XE.op dr_neO ?_ | refine XE.unI ?_ | refine XE.tup ?_ | refine XE.ofN (XN.lst ?_) | refine XE.ofN (XN.op dn_cat ?_) | refine XE.ofN (XN.op dn_rep ?_) | refine XE.ofN (XN.sl ?_) | refine XE.ofN (XN.cb dn_listOf ?_) | refine XE.cb db_abs ?_ | refine XE.cb db_max2 ?_ | refine XE.len1 ?_ | refine XE.cb db_lenO ?_ | refine XE.cb db_int1 ?_ | refine XE.call ?_ | refine XE.callX0 ?_ | refine XE.callP rfl ?_ | refine XE.andV ?_ | refine XE.orV ?_ | refine XE.notV ?_ | refine XE.ifE ?_ | refine XE.make ?_ | refine XE.isC ?_ | refine XE.isTy ?_ | refine XE.fld hH.cls hH.poly ?_ | refine XE.fld hH.cls hH.rows ?_ | refine XE.fld hH.cls hH.ways ?_ | refine XE.fld hN.cls hN.home ?_ | refine XE.fld hN.cls hN.parts ?_ | refine XE.km rfl ?_ | refine XE.kmX0 rfl ?_ | refine XE.kc rfl ?_ | refine XE.kcX0 rfl ?_) | (guard_target =~ XN _ _ _ _ _; first | refine XN.lst ?_ | refine XN.op dn_cat ?_ | refine XN.op dn_rep ?_ | refine XN.sl ?_ | refine XN.cb dn_listOf ?_) | (guard_target =~ XA _ _ _ _ _; first | refine XA.nil ?_ | refine XA.cons ?_) | (guard_target =~ XT _ _ _ _ _; first | refine XT.test ?_ | refine XT.b ?_ | refine XT.not ?_ | refine XT.and ?_ | refine XT.or ?_ | refine XT.yes ?_) | (guard_target =~ XO _ _ _ _ _; first | refine XO.no ?_ | refine XO.yes ?_) | (guard_target =~ XGs _ _ _ _ _ _; first | refine XGs.cons ?_ | refine XGs.nil ?_) | (guard_target =~ XG _ _ _ _ _ _; first | refine XG.name rfl ?_ | refine XG.tupG rfl ?_ | refine XG.unlG rfl ?_) | refine go_len1 rfl ?_ | refine go_fld rfl ?_ | refine go_ins rfl rfl ?_ | refine go_kc rfl rfl ?_ | refine go_isC ?_ | refine go_isTy rfl (by first | exact kb_int_int | exact kb_int_bool | exact kb_bool_int | exact kb_bool_bool | exact kb_str_str | exact kb_list_list | exact kb_tuple_tuple | exact kb_tuple_list | exact kb_list_tuple | exact kb_NoneType_list | exact kb_NoneType_int | exact kb_str_int | exact kb_int_list | exact kb_int_tuple | exact kb_NoneType_tuple | exact kb_list_int | exact kb_tuple_int | exact kb_str_bool) ?_ | refine go_non ?_ | refine go_I0 ?_ | refine go_I ?_ ?_ | refine go_ix rfl ?_ | refine go_ixT rfl ?_ | refine go_eq rfl rfl rfl ?_ | refine go_ne rfl rfl rfl ?_ | refine go_len rfl ?_ | refine go_cat ?_ ?_ | refine go_rep ?_ ?_ ?_ ?_ | refine go_un ?_ | refine go_int ?_ | refine go_lst ?_ | refine go_tup ?_ | refine go_str ?_ | refine go_bl ?_ | refine go_ixO rfl ?_ | refine go_put rfl ?_ | refine go_ext ?_ ?_ | refine go_app ?_ ?_ | refine go_rg1 ?_ ?_ | refine go_rg2 ?_ ?_ | refine go_rg3 ?_ ?_ | refine go_enum ?_ | refine go_zipS ?_ ?_ | refine go_zip ?_))
    refine ⟨_, rfl, ?_⟩
    (repeat' (first | (guard_target =~ XS _ _ _ _ _; first | exact XS.next | refine XS.next ?_ | refine XS.seq ?_ | refine XS.set ?_ | refine XS.ret ?_ | refine XS.ite ?_ | refine XS.drop ?_ | refine XS.asg ?_ | refine XS.par3 ?_ | refine XS.par ?_ | refine XS.retN ?_ | refine XS.next ?_) | (guard_target =~ XE _ _ _ _ _; first | refine XE.var rfl ?_ | refine XE.int ?_ | refine XE.bl ?_ | refine XE.str ?_ | refine XE.non ?_ | refine XE.ixO rfl ?_ | refine XE.lenO rfl ?_ | refine XE.op dr_I0 ?_ | refine XE.op dr_I ?_ | refine XE.op dr_ixL ?_ | refine XE.op dr_ixT ?_ | refine XE.op dr_eq ?_ | refine XE.op dr_ne ?_ | refine XE.op dr_eqD ?_ | refine XE.op dr_neD ?_ | refine XE.op dr_isN ?_ | refine XE.op dr_notN ?_ | refine XE.op dr_eqO ?_ | refine XE.op dr_neO ?_ | refine XE.unI ?_ | refine XE.tup ?_ | refine XE.ofN (XN.lst ?_) | refine XE.ofN (XN.op dn_cat ?_) | refine XE.ofN (XN.op dn_rep ?_) | refine XE.ofN (XN.sl ?_) | refine XE.ofN (XN.cb dn_listOf ?_) | refine XE.cb db_abs ?_ | refine XE.cb db_max2 ?_ | refine XE.len1 ?_ | refine XE.cb db_lenO ?_ | refine XE.cb db_int1 ?_ | refine XE.call ?_ | refine XE.callX0 ?_ | refine XE.callP rfl ?_ | refine XE.andV ?_ | refine XE.orV ?_ | refine XE.notV ?_ | refine XE.ifE ?_ | refine XE.make ?_ | refine XE.isC ?_ | refine XE.isTy ?_ | refine XE.fld hH.cls hH.poly ?_ | refine XE.fld hH.cls hH.rows ?_ | refine XE.fld hH.cls hH.ways ?_ | refine XE.fld hN.cls hN.home ?_ | refine XE.fld hN.cls hN.parts ?_ | refine XE.km rfl ?_ | refine XE.kmX0 rfl ?_ | refine XE.kc rfl ?_ | refine XE.kcX0 rfl ?_) | (guard_target =~ XN _ _ _ _ _; first | refine XN.lst ?_ | refine XN.op dn_cat ?_ | refine XN.op dn_rep ?_ | refine XN.sl ?_ | refine XN.cb dn_listOf ?_) | (guard_target =~ XA _ _ _ _ _; first | refine XA.nil ?_ | refine XA.cons ?_) | (guard_target =~ XT _ _ _ _ _; first | refine XT.test ?_ | refine XT.b ?_ | refine XT.not ?_ | refine XT.and ?_ | refine XT.or ?_ | refine XT.yes ?_) | (guard_target =~ XO _ _ _ _ _; first | refine XO.no ?_ | refine XO.yes ?_) | (guard_target =~ XGs _ _ _ _ _ _; first | refine XGs.cons ?_ | refine XGs.nil ?_) | (guard_target =~ XG _ _ _ _ _ _; first | refine XG.name rfl ?_ | refine XG.tupG rfl ?_ | refine XG.unlG rfl ?_) | refine go_len1 rfl ?_ | refine go_fld rfl ?_ | refine go_ins rfl rfl ?_ | refine go_kc rfl rfl ?_ | refine go_isC ?_ | refine go_isTy rfl (by first | exact kb_int_int | exact kb_int_bool | exact kb_bool_int | exact kb_bool_bool | exact kb_str_str | exact kb_list_list | exact kb_tuple_tuple | exact kb_tuple_list | exact kb_list_tuple | exact kb_NoneType_list | exact kb_NoneType_int | exact kb_str_int | exact kb_int_list | exact kb_int_tuple | exact kb_NoneType_tuple | exact kb_list_int | exact kb_tuple_int | exact kb_str_bool) ?_ | refine go_non ?_ | refine go_I0 ?_ | refine go_I ?_ ?_ | refine go_ix rfl ?_ | refine go_ixT rfl ?_ | refine go_eq rfl rfl rfl ?_ | refine go_ne rfl rfl rfl ?_ | refine go_len rfl ?_ | refine go_cat ?_ ?_ | refine go_rep ?_ ?_ ?_ ?_ | refine go_un ?_ | refine go_int ?_ | refine go_lst ?_ | refine go_tup ?_ | refine go_str ?_ | refine go_bl ?_ | refine go_ixO rfl ?_ | refine go_put rfl ?_ | refine go_ext ?_ ?_ | refine go_app ?_ ?_ | refine go_rg1 ?_ ?_ | refine go_rg2 ?_ ?_ | refine go_rg3 ?_ ?_ | refine go_enum ?_ | refine go_zipS ?_ ?_ | refine go_zip ?_))
    any_goals (try exact Nat.le_of_ble_eq_true rfl)
    refine XE.newA rfl ?_
    (repeat' (first | (guard_target =~ XS _ _ _ _ _; first | exact XS.next | refine XS.next ?_ | refine XS.seq ?_ | refine XS.set ?_ | refine XS.ret ?_ | refine XS.ite ?_ | refine XS.drop ?_ | refine XS.asg ?_ | refine XS.par3 ?_ | refine XS.par ?_ | refine XS.retN ?_ | refine XS.next ?_) | (guard_target =~ XE _ _ _ _ _; first | refine XE.var rfl ?_ | refine XE.int ?_ | refine XE.bl ?_ | refine XE.str ?_ | refine XE.non ?_ | refine XE.ixO rfl ?_ | refine XE.lenO rfl ?_ | refine XE.op dr_I0 ?_ | refine XE.op dr_I ?_ | refine XE.op dr_ixL ?_ | refine XE.op dr_ixT ?_ | refine XE.op dr_eq ?_ | refine XE.op dr_ne ?_ | refine XE.op dr_eqD ?_ | refine XE.op dr_neD ?_ | refine XE.op dr_isN ?_ | refine XE.op dr_notN ?_ | refine XE.op dr_eqO ?_ | refine XE.op dr_neO ?_ | refine XE.unI ?_ | refine XE.tup ?_ | refine XE.ofN (XN.lst ?_) | refine XE.ofN (XN.op dn_cat ?_) | refine XE.ofN (XN.op dn_rep ?_) | refine XE.ofN (XN.sl ?_) | refine XE.ofN (XN.cb dn_listOf ?_) | refine XE.cb db_abs ?_ | refine XE.cb db_max2 ?_ | refine XE.len1 ?_ | refine XE.cb db_lenO ?_ | refine XE.cb db_int1 ?_ | refine XE.call ?_ | refine XE.callX0 ?_ | refine XE.callP rfl ?_ | refine XE.andV ?_ | refine XE.orV ?_ | refine XE.notV ?_ | refine XE.ifE ?_ | refine XE.make ?_ | refine XE.isC ?_ | refine XE.isTy ?_ | refine XE.fld hH.cls hH.poly ?_ | refine XE.fld hH.cls hH.rows ?_ | refine XE.fld hH.cls hH.ways ?_ | refine XE.fld hN.cls hN.home ?_ | refine XE.fld hN.cls hN.parts ?_ | refine XE.km rfl ?_ | refine XE.kmX0 rfl ?_ | refine XE.kc rfl ?_ | refine XE.kcX0 rfl ?_) | (guard_target =~ XN _ _ _ _ _; first | refine XN.lst ?_ | refine XN.op dn_cat ?_ | refine XN.op dn_rep ?_ | refine XN.sl ?_ | refine XN.cb dn_listOf ?_) | (guard_target =~ XA _ _ _ _ _; first | refine XA.nil ?_ | refine XA.cons ?_) | (guard_target =~ XT _ _ _ _ _; first | refine XT.test ?_ | refine XT.b ?_ | refine XT.not ?_ | refine XT.and ?_ | refine XT.or ?_ | refine XT.yes ?_) | (guard_target =~ XO _ _ _ _ _; first | refine XO.no ?_ | refine XO.yes ?_) | (guard_target =~ XGs _ _ _ _ _ _; first | refine XGs.cons ?_ | refine XGs.nil ?_) | (guard_target =~ XG _ _ _ _ _ _; first | refine XG.name rfl ?_ | refine XG.tupG rfl ?_ | refine XG.unlG rfl ?_) | refine go_len1 rfl ?_ | refine go_fld rfl ?_ | refine go_ins rfl rfl ?_ | refine go_kc rfl rfl ?_ | refine go_isC ?_ | refine go_isTy rfl (by first | exact kb_int_int | exact kb_int_bool | exact kb_bool_int | exact kb_bool_bool | exact kb_str_str | exact kb_list_list | exact kb_tuple_tuple | exact kb_tuple_list | exact kb_list_tuple | exact kb_NoneType_list | exact kb_NoneType_int | exact kb_str_int | exact kb_int_list | exact kb_int_tuple | exact kb_NoneType_tuple | exact kb_list_int | exact kb_tuple_int | exact kb_str_bool) ?_ | refine go_non ?_ | refine go_I0 ?_ | refine go_I ?_ ?_ | refine go_ix rfl ?_ | refine go_ixT rfl ?_ | refine go_eq rfl rfl rfl ?_ | refine go_ne rfl rfl rfl ?_ | refine go_len rfl ?_ | refine go_cat ?_ ?_ | refine go_rep ?_ ?_ ?_ ?_ | refine go_un ?_ | refine go_int ?_ | refine go_lst ?_ | refine go_tup ?_ | refine go_str ?_ | refine go_bl ?_ | refine go_ixO rfl ?_ | refine go_put rfl ?_ | refine go_ext ?_ ?_ | refine go_app ?_ ?_ | refine go_rg1 ?_ ?_ | refine go_rg2 ?_ ?_ | refine go_rg3 ?_ ?_ | refine go_enum ?_ | refine go_zipS ?_ ?_ | refine go_zip ?_))
    refine ⟨_, rfl, ?_⟩
    (repeat' (first | (guard_target =~ XS _ _ _ _ _; first | exact XS.next | refine XS.next ?_ | refine XS.seq ?_ | refine XS.set ?_ | refine XS.ret ?_ | refine XS.ite ?_ | refine XS.drop ?_ | refine XS.asg ?_ | refine XS.par3 ?_ | refine XS.par ?_ | refine XS.retN ?_ | refine XS.next ?_) | (guard_target =~ XE _ _ _ _ _; first | refine XE.var rfl ?_ | refine XE.int ?_ | refine XE.bl ?_ | refine XE.str ?_ | refine XE.non ?_ | refine XE.ixO rfl ?_ | refine XE.lenO rfl ?_ | refine XE.op dr_I0 ?_ | refine XE.op dr_I ?_ | refine XE.op dr_ixL ?_ | refine XE.op dr_ixT ?_ | refine XE.op dr_eq ?_ | refine XE.op dr_ne ?_ | refine XE.op dr_eqD ?_ | refine XE.op dr_neD ?_ | refine XE.op dr_isN ?_ | refine XE.op dr_notN ?_ | refine XE.op dr_eqO ?_ | refine XE.op dr_neO ?_ | refine XE.unI ?_ | refine XE.tup ?_ | refine XE.ofN (XN.lst ?_) | refine XE.ofN (XN.op dn_cat ?_) | refine XE.ofN (XN.op dn_rep ?_) | refine XE.ofN (XN.sl ?_) | refine XE.ofN (XN.cb dn_listOf ?_) | refine XE.cb db_abs ?_ | refine XE.cb db_max2 ?_ | refine XE.len1 ?_ | refine XE.cb db_lenO ?_ | refine XE.cb db_int1 ?_ | refine XE.call ?_ | refine XE.callX0 ?_ | refine XE.callP rfl ?_ | refine XE.andV ?_ | refine XE.orV ?_ | refine XE.notV ?_ | refine XE.ifE ?_ | refine XE.make ?_ | refine XE.isC ?_ | refine XE.isTy ?_ | refine XE.fld hH.cls hH.poly ?_ | refine XE.fld hH.cls hH.rows ?_ | refine XE.fld hH.cls hH.ways ?_ | refine XE.fld hN.cls hN.home ?_ | refine XE.fld hN.cls hN.parts ?_ | refine XE.km rfl ?_ | refine XE.kmX0 rfl ?_ | refine XE.kc rfl ?_ | refine XE.kcX0 rfl ?_) | (guard_target =~ XN _ _ _ _ _; first | refine XN.lst ?_ | refine XN.op dn_cat ?_ | refine XN.op dn_rep ?_ | refine XN.sl ?_ | refine XN.cb dn_listOf ?_) | (guard_target =~ XA _ _ _ _ _; first | refine XA.nil ?_ | refine XA.cons ?_) | (guard_target =~ XT _ _ _ _ _; first | refine XT.test ?_ | refine XT.b ?_ | refine XT.not ?_ | refine XT.and ?_ | refine XT.or ?_ | refine XT.yes ?_) | (guard_target =~ XO _ _ _ _ _; first | refine XO.no ?_ | refine XO.yes ?_) | (guard_target =~ XGs _ _ _ _ _ _; first | refine XGs.cons ?_ | refine XGs.nil ?_) | (guard_target =~ XG _ _ _ _ _ _; first | refine XG.name rfl ?_ | refine XG.tupG rfl ?_ | refine XG.unlG rfl ?_) | refine go_len1 rfl ?_ | refine go_fld rfl ?_ | refine go_ins rfl rfl ?_ | refine go_kc rfl rfl ?_ | refine go_isC ?_ | refine go_isTy rfl (by first | exact kb_int_int | exact kb_int_bool | exact kb_bool_int | exact kb_bool_bool | exact kb_str_str | exact kb_list_list | exact kb_tuple_tuple | exact kb_tuple_list | exact kb_list_tuple | exact kb_NoneType_list | exact kb_NoneType_int | exact kb_str_int | exact kb_int_list | exact kb_int_tuple | exact kb_NoneType_tuple | exact kb_list_int | exact kb_tuple_int | exact kb_str_bool) ?_ | refine go_non ?_ | refine go_I0 ?_ | refine go_I ?_ ?_ | refine go_ix rfl ?_ | refine go_ixT rfl ?_ | refine go_eq rfl rfl rfl ?_ | refine go_ne rfl rfl rfl ?_ | refine go_len rfl ?_ | refine go_cat ?_ ?_ | refine go_rep ?_ ?_ ?_ ?_ | refine go_un ?_ | refine go_int ?_ | refine go_lst ?_ | refine go_tup ?_ | refine go_str ?_ | refine go_bl ?_ | refine go_ixO rfl ?_ | refine go_put rfl ?_ | refine go_ext ?_ ?_ | refine go_app ?_ ?_ | refine go_rg1 ?_ ?_ | refine go_rg2 ?_ ?_ | refine go_rg3 ?_ ?_ | refine go_enum ?_ | refine go_zipS ?_ ?_ | refine go_zip ?_))
    refine XE.newA rfl ?_
    (repeat' (first | (guard_target =~ XS _ _ _ _ _; first | exact XS.next | refine XS.next ?_ | refine XS.seq ?_ | refine XS.set ?_ | refine XS.ret ?_ | refine XS.ite ?_ | refine XS.drop ?_ | refine XS.asg ?_ | refine XS.par3 ?_ | refine XS.par ?_ | refine XS.retN ?_ | refine XS.next ?_) | (guard_target =~ XE _ _ _ _ _; first | refine XE.var rfl ?_ | refine XE.int ?_ | refine XE.bl ?_ | refine XE.str ?_ | refine XE.non ?_ | refine XE.ixO rfl ?_ | refine XE.lenO rfl ?_ | refine XE.op dr_I0 ?_ | refine XE.op dr_I ?_ | refine XE.op dr_ixL ?_ | refine XE.op dr_ixT ?_ | refine XE.op dr_eq ?_ | refine XE.op dr_ne ?_ | refine XE.op dr_eqD ?_ | refine XE.op dr_neD ?_ | refine XE.op dr_isN ?_ | refine XE.op dr_notN ?_ | refine XE.op dr_eqO ?_ | refine XE.op dr_neO ?_ | refine XE.unI ?_ | refine XE.tup ?_ | refine XE.ofN (XN.lst ?_) | refine XE.ofN (XN.op dn_cat ?_) | refine XE.ofN (XN.op dn_rep ?_) | refine XE.ofN (XN.sl ?_) | refine XE.ofN (XN.cb dn_listOf ?_) | refine XE.cb db_abs ?_ | refine XE.cb db_max2 ?_ | refine XE.len1 ?_ | refine XE.cb db_lenO ?_ | refine XE.cb db_int1 ?_ | refine XE.call ?_ | refine XE.callX0 ?_ | refine XE.callP rfl ?_ | refine XE.andV ?_ | refine XE.orV ?_ | refine XE.notV ?_ | refine XE.ifE ?_ | refine XE.make ?_ | refine XE.isC ?_ | refine XE.isTy ?_ | refine XE.fld hH.cls hH.poly ?_ | refine XE.fld hH.cls hH.rows ?_ | refine XE.fld hH.cls hH.ways ?_ | refine XE.fld hN.cls hN.home ?_ | refine XE.fld hN.cls hN.parts ?_ | refine XE.km rfl ?_ | refine XE.kmX0 rfl ?_ | refine XE.kc rfl ?_ | refine XE.kcX0 rfl ?_) | (guard_target =~ XN _ _ _ _ _; first | refine XN.lst ?_ | refine XN.op dn_cat ?_ | refine XN.op dn_rep ?_ | refine XN.sl ?_ | refine XN.cb dn_listOf ?_) | (guard_target =~ XA _ _ _ _ _; first | refine XA.nil ?_ | refine XA.cons ?_) | (guard_target =~ XT _ _ _ _ _; first | refine XT.test ?_ | refine XT.b ?_ | refine XT.not ?_ | refine XT.and ?_ | refine XT.or ?_ | refine XT.yes ?_) | (guard_target =~ XO _ _ _ _ _; first | refine XO.no ?_ | refine XO.yes ?_) | (guard_target =~ XGs _ _ _ _ _ _; first | refine XGs.cons ?_ | refine XGs.nil ?_) | (guard_target =~ XG _ _ _ _ _ _; first | refine XG.name rfl ?_ | refine XG.tupG rfl ?_ | refine XG.unlG rfl ?_) | refine go_len1 rfl ?_ | refine go_fld rfl ?_ | refine go_ins rfl rfl ?_ | refine go_kc rfl rfl ?_ | refine go_isC ?_ | refine go_isTy rfl (by first | exact kb_int_int | exact kb_int_bool | exact kb_bool_int | exact kb_bool_bool | exact kb_str_str | exact kb_list_list | exact kb_tuple_tuple | exact kb_tuple_list | exact kb_list_tuple | exact kb_NoneType_list | exact kb_NoneType_int | exact kb_str_int | exact kb_int_list | exact kb_int_tuple | exact kb_NoneType_tuple | exact kb_list_int | exact kb_tuple_int | exact kb_str_bool) ?_ | refine go_non ?_ | refine go_I0 ?_ | refine go_I ?_ ?_ | refine go_ix rfl ?_ | refine go_ixT rfl ?_ | refine go_eq rfl rfl rfl ?_ | refine go_ne rfl rfl rfl ?_ | refine go_len rfl ?_ | refine go_cat ?_ ?_ | refine go_rep ?_ ?_ ?_ ?_ | refine go_un ?_ | refine go_int ?_ | refine go_lst ?_ | refine go_tup ?_ | refine go_str ?_ | refine go_bl ?_ | refine go_ixO rfl ?_ | refine go_put rfl ?_ | refine go_ext ?_ ?_ | refine go_app ?_ ?_ | refine go_rg1 ?_ ?_ | refine go_rg2 ?_ ?_ | refine go_rg3 ?_ ?_ | refine go_enum ?_ | refine go_zipS ?_ ?_ | refine go_zip ?_))
    refine ⟨_, rfl, ?_⟩
    (repeat' (first | (guard_target =~ XS _ _ _ _ _; first | exact XS.next | refine XS.next ?_ | refine XS.seq ?_ | refine XS.set ?_ | refine XS.ret ?_ | refine XS.ite ?_ | refine XS.drop ?_ | refine XS.asg ?_ | refine XS.par3 ?_ | refine XS.par ?_ | refine XS.retN ?_ | refine XS.next ?_) | (guard_target =~ XE _ _ _ _ _; first | refine XE.var rfl ?_ | refine XE.int ?_ | refine XE.bl ?_ | refine XE.str ?_ | refine XE.non ?_ | refine XE.ixO rfl ?_ | refine XE.lenO rfl ?_ | refine XE.op dr_I0 ?_ | refine XE.op dr_I ?_ | refine XE.op dr_ixL ?_ | refine XE.op dr_ixT ?_ | refine XE.op dr_eq ?_ | refine XE.op dr_ne ?_ | refine XE.op dr_eqD ?_ | refine XE.op dr_neD ?_ | refine XE.op dr_isN ?_ | refine XE.op dr_notN ?_ | refine XE.op dr_eqO ?_ | refine XE.op dr_neO ?_ | refine XE.unI ?_ | refine XE.tup ?_ | refine XE.ofN (XN.lst ?_) | refine XE.ofN (XN.op dn_cat ?_) | refine XE.ofN (XN.op dn_rep ?_) | refine XE.ofN (XN.sl ?_) | refine XE.ofN (XN.cb dn_listOf ?_) | refine XE.cb db_abs ?_ | refine XE.cb db_max2 ?_ | refine XE.len1 ?_ | refine XE.cb db_lenO ?_ | refine XE.cb db_int1 ?_ | refine XE.call ?_ | refine XE.callX0 ?_ | refine XE.callP rfl ?_ | refine XE.andV ?_ | refine XE.orV ?_ | refine XE.notV ?_ | refine XE.ifE ?_ | refine XE.make ?_ | refine XE.isC ?_ | refine XE.isTy ?_ | refine XE.fld hH.cls hH.poly ?_ | refine XE.fld hH.cls hH.rows ?_ | refine XE.fld hH.cls hH.ways ?_ | refine XE.fld hN.cls hN.home ?_ | refine XE.fld hN.cls hN.parts ?_ | refine XE.km rfl ?_ | refine XE.kmX0 rfl ?_ | refine XE.kc rfl ?_ | refine XE.kcX0 rfl ?_) | (guard_target =~ XN _ _ _ _ _; first | refine XN.lst ?_ | refine XN.op dn_cat ?_ | refine XN.op dn_rep ?_ | refine XN.sl ?_ | refine XN.cb dn_listOf ?_) | (guard_target =~ XA _ _ _ _ _; first | refine XA.nil ?_ | refine XA.cons ?_) | (guard_target =~ XT _ _ _ _ _; first | refine XT.test ?_ | refine XT.b ?_ | refine XT.not ?_ | refine XT.and ?_ | refine XT.or ?_ | refine XT.yes ?_) | (guard_target =~ XO _ _ _ _ _; first | refine XO.no ?_ | refine XO.yes ?_) | (guard_target =~ XGs _ _ _ _ _ _; first | refine XGs.cons ?_ | refine XGs.nil ?_) | (guard_target =~ XG _ _ _ _ _ _; first | refine XG.name rfl ?_ | refine XG.tupG rfl ?_ | refine XG.unlG rfl ?_) | refine go_len1 rfl ?_ | refine go_fld rfl ?_ | refine go_ins rfl rfl ?_ | refine go_kc rfl rfl ?_ | refine go_isC ?_ | refine go_isTy rfl (by first | exact kb_int_int | exact kb_int_bool | exact kb_bool_int | exact kb_bool_bool | exact kb_str_str | exact kb_list_list | exact kb_tuple_tuple | exact kb_tuple_list | exact kb_list_tuple | exact kb_NoneType_list | exact kb_NoneType_int | exact kb_str_int | exact kb_int_list | exact kb_int_tuple | exact kb_NoneType_tuple | exact kb_list_int | exact kb_tuple_int | exact kb_str_bool) ?_ | refine go_non ?_ | refine go_I0 ?_ | refine go_I ?_ ?_ | refine go_ix rfl ?_ | refine go_ixT rfl ?_ | refine go_eq rfl rfl rfl ?_ | refine go_ne rfl rfl rfl ?_ | refine go_len rfl ?_ | refine go_cat ?_ ?_ | refine go_rep ?_ ?_ ?_ ?_ | refine go_un ?_ | refine go_int ?_ | refine go_lst ?_ | refine go_tup ?_ | refine go_str ?_ | refine go_bl ?_ | refine go_ixO rfl ?_ | refine go_put rfl ?_ | refine go_ext ?_ ?_ | refine go_app ?_ ?_ | refine go_rg1 ?_ ?_ | refine go_rg2 ?_ ?_ | refine go_rg3 ?_ ?_ | refine go_enum ?_ | refine go_zipS ?_ ?_ | refine go_zip ?_))
    · exact Nat.le_of_ble_eq_true rfl
    refine XE.newA rfl ?_
    (repeat' (first | (guard_target =~ XS _ _ _ _ _; first | exact XS.next | refine XS.next ?_ | refine XS.seq ?_ | refine XS.set ?_ | refine XS.ret ?_ | refine XS.ite ?_ | refine XS.drop ?_ | refine XS.asg ?_ | refine XS.par3 ?_ | refine XS.par ?_ | refine XS.retN ?_ | refine XS.next ?_) | (guard_target =~ XE _ _ _ _ _; first | refine XE.var rfl ?_ | refine XE.int ?_ | refine XE.bl ?_ | refine XE.str ?_ | refine XE.non ?_ | refine XE.ixO rfl ?_ | refine XE.lenO rfl ?_ | refine XE.op dr_I0 ?_ | refine XE.op dr_I ?_ | refine XE.op dr_ixL ?_ | refine XE.op dr_ixT ?_ | refine XE.op dr_eq ?_ | refine XE.op dr_ne ?_ | refine XE.op dr_eqD ?_ | refine XE.op dr_neD ?_ | refine XE.op dr_isN ?_ | refine XE.op dr_notN ?_ | refine XE.op dr_eqO ?_ | refine XE.op dr_neO ?_ | refine XE.unI ?_ | refine XE.tup ?_ | refine XE.ofN (XN.lst ?_) | refine XE.ofN (XN.op dn_cat ?_) | refine XE.ofN (XN.op dn_rep ?_) | refine XE.ofN (XN.sl ?_) | refine XE.ofN (XN.cb dn_listOf ?_) | refine XE.cb db_abs ?_ | refine XE.cb db_max2 ?_ | refine XE.len1 ?_ | refine XE.cb db_lenO ?_ | refine XE.cb db_int1 ?_ | refine XE.call ?_ | refine XE.callX0 ?_ | refine XE.callP rfl ?_ | refine XE.andV ?_ | refine XE.orV ?_ | refine XE.notV ?_ | refine XE.ifE ?_ | refine XE.make ?_ | refine XE.isC ?_ | refine XE.isTy ?_ | refine XE.fld hH.cls hH.poly ?_ | refine XE.fld hH.cls hH.rows ?_ | refine XE.fld hH.cls hH.ways ?_ | refine XE.fld hN.cls hN.home ?_ | refine XE.fld hN.cls hN.parts ?_ | refine XE.km rfl ?_ | refine XE.kmX0 rfl ?_ | refine XE.kc rfl ?_ | refine XE.kcX0 rfl ?_) | (guard_target =~ XN _ _ _ _ _; first | refine XN.lst ?_ | refine XN.op dn_cat ?_ | refine XN.op dn_rep ?_ | refine XN.sl ?_ | refine XN.cb dn_listOf ?_) | (guard_target =~ XA _ _ _ _ _; first | refine XA.nil ?_ | refine XA.cons ?_) | (guard_target =~ XT _ _ _ _ _; first | refine XT.test ?_ | refine XT.b ?_ | refine XT.not ?_ | refine XT.and ?_ | refine XT.or ?_ | refine XT.yes ?_) | (guard_target =~ XO _ _ _ _ _; first | refine XO.no ?_ | refine XO.yes ?_) | (guard_target =~ XGs _ _ _ _ _ _; first | refine XGs.cons ?_ | refine XGs.nil ?_) | (guard_target =~ XG _ _ _ _ _ _; first | refine XG.name rfl ?_ | refine XG.tupG rfl ?_ | refine XG.unlG rfl ?_) | refine go_len1 rfl ?_ | refine go_fld rfl ?_ | refine go_ins rfl rfl ?_ | refine go_kc rfl rfl ?_ | refine go_isC ?_ | refine go_isTy rfl (by first | exact kb_int_int | exact kb_int_bool | exact kb_bool_int | exact kb_bool_bool | exact kb_str_str | exact kb_list_list | exact kb_tuple_tuple | exact kb_tuple_list | exact kb_list_tuple | exact kb_NoneType_list | exact kb_NoneType_int | exact kb_str_int | exact kb_int_list | exact kb_int_tuple | exact kb_NoneType_tuple | exact kb_list_int | exact kb_tuple_int | exact kb_str_bool) ?_ | refine go_non ?_ | refine go_I0 ?_ | refine go_I ?_ ?_ | refine go_ix rfl ?_ | refine go_ixT rfl ?_ | refine go_eq rfl rfl rfl ?_ | refine go_ne rfl rfl rfl ?_ | refine go_len rfl ?_ | refine go_cat ?_ ?_ | refine go_rep ?_ ?_ ?_ ?_ | refine go_un ?_ | refine go_int ?_ | refine go_lst ?_ | refine go_tup ?_ | refine go_str ?_ | refine go_bl ?_ | refine go_ixO rfl ?_ | refine go_put rfl ?_ | refine go_ext ?_ ?_ | refine go_app ?_ ?_ | refine go_rg1 ?_ ?_ | refine go_rg2 ?_ ?_ | refine go_rg3 ?_ ?_ | refine go_enum ?_ | refine go_zipS ?_ ?_ | refine go_zip ?_))
    refine ⟨_, rfl, ?_⟩
    (repeat' (first | (guard_target =~ XS _ _ _ _ _; first | exact XS.next | refine XS.next ?_ | refine XS.seq ?_ | refine XS.set ?_ | refine XS.ret ?_ | refine XS.ite ?_ | refine XS.drop ?_ | refine XS.asg ?_ | refine XS.par3 ?_ | refine XS.par ?_ | refine XS.retN ?_ | refine XS.next ?_) | (guard_target =~ XE _ _ _ _ _; first | refine XE.var rfl ?_ | refine XE.int ?_ | refine XE.bl ?_ | refine XE.str ?_ | refine XE.non ?_ | refine XE.ixO rfl ?_ | refine XE.lenO rfl ?_ | refine XE.op dr_I0 ?_ | refine XE.op dr_I ?_ | refine XE.op dr_ixL ?_ | refine XE.op dr_ixT ?_ | refine XE.op dr_eq ?_ | refine XE.op dr_ne ?_ | refine XE.op dr_eqD ?_ | refine XE.op dr_neD ?_ | refine XE.op dr_isN ?_ | refine XE.op dr_notN ?_ | refine XE.op dr_eqO ?_ | refine XE.op dr_neO ?_ | refine XE.unI ?_ | refine XE.tup ?_ | refine XE.ofN (XN.lst ?_) | refine XE.ofN (XN.op dn_cat ?_) | refine XE.ofN (XN.op dn_rep ?_) | refine XE.ofN (XN.sl ?_) | refine XE.ofN (XN.cb dn_listOf ?_) | refine XE.cb db_abs ?_ | refine XE.cb db_max2 ?_ | refine XE.len1 ?_ | refine XE.cb db_lenO ?_ | refine XE.cb db_int1 ?_ | refine XE.call ?_ | refine XE.callX0 ?_ | refine XE.callP rfl ?_ | refine XE.andV ?_ | refine XE.orV ?_ | refine XE.notV ?_ | refine XE.ifE ?_ | refine XE.make ?_ | refine XE.isC ?_ | refine XE.isTy ?_ | refine XE.fld hH.cls hH.poly ?_ | refine XE.fld hH.cls hH.rows ?_ | refine XE.fld hH.cls hH.ways ?_ | refine XE.fld hN.cls hN.home ?_ | refine XE.fld hN.cls hN.parts ?_ | refine XE.km rfl ?_ | refine XE.kmX0 rfl ?_ | refine XE.kc rfl ?_ | refine XE.kcX0 rfl ?_) | (guard_target =~ XN _ _ _ _ _; first | refine XN.lst ?_ | refine XN.op dn_cat ?_ | refine XN.op dn_rep ?_ | refine XN.sl ?_ | refine XN.cb dn_listOf ?_) | (guard_target =~ XA _ _ _ _ _; first | refine XA.nil ?_ | refine XA.cons ?_) | (guard_target =~ XT _ _ _ _ _; first | refine XT.test ?_ | refine XT.b ?_ | refine XT.not ?_ | refine XT.and ?_ | refine XT.or ?_ | refine XT.yes ?_) | (guard_target =~ XO _ _ _ _ _; first | refine XO.no ?_ | refine XO.yes ?_) | (guard_target =~ XGs _ _ _ _ _ _; first | refine XGs.cons ?_ | refine XGs.nil ?_) | (guard_target =~ XG _ _ _ _ _ _; first | refine XG.name rfl ?_ | refine XG.tupG rfl ?_ | refine XG.unlG rfl ?_) | refine go_len1 rfl ?_ | refine go_fld rfl ?_ | refine go_ins rfl rfl ?_ | refine go_kc rfl rfl ?_ | refine go_isC ?_ | refine go_isTy rfl (by first | exact kb_int_int | exact kb_int_bool | exact kb_bool_int | exact kb_bool_bool | exact kb_str_str | exact kb_list_list | exact kb_tuple_tuple | exact kb_tuple_list | exact kb_list_tuple | exact kb_NoneType_list | exact kb_NoneType_int | exact kb_str_int | exact kb_int_list | exact kb_int_tuple | exact kb_NoneType_tuple | exact kb_list_int | exact kb_tuple_int | exact kb_str_bool) ?_ | refine go_non ?_ | refine go_I0 ?_ | refine go_I ?_ ?_ | refine go_ix rfl ?_ | refine go_ixT rfl ?_ | refine go_eq rfl rfl rfl ?_ | refine go_ne rfl rfl rfl ?_ | refine go_len rfl ?_ | refine go_cat ?_ ?_ | refine go_rep ?_ ?_ ?_ ?_ | refine go_un ?_ | refine go_int ?_ | refine go_lst ?_ | refine go_tup ?_ | refine go_str ?_ | refine go_bl ?_ | refine go_ixO rfl ?_ | refine go_put rfl ?_ | refine go_ext ?_ ?_ | refine go_app ?_ ?_ | refine go_rg1 ?_ ?_ | refine go_rg2 ?_ ?_ | refine go_rg3 ?_ ?_ | refine go_enum ?_ | refine go_zipS ?_ ?_ | refine go_zip ?_))
    refine XE.newA rfl ?_
    (repeat' (first | (guard_target =~ XS _ _ _ _ _; first | exact XS.next | refine XS.next ?_ | refine XS.seq ?_ | refine XS.set ?_ | refine XS.ret ?_ | refine XS.ite ?_ | refine XS.drop ?_ | refine XS.asg ?_ | refine XS.par3 ?_ | refine XS.par ?_ | refine XS.retN ?_ | refine XS.next ?_) | (guard_target =~ XE _ _ _ _ _; first | refine XE.var rfl ?_ | refine XE.int ?_ | refine XE.bl ?_ | refine XE.str ?_ | refine XE.non ?_ | refine XE.ixO rfl ?_ | refine XE.lenO rfl ?_ | refine XE.op dr_I0 ?_ | refine XE.op dr_I ?_ | refine XE.op dr_ixL ?_ | refine XE.op dr_ixT ?_ | refine XE.op dr_eq ?_ | refine XE.op dr_ne ?_ | refine XE.op dr_eqD ?_ | refine XE.op dr_neD ?_ | refine XE.op dr_isN ?_ | refine XE.op dr_notN ?_ | refine XE.op dr_eqO ?_ | refine XE.op dr_neO ?_ | refine XE.unI ?_ | refine XE.tup ?_ | refine XE.ofN (XN.lst ?_) | refine XE.ofN (XN.op dn_cat ?_) | refine XE.ofN (XN.op dn_rep ?_) | refine XE.ofN (XN.sl ?_) | refine XE.ofN (XN.cb dn_listOf ?_) | refine XE.cb db_abs ?_ | refine XE.cb db_max2 ?_ | refine XE.len1 ?_ | refine XE.cb db_lenO ?_ | refine XE.cb db_int1 ?_ | refine XE.call ?_ | refine XE.callX0 ?_ | refine XE.callP rfl ?_ | refine XE.andV ?_ | refine XE.orV ?_ | refine XE.notV ?_ | refine XE.ifE ?_ | refine XE.make ?_ | refine XE.isC ?_ | refine XE.isTy ?_ | refine XE.fld hH.cls hH.poly ?_ | refine XE.fld hH.cls hH.rows ?_ | refine XE.fld hH.cls hH.ways ?_ | refine XE.fld hN.cls hN.home ?_ | refine XE.fld hN.cls hN.parts ?_ | refine XE.km rfl ?_ | refine XE.kmX0 rfl ?_ | refine XE.kc rfl ?_ | refine XE.kcX0 rfl ?_) | (guard_target =~ XN _ _ _ _ _; first | refine XN.lst ?_ | refine XN.op dn_cat ?_ | refine XN.op dn_rep ?_ | refine XN.sl ?_ | refine XN.cb dn_listOf ?_) | (guard_target =~ XA _ _ _ _ _; first | refine XA.nil ?_ | refine XA.cons ?_) | (guard_target =~ XT _ _ _ _ _; first | refine XT.test ?_ | refine XT.b ?_ | refine XT.not ?_ | refine XT.and ?_ | refine XT.or ?_ | refine XT.yes ?_) | (guard_target =~ XO _ _ _ _ _; first | refine XO.no ?_ | refine XO.yes ?_) | (guard_target =~ XGs _ _ _ _ _ _; first | refine XGs.cons ?_ | refine XGs.nil ?_) | (guard_target =~ XG _ _ _ _ _ _; first | refine XG.name rfl ?_ | refine XG.tupG rfl ?_ | refine XG.unlG rfl ?_) | refine go_len1 rfl ?_ | refine go_fld rfl ?_ | refine go_ins rfl rfl ?_ | refine go_kc rfl rfl ?_ | refine go_isC ?_ | refine go_isTy rfl (by first | exact kb_int_int | exact kb_int_bool | exact kb_bool_int | exact kb_bool_bool | exact kb_str_str | exact kb_list_list | exact kb_tuple_tuple | exact kb_tuple_list | exact kb_list_tuple | exact kb_NoneType_list | exact kb_NoneType_int | exact kb_str_int | exact kb_int_list | exact kb_int_tuple | exact kb_NoneType_tuple | exact kb_list_int | exact kb_tuple_int | exact kb_str_bool) ?_ | refine go_non ?_ | refine go_I0 ?_ | refine go_I ?_ ?_ | refine go_ix rfl ?_ | refine go_ixT rfl ?_ | refine go_eq rfl rfl rfl ?_ | refine go_ne rfl rfl rfl ?_ | refine go_len rfl ?_ | refine go_cat ?_ ?_ | refine go_rep ?_ ?_ ?_ ?_ | refine go_un ?_ | refine go_int ?_ | refine go_lst ?_ | refine go_tup ?_ | refine go_str ?_ | refine go_bl ?_ | refine go_ixO rfl ?_ | refine go_put rfl ?_ | refine go_ext ?_ ?_ | refine go_app ?_ ?_ | refine go_rg1 ?_ ?_ | refine go_rg2 ?_ ?_ | refine go_rg3 ?_ ?_ | refine go_enum ?_ | refine go_zipS ?_ ?_ | refine go_zip ?_))
    refine ⟨_, rfl, ?_⟩
    (repeat' (first | (guard_target =~ XS _ _ _ _ _; first | exact XS.next | refine XS.next ?_ | refine XS.seq ?_ | refine XS.set ?_ | refine XS.ret ?_ | refine XS.ite ?_ | refine XS.drop ?_ | refine XS.asg ?_ | refine XS.par3 ?_ | refine XS.par ?_ | refine XS.retN ?_ | refine XS.next ?_) | (guard_target =~ XE _ _ _ _ _; first | refine XE.var rfl ?_ | refine XE.int ?_ | refine XE.bl ?_ | refine XE.str ?_ | refine XE.non ?_ | refine XE.ixO rfl ?_ | refine XE.lenO rfl ?_ | refine XE.op dr_I0 ?_ | refine XE.op dr_I ?_ | refine XE.op dr_ixL ?_ | refine XE.op dr_ixT ?_ | refine XE.op dr_eq ?_ | refine XE.op dr_ne ?_ | refine XE.op dr_eqD ?_ | refine XE.op dr_neD ?_ | refine XE.op dr_isN ?_ | refine XE.op dr_notN ?_ | refine XE.op dr_eqO ?_ | refine XE.op dr_neO ?_ | refine XE.unI ?_ | refine XE.tup ?_ | refine XE.ofN (XN.lst ?_) | refine XE.ofN (XN.op dn_cat ?_) | refine XE.ofN (XN.op dn_rep ?_) | refine XE.ofN (XN.sl ?_) | refine XE.ofN (XN.cb dn_listOf ?_) | refine XE.cb db_abs ?_ | refine XE.cb db_max2 ?_ | refine XE.len1 ?_ | refine XE.cb db_lenO ?_ | refine XE.cb db_int1 ?_ | refine XE.call ?_ | refine XE.callX0 ?_ | refine XE.callP rfl ?_ | refine XE.andV ?_ | refine XE.orV ?_ | refine XE.notV ?_ | refine XE.ifE ?_ | refine XE.make ?_ | refine XE.isC ?_ | refine XE.isTy ?_ | refine XE.fld hH.cls hH.poly ?_ | refine XE.fld hH.cls hH.rows ?_ | refine XE.fld hH.cls hH.ways ?_ | refine XE.fld hN.cls hN.home ?_ | refine XE.fld hN.cls hN.parts ?_ | refine XE.km rfl ?_ | refine XE.kmX0 rfl ?_ | refine XE.kc rfl ?_ | refine XE.kcX0 rfl ?_) | (guard_target =~ XN _ _ _ _ _; first | refine XN.lst ?_ | refine XN.op dn_cat ?_ | refine XN.op dn_rep ?_ | refine XN.sl ?_ | refine XN.cb dn_listOf ?_) | (guard_target =~ XA _ _ _ _ _; first | refine XA.nil ?_ | refine XA.cons ?_) | (guard_target =~ XT _ _ _ _ _; first | refine XT.test ?_ | refine XT.b ?_ | refine XT.not ?_ | refine XT.and ?_ | refine XT.or ?_ | refine XT.yes ?_) | (guard_target =~ XO _ _ _ _ _; first | refine XO.no ?_ | refine XO.yes ?_) | (guard_target =~ XGs _ _ _ _ _ _; first | refine XGs.cons ?_ | refine XGs.nil ?_) | (guard_target =~ XG _ _ _ _ _ _; first | refine XG.name rfl ?_ | refine XG.tupG rfl ?_ | refine XG.unlG rfl ?_) | refine go_len1 rfl ?_ | refine go_fld rfl ?_ | refine go_ins rfl rfl ?_ | refine go_kc rfl rfl ?_ | refine go_isC ?_ | refine go_isTy rfl (by first | exact kb_int_int | exact kb_int_bool | exact kb_bool_int | exact kb_bool_bool | exact kb_str_str | exact kb_list_list | exact kb_tuple_tuple | exact kb_tuple_list | exact kb_list_tuple | exact kb_NoneType_list | exact kb_NoneType_int | exact kb_str_int | exact kb_int_list | exact kb_int_tuple | exact kb_NoneType_tuple | exact kb_list_int | exact kb_tuple_int | exact kb_str_bool) ?_ | refine go_non ?_ | refine go_I0 ?_ | refine go_I ?_ ?_ | refine go_ix rfl ?_ | refine go_ixT rfl ?_ | refine go_eq rfl rfl rfl ?_ | refine go_ne rfl rfl rfl ?_ | refine go_len rfl ?_ | refine go_cat ?_ ?_ | refine go_rep ?_ ?_ ?_ ?_ | refine go_un ?_ | refine go_int ?_ | refine go_lst ?_ | refine go_tup ?_ | refine go_str ?_ | refine go_bl ?_ | refine go_ixO rfl ?_ | refine go_put rfl ?_ | refine go_ext ?_ ?_ | refine go_app ?_ ?_ | refine go_rg1 ?_ ?_ | refine go_rg2 ?_ ?_ | refine go_rg3 ?_ ?_ | refine go_enum ?_ | refine go_zipS ?_ ?_ | refine go_zip ?_))
    any_goals (try exact Nat.le_of_ble_eq_true rfl)
    show XS z _ [.raw (.ref a), .pu, .dt (.int pl), .dt (.int (nu - 50)), .dt (.str wo), .dt (.lst (rowD c .non .non (.str "") (.str ""))), .dt (.lst (rowD c (.int pl) (.int (nu - 50)) (.str wo) (.str wo))), .dt (.lst (rowD c (.int pl) (.int (nu - 50)) (.str wo) (.str wo))), .un, .un] _ _
    refine XS.for (XI.list ?_)
    (repeat' (first | (guard_target =~ XS _ _ _ _ _; first | exact XS.next | refine XS.next ?_ | refine XS.seq ?_ | refine XS.set ?_ | refine XS.ret ?_ | refine XS.ite ?_ | refine XS.drop ?_ | refine XS.asg ?_ | refine XS.par3 ?_ | refine XS.par ?_ | refine XS.retN ?_ | refine XS.next ?_) | (guard_target =~ XE _ _ _ _ _; first | refine XE.var rfl ?_ | refine XE.int ?_ | refine XE.bl ?_ | refine XE.str ?_ | refine XE.non ?_ | refine XE.ixO rfl ?_ | refine XE.lenO rfl ?_ | refine XE.op dr_I0 ?_ | refine XE.op dr_I ?_ | refine XE.op dr_ixL ?_ | refine XE.op dr_ixT ?_ | refine XE.op dr_eq ?_ | refine XE.op dr_ne ?_ | refine XE.op dr_eqD ?_ | refine XE.op dr_neD ?_ | refine XE.op dr_isN ?_ | refine XE.op dr_notN ?_ | refine XE.op dr_eqO ?_ | refine XE.op dr_neO ?_ | refine XE.unI ?_ | refine XE.tup ?_ | refine XE.ofN (XN.lst ?_) | refine XE.ofN (XN.op dn_cat ?_) | refine XE.ofN (XN.op dn_rep ?_) | refine XE.ofN (XN.sl ?_) | refine XE.ofN (XN.cb dn_listOf ?_) | refine XE.cb db_abs ?_ | refine XE.cb db_max2 ?_ | refine XE.len1 ?_ | refine XE.cb db_lenO ?_ | refine XE.cb db_int1 ?_ | refine XE.call ?_ | refine XE.callX0 ?_ | refine XE.callP rfl ?_ | refine XE.andV ?_ | refine XE.orV ?_ | refine XE.notV ?_ | refine XE.ifE ?_ | refine XE.make ?_ | refine XE.isC ?_ | refine XE.isTy ?_ | refine XE.fld hH.cls hH.poly ?_ | refine XE.fld hH.cls hH.rows ?_ | refine XE.fld hH.cls hH.ways ?_ | refine XE.fld hN.cls hN.home ?_ | refine XE.fld hN.cls hN.parts ?_ | refine XE.km rfl ?_ | refine XE.kmX0 rfl ?_ | refine XE.kc rfl ?_ | refine XE.kcX0 rfl ?_) | (guard_target =~ XN _ _ _ _ _; first | refine XN.lst ?_ | refine XN.op dn_cat ?_ | refine XN.op dn_rep ?_ | refine XN.sl ?_ | refine XN.cb dn_listOf ?_) | (guard_target =~ XA _ _ _ _ _; first | refine XA.nil ?_ | refine XA.cons ?_) | (guard_target =~ XT _ _ _ _ _; first | refine XT.test ?_ | refine XT.b ?_ | refine XT.not ?_ | refine XT.and ?_ | refine XT.or ?_ | refine XT.yes ?_) | (guard_target =~ XO _ _ _ _ _; first | refine XO.no ?_ | refine XO.yes ?_) | (guard_target =~ XGs _ _ _ _ _ _; first | refine XGs.cons ?_ | refine XGs.nil ?_) | (guard_target =~ XG _ _ _ _ _ _; first | refine XG.name rfl ?_ | refine XG.tupG rfl ?_ | refine XG.unlG rfl ?_) | refine go_len1 rfl ?_ | refine go_fld rfl ?_ | refine go_ins rfl rfl ?_ | refine go_kc rfl rfl ?_ | refine go_isC ?_ | refine go_isTy rfl (by first | exact kb_int_int | exact kb_int_bool | exact kb_bool_int | exact kb_bool_bool | exact kb_str_str | exact kb_list_list | exact kb_tuple_tuple | exact kb_tuple_list | exact kb_list_tuple | exact kb_NoneType_list | exact kb_NoneType_int | exact kb_str_int | exact kb_int_list | exact kb_int_tuple | exact kb_NoneType_tuple | exact kb_list_int | exact kb_tuple_int | exact kb_str_bool) ?_ | refine go_non ?_ | refine go_I0 ?_ | refine go_I ?_ ?_ | refine go_ix rfl ?_ | refine go_ixT rfl ?_ | refine go_eq rfl rfl rfl ?_ | refine go_ne rfl rfl rfl ?_ | refine go_len rfl ?_ | refine go_cat ?_ ?_ | refine go_rep ?_ ?_ ?_ ?_ | refine go_un ?_ | refine go_int ?_ | refine go_lst ?_ | refine go_tup ?_ | refine go_str ?_ | refine go_bl ?_ | refine go_ixO rfl ?_ | refine go_put rfl ?_ | refine go_ext ?_ ?_ | refine go_app ?_ ?_ | refine go_rg1 ?_ ?_ | refine go_rg2 ?_ ?_ | refine go_rg3 ?_ ?_ | refine go_enum ?_ | refine go_zipS ?_ ?_ | refine go_zip ?_))
    refine ⟨fun i g2 m2 => ∃ s8, g2 = [.raw (.ref a), .pu, .dt (.int pl), .dt (.int (nu - 50)), .dt (.str wo), .dt (.lst (rowD c .non .non (.str "") (.str ""))), .dt (.lst (rowD c (.int pl) (.int (nu - 50)) (.str wo) (.str wo))), .dt (.lst (rowD c (.int pl) (.int (nu - 50)) (.str wo) (.str wo))), s8, .un], ⟨_, rfl⟩, fun i d g2 m2 hi ⟨s8, e⟩ => ?_, fun g2 m2 ⟨s8, e⟩ => ?_⟩
    · subst e
      have ed : d = .lst (rowD c (.int pl) (.int (nu - 50)) (.str wo) (.str wo)) := by
        match i, hi with
        | 0, hi => exact (Option.some.inj hi).symm
        | 1, hi => exact (Option.some.inj hi).symm
        | i + 2, hi => cases hi
      subst ed
      (repeat' (first | (guard_target =~ XS _ _ _ _ _; first | exact XS.next | refine XS.next ?_ | refine XS.seq ?_ | refine XS.set ?_ | refine XS.ret ?_ | refine XS.ite ?_ | refine XS.drop ?_ | refine XS.asg ?_ | refine XS.par3 ?_ | refine XS.par ?_ | refine XS.retN ?_ | refine XS.next ?_) | (guard_target =~ XE _ _ _ _ _; first | refine XE.var rfl ?_ | refine XE.int ?_ | refine XE.bl ?_ | refine XE.str ?_ | refine XE.non ?_ | refine XE.ixO rfl ?_ | refine XE.lenO rfl ?_ | refine XE.op dr_I0 ?_ | refine XE.op dr_I ?_ | refine XE.op dr_ixL ?_ | refine XE.op dr_ixT ?_ | refine XE.op dr_eq ?_ | refine XE.op dr_ne ?_ | refine XE.op dr_eqD ?_ | refine XE.op dr_neD ?_ | refine XE.op dr_isN ?_ | refine XE.op dr_notN ?_ | refine XE.op dr_eqO ?_ | refine XE.op dr_neO ?_ | refine XE.unI ?_ | refine XE.tup ?_ | refine XE.ofN (XN.lst ?_) | refine XE.ofN (XN.op dn_cat ?_) | refine XE.ofN (XN.op dn_rep ?_) | refine XE.ofN (XN.sl ?_) | refine XE.ofN (XN.cb dn_listOf ?_) | refine XE.cb db_abs ?_ | refine XE.cb db_max2 ?_ | refine XE.len1 ?_ | refine XE.cb db_lenO ?_ | refine XE.cb db_int1 ?_ | refine XE.call ?_ | refine XE.callX0 ?_ | refine XE.callP rfl ?_ | refine XE.andV ?_ | refine XE.orV ?_ | refine XE.notV ?_ | refine XE.ifE ?_ | refine XE.make ?_ | refine XE.isC ?_ | refine XE.isTy ?_ | refine XE.fld hH.cls hH.poly ?_ | refine XE.fld hH.cls hH.rows ?_ | refine XE.fld hH.cls hH.ways ?_ | refine XE.fld hN.cls hN.home ?_ | refine XE.fld hN.cls hN.parts ?_ | refine XE.km rfl ?_ | refine XE.kmX0 rfl ?_ | refine XE.kc rfl ?_ | refine XE.kcX0 rfl ?_) | (guard_target =~ XN _ _ _ _ _; first | refine XN.lst ?_ | refine XN.op dn_cat ?_ | refine XN.op dn_rep ?_ | refine XN.sl ?_ | refine XN.cb dn_listOf ?_) | (guard_target =~ XA _ _ _ _ _; first | refine XA.nil ?_ | refine XA.cons ?_) | (guard_target =~ XT _ _ _ _ _; first | refine XT.test ?_ | refine XT.b ?_ | refine XT.not ?_ | refine XT.and ?_ | refine XT.or ?_ | refine XT.yes ?_) | (guard_target =~ XO _ _ _ _ _; first | refine XO.no ?_ | refine XO.yes ?_) | (guard_target =~ XGs _ _ _ _ _ _; first | refine XGs.cons ?_ | refine XGs.nil ?_) | (guard_target =~ XG _ _ _ _ _ _; first | refine XG.name rfl ?_ | refine XG.tupG rfl ?_ | refine XG.unlG rfl ?_) | refine go_len1 rfl ?_ | refine go_fld rfl ?_ | refine go_ins rfl rfl ?_ | refine go_kc rfl rfl ?_ | refine go_isC ?_ | refine go_isTy rfl (by first | exact kb_int_int | exact kb_int_bool | exact kb_bool_int | exact kb_bool_bool | exact kb_str_str | exact kb_list_list | exact kb_tuple_tuple | exact kb_tuple_list | exact kb_list_tuple | exact kb_NoneType_list | exact kb_NoneType_int | exact kb_str_int | exact kb_int_list | exact kb_int_tuple | exact kb_NoneType_tuple | exact kb_list_int | exact kb_tuple_int | exact kb_str_bool) ?_ | refine go_non ?_ | refine go_I0 ?_ | refine go_I ?_ ?_ | refine go_ix rfl ?_ | refine go_ixT rfl ?_ | refine go_eq rfl rfl rfl ?_ | refine go_ne rfl rfl rfl ?_ | refine go_len rfl ?_ | refine go_cat ?_ ?_ | refine go_rep ?_ ?_ ?_ ?_ | refine go_un ?_ | refine go_int ?_ | refine go_lst ?_ | refine go_tup ?_ | refine go_str ?_ | refine go_bl ?_ | refine go_ixO rfl ?_ | refine go_put rfl ?_ | refine go_ext ?_ ?_ | refine go_app ?_ ?_ | refine go_rg1 ?_ ?_ | refine go_rg2 ?_ ?_ | refine go_rg3 ?_ ?_ | refine go_enum ?_ | refine go_zipS ?_ ?_ | refine go_zip ?_))
      refine ⟨rowD_ok, ?_⟩
      (repeat' (first | (guard_target =~ XS _ _ _ _ _; first | exact XS.next | refine XS.next ?_ | refine XS.seq ?_ | refine XS.set ?_ | refine XS.ret ?_ | refine XS.ite ?_ | refine XS.drop ?_ | refine XS.asg ?_ | refine XS.par3 ?_ | refine XS.par ?_ | refine XS.retN ?_ | refine XS.next ?_) | (guard_target =~ XE _ _ _ _ _; first | refine XE.var rfl ?_ | refine XE.int ?_ | refine XE.bl ?_ | refine XE.str ?_ | refine XE.non ?_ | refine XE.ixO rfl ?_ | refine XE.lenO rfl ?_ | refine XE.op dr_I0 ?_ | refine XE.op dr_I ?_ | refine XE.op dr_ixL ?_ | refine XE.op dr_ixT ?_ | refine XE.op dr_eq ?_ | refine XE.op dr_ne ?_ | refine XE.op dr_eqD ?_ | refine XE.op dr_neD ?_ | refine XE.op dr_isN ?_ | refine XE.op dr_notN ?_ | refine XE.op dr_eqO ?_ | refine XE.op dr_neO ?_ | refine XE.unI ?_ | refine XE.tup ?_ | refine XE.ofN (XN.lst ?_) | refine XE.ofN (XN.op dn_cat ?_) | refine XE.ofN (XN.op dn_rep ?_) | refine XE.ofN (XN.sl ?_) | refine XE.ofN (XN.cb dn_listOf ?_) | refine XE.cb db_abs ?_ | refine XE.cb db_max2 ?_ | refine XE.len1 ?_ | refine XE.cb db_lenO ?_ | refine XE.cb db_int1 ?_ | refine XE.call ?_ | refine XE.callX0 ?_ | refine XE.callP rfl ?_ | refine XE.andV ?_ | refine XE.orV ?_ | refine XE.notV ?_ | refine XE.ifE ?_ | refine XE.make ?_ | refine XE.isC ?_ | refine XE.isTy ?_ | refine XE.fld hH.cls hH.poly ?_ | refine XE.fld hH.cls hH.rows ?_ | refine XE.fld hH.cls hH.ways ?_ | refine XE.fld hN.cls hN.home ?_ | refine XE.fld hN.cls hN.parts ?_ | refine XE.km rfl ?_ | refine XE.kmX0 rfl ?_ | refine XE.kc rfl ?_ | refine XE.kcX0 rfl ?_) | (guard_target =~ XN _ _ _ _ _; first | refine XN.lst ?_ | refine XN.op dn_cat ?_ | refine XN.op dn_rep ?_ | refine XN.sl ?_ | refine XN.cb dn_listOf ?_) | (guard_target =~ XA _ _ _ _ _; first | refine XA.nil ?_ | refine XA.cons ?_) | (guard_target =~ XT _ _ _ _ _; first | refine XT.test ?_ | refine XT.b ?_ | refine XT.not ?_ | refine XT.and ?_ | refine XT.or ?_ | refine XT.yes ?_) | (guard_target =~ XO _ _ _ _ _; first | refine XO.no ?_ | refine XO.yes ?_) | (guard_target =~ XGs _ _ _ _ _ _; first | refine XGs.cons ?_ | refine XGs.nil ?_) | (guard_target =~ XG _ _ _ _ _ _; first | refine XG.name rfl ?_ | refine XG.tupG rfl ?_ | refine XG.unlG rfl ?_) | refine go_len1 rfl ?_ | refine go_fld rfl ?_ | refine go_ins rfl rfl ?_ | refine go_kc rfl rfl ?_ | refine go_isC ?_ | refine go_isTy rfl (by first | exact kb_int_int | exact kb_int_bool | exact kb_bool_int | exact kb_bool_bool | exact kb_str_str | exact kb_list_list | exact kb_tuple_tuple | exact kb_tuple_list | exact kb_list_tuple | exact kb_NoneType_list | exact kb_NoneType_int | exact kb_str_int | exact kb_int_list | exact kb_int_tuple | exact kb_NoneType_tuple | exact kb_list_int | exact kb_tuple_int | exact kb_str_bool) ?_ | refine go_non ?_ | refine go_I0 ?_ | refine go_I ?_ ?_ | refine go_ix rfl ?_ | refine go_ixT rfl ?_ | refine go_eq rfl rfl rfl ?_ | refine go_ne rfl rfl rfl ?_ | refine go_len rfl ?_ | refine go_cat ?_ ?_ | refine go_rep ?_ ?_ ?_ ?_ | refine go_un ?_ | refine go_int ?_ | refine go_lst ?_ | refine go_tup ?_ | refine go_str ?_ | refine go_bl ?_ | refine go_ixO rfl ?_ | refine go_put rfl ?_ | refine go_ext ?_ ?_ | refine go_app ?_ ?_ | refine go_rg1 ?_ ?_ | refine go_rg2 ?_ ?_ | refine go_rg3 ?_ ?_ | refine go_enum ?_ | refine go_zipS ?_ ?_ | refine go_zip ?_))
      refine XE.kf ?_
      (repeat' (first | (guard_target =~ XS _ _ _ _ _; first | exact XS.next | refine XS.next ?_ | refine XS.seq ?_ | refine XS.set ?_ | refine XS.ret ?_ | refine XS.ite ?_ | refine XS.drop ?_ | refine XS.asg ?_ | refine XS.par3 ?_ | refine XS.par ?_ | refine XS.retN ?_ | refine XS.next ?_) | (guard_target =~ XE _ _ _ _ _; first | refine XE.var rfl ?_ | refine XE.int ?_ | refine XE.bl ?_ | refine XE.str ?_ | refine XE.non ?_ | refine XE.ixO rfl ?_ | refine XE.lenO rfl ?_ | refine XE.op dr_I0 ?_ | refine XE.op dr_I ?_ | refine XE.op dr_ixL ?_ | refine XE.op dr_ixT ?_ | refine XE.op dr_eq ?_ | refine XE.op dr_ne ?_ | refine XE.op dr_eqD ?_ | refine XE.op dr_neD ?_ | refine XE.op dr_isN ?_ | refine XE.op dr_notN ?_ | refine XE.op dr_eqO ?_ | refine XE.op dr_neO ?_ | refine XE.unI ?_ | refine XE.tup ?_ | refine XE.ofN (XN.lst ?_) | refine XE.ofN (XN.op dn_cat ?_) | refine XE.ofN (XN.op dn_rep ?_) | refine XE.ofN (XN.sl ?_) | refine XE.ofN (XN.cb dn_listOf ?_) | refine XE.cb db_abs ?_ | refine XE.cb db_max2 ?_ | refine XE.len1 ?_ | refine XE.cb db_lenO ?_ | refine XE.cb db_int1 ?_ | refine XE.call ?_ | refine XE.callX0 ?_ | refine XE.callP rfl ?_ | refine XE.andV ?_ | refine XE.orV ?_ | refine XE.notV ?_ | refine XE.ifE ?_ | refine XE.make ?_ | refine XE.isC ?_ | refine XE.isTy ?_ | refine XE.fld hH.cls hH.poly ?_ | refine XE.fld hH.cls hH.rows ?_ | refine XE.fld hH.cls hH.ways ?_ | refine XE.fld hN.cls hN.home ?_ | refine XE.fld hN.cls hN.parts ?_ | refine XE.km rfl ?_ | refine XE.kmX0 rfl ?_ | refine XE.kc rfl ?_ | refine XE.kcX0 rfl ?_) | (guard_target =~ XN _ _ _ _ _; first | refine XN.lst ?_ | refine XN.op dn_cat ?_ | refine XN.op dn_rep ?_ | refine XN.sl ?_ | refine XN.cb dn_listOf ?_) | (guard_target =~ XA _ _ _ _ _; first | refine XA.nil ?_ | refine XA.cons ?_) | (guard_target =~ XT _ _ _ _ _; first | refine XT.test ?_ | refine XT.b ?_ | refine XT.not ?_ | refine XT.and ?_ | refine XT.or ?_ | refine XT.yes ?_) | (guard_target =~ XO _ _ _ _ _; first | refine XO.no ?_ | refine XO.yes ?_) | (guard_target =~ XGs _ _ _ _ _ _; first | refine XGs.cons ?_ | refine XGs.nil ?_) | (guard_target =~ XG _ _ _ _ _ _; first | refine XG.name rfl ?_ | refine XG.tupG rfl ?_ | refine XG.unlG rfl ?_) | refine go_len1 rfl ?_ | refine go_fld rfl ?_ | refine go_ins rfl rfl ?_ | refine go_kc rfl rfl ?_ | refine go_isC ?_ | refine go_isTy rfl (by first | exact kb_int_int | exact kb_int_bool | exact kb_bool_int | exact kb_bool_bool | exact kb_str_str | exact kb_list_list | exact kb_tuple_tuple | exact kb_tuple_list | exact kb_list_tuple | exact kb_NoneType_list | exact kb_NoneType_int | exact kb_str_int | exact kb_int_list | exact kb_int_tuple | exact kb_NoneType_tuple | exact kb_list_int | exact kb_tuple_int | exact kb_str_bool) ?_ | refine go_non ?_ | refine go_I0 ?_ | refine go_I ?_ ?_ | refine go_ix rfl ?_ | refine go_ixT rfl ?_ | refine go_eq rfl rfl rfl ?_ | refine go_ne rfl rfl rfl ?_ | refine go_len rfl ?_ | refine go_cat ?_ ?_ | refine go_rep ?_ ?_ ?_ ?_ | refine go_un ?_ | refine go_int ?_ | refine go_lst ?_ | refine go_tup ?_ | refine go_str ?_ | refine go_bl ?_ | refine go_ixO rfl ?_ | refine go_put rfl ?_ | refine go_ext ?_ ?_ | refine go_app ?_ ?_ | refine go_rg1 ?_ ?_ | refine go_rg2 ?_ ?_ | refine go_rg3 ?_ ?_ | refine go_enum ?_ | refine go_zipS ?_ ?_ | refine go_zip ?_))
      refine ⟨_, _, _, rfl, ko.ex 0 (by decide), PK.n_at, rfl, ?_⟩
      (repeat' (first | (guard_target =~ XS _ _ _ _ _; first | exact XS.next | refine XS.next ?_ | refine XS.seq ?_ | refine XS.set ?_ | refine XS.ret ?_ | refine XS.ite ?_ | refine XS.drop ?_ | refine XS.asg ?_ | refine XS.par3 ?_ | refine XS.par ?_ | refine XS.retN ?_ | refine XS.next ?_) | (guard_target =~ XE _ _ _ _ _; first | refine XE.var rfl ?_ | refine XE.int ?_ | refine XE.bl ?_ | refine XE.str ?_ | refine XE.non ?_ | refine XE.ixO rfl ?_ | refine XE.lenO rfl ?_ | refine XE.op dr_I0 ?_ | refine XE.op dr_I ?_ | refine XE.op dr_ixL ?_ | refine XE.op dr_ixT ?_ | refine XE.op dr_eq ?_ | refine XE.op dr_ne ?_ | refine XE.op dr_eqD ?_ | refine XE.op dr_neD ?_ | refine XE.op dr_isN ?_ | refine XE.op dr_notN ?_ | refine XE.op dr_eqO ?_ | refine XE.op dr_neO ?_ | refine XE.unI ?_ | refine XE.tup ?_ | refine XE.ofN (XN.lst ?_) | refine XE.ofN (XN.op dn_cat ?_) | refine XE.ofN (XN.op dn_rep ?_) | refine XE.ofN (XN.sl ?_) | refine XE.ofN (XN.cb dn_listOf ?_) | refine XE.cb db_abs ?_ | refine XE.cb db_max2 ?_ | refine XE.len1 ?_ | refine XE.cb db_lenO ?_ | refine XE.cb db_int1 ?_ | refine XE.call ?_ | refine XE.callX0 ?_ | refine XE.callP rfl ?_ | refine XE.andV ?_ | refine XE.orV ?_ | refine XE.notV ?_ | refine XE.ifE ?_ | refine XE.make ?_ | refine XE.isC ?_ | refine XE.isTy ?_ | refine XE.fld hH.cls hH.poly ?_ | refine XE.fld hH.cls hH.rows ?_ | refine XE.fld hH.cls hH.ways ?_ | refine XE.fld hN.cls hN.home ?_ | refine XE.fld hN.cls hN.parts ?_ | refine XE.km rfl ?_ | refine XE.kmX0 rfl ?_ | refine XE.kc rfl ?_ | refine XE.kcX0 rfl ?_) | (guard_target =~ XN _ _ _ _ _; first | refine XN.lst ?_ | refine XN.op dn_cat ?_ | refine XN.op dn_rep ?_ | refine XN.sl ?_ | refine XN.cb dn_listOf ?_) | (guard_target =~ XA _ _ _ _ _; first | refine XA.nil ?_ | refine XA.cons ?_) | (guard_target =~ XT _ _ _ _ _; first | refine XT.test ?_ | refine XT.b ?_ | refine XT.not ?_ | refine XT.and ?_ | refine XT.or ?_ | refine XT.yes ?_) | (guard_target =~ XO _ _ _ _ _; first | refine XO.no ?_ | refine XO.yes ?_) | (guard_target =~ XGs _ _ _ _ _ _; first | refine XGs.cons ?_ | refine XGs.nil ?_) | (guard_target =~ XG _ _ _ _ _ _; first | refine XG.name rfl ?_ | refine XG.tupG rfl ?_ | refine XG.unlG rfl ?_) | refine go_len1 rfl ?_ | refine go_fld rfl ?_ | refine go_ins rfl rfl ?_ | refine go_kc rfl rfl ?_ | refine go_isC ?_ | refine go_isTy rfl (by first | exact kb_int_int | exact kb_int_bool | exact kb_bool_int | exact kb_bool_bool | exact kb_str_str | exact kb_list_list | exact kb_tuple_tuple | exact kb_tuple_list | exact kb_list_tuple | exact kb_NoneType_list | exact kb_NoneType_int | exact kb_str_int | exact kb_int_list | exact kb_int_tuple | exact kb_NoneType_tuple | exact kb_list_int | exact kb_tuple_int | exact kb_str_bool) ?_ | refine go_non ?_ | refine go_I0 ?_ | refine go_I ?_ ?_ | refine go_ix rfl ?_ | refine go_ixT rfl ?_ | refine go_eq rfl rfl rfl ?_ | refine go_ne rfl rfl rfl ?_ | refine go_len rfl ?_ | refine go_cat ?_ ?_ | refine go_rep ?_ ?_ ?_ ?_ | refine go_un ?_ | refine go_int ?_ | refine go_lst ?_ | refine go_tup ?_ | refine go_str ?_ | refine go_bl ?_ | refine go_ixO rfl ?_ | refine go_put rfl ?_ | refine go_ext ?_ ?_ | refine go_app ?_ ?_ | refine go_rg1 ?_ ?_ | refine go_rg2 ?_ ?_ | refine go_rg3 ?_ ?_ | refine go_enum ?_ | refine go_zipS ?_ ?_ | refine go_zip ?_))
      refine XE.kf ?_
      (repeat' (first | (guard_target =~ XS _ _ _ _ _; first | exact XS.next | refine XS.next ?_ | refine XS.seq ?_ | refine XS.set ?_ | refine XS.ret ?_ | refine XS.ite ?_ | refine XS.drop ?_ | refine XS.asg ?_ | refine XS.par3 ?_ | refine XS.par ?_ | refine XS.retN ?_ | refine XS.next ?_) | (guard_target =~ XE _ _ _ _ _; first | refine XE.var rfl ?_ | refine XE.int ?_ | refine XE.bl ?_ | refine XE.str ?_ | refine XE.non ?_ | refine XE.ixO rfl ?_ | refine XE.lenO rfl ?_ | refine XE.op dr_I0 ?_ | refine XE.op dr_I ?_ | refine XE.op dr_ixL ?_ | refine XE.op dr_ixT ?_ | refine XE.op dr_eq ?_ | refine XE.op dr_ne ?_ | refine XE.op dr_eqD ?_ | refine XE.op dr_neD ?_ | refine XE.op dr_isN ?_ | refine XE.op dr_notN ?_ | refine XE.op dr_eqO ?_ | refine XE.op dr_neO ?_ | refine XE.unI ?_ | refine XE.tup ?_ | refine XE.ofN (XN.lst ?_) | refine XE.ofN (XN.op dn_cat ?_) | refine XE.ofN (XN.op dn_rep ?_) | refine XE.ofN (XN.sl ?_) | refine XE.ofN (XN.cb dn_listOf ?_) | refine XE.cb db_abs ?_ | refine XE.cb db_max2 ?_ | refine XE.len1 ?_ | refine XE.cb db_lenO ?_ | refine XE.cb db_int1 ?_ | refine XE.call ?_ | refine XE.callX0 ?_ | refine XE.callP rfl ?_ | refine XE.andV ?_ | refine XE.orV ?_ | refine XE.notV ?_ | refine XE.ifE ?_ | refine XE.make ?_ | refine XE.isC ?_ | refine XE.isTy ?_ | refine XE.fld hH.cls hH.poly ?_ | refine XE.fld hH.cls hH.rows ?_ | refine XE.fld hH.cls hH.ways ?_ | refine XE.fld hN.cls hN.home ?_ | refine XE.fld hN.cls hN.parts ?_ | refine XE.km rfl ?_ | refine XE.kmX0 rfl ?_ | refine XE.kc rfl ?_ | refine XE.kcX0 rfl ?_) | (guard_target =~ XN _ _ _ _ _; first | refine XN.lst ?_ | refine XN.op dn_cat ?_ | refine XN.op dn_rep ?_ | refine XN.sl ?_ | refine XN.cb dn_listOf ?_) | (guard_target =~ XA _ _ _ _ _; first | refine XA.nil ?_ | refine XA.cons ?_) | (guard_target =~ XT _ _ _ _ _; first | refine XT.test ?_ | refine XT.b ?_ | refine XT.not ?_ | refine XT.and ?_ | refine XT.or ?_ | refine XT.yes ?_) | (guard_target =~ XO _ _ _ _ _; first | refine XO.no ?_ | refine XO.yes ?_) | (guard_target =~ XGs _ _ _ _ _ _; first | refine XGs.cons ?_ | refine XGs.nil ?_) | (guard_target =~ XG _ _ _ _ _ _; first | refine XG.name rfl ?_ | refine XG.tupG rfl ?_ | refine XG.unlG rfl ?_) | refine go_len1 rfl ?_ | refine go_fld rfl ?_ | refine go_ins rfl rfl ?_ | refine go_kc rfl rfl ?_ | refine go_isC ?_ | refine go_isTy rfl (by first | exact kb_int_int | exact kb_int_bool | exact kb_bool_int | exact kb_bool_bool | exact kb_str_str | exact kb_list_list | exact kb_tuple_tuple | exact kb_tuple_list | exact kb_list_tuple | exact kb_NoneType_list | exact kb_NoneType_int | exact kb_str_int | exact kb_int_list | exact kb_int_tuple | exact kb_NoneType_tuple | exact kb_list_int | exact kb_tuple_int | exact kb_str_bool) ?_ | refine go_non ?_ | refine go_I0 ?_ | refine go_I ?_ ?_ | refine go_ix rfl ?_ | refine go_ixT rfl ?_ | refine go_eq rfl rfl rfl ?_ | refine go_ne rfl rfl rfl ?_ | refine go_len rfl ?_ | refine go_cat ?_ ?_ | refine go_rep ?_ ?_ ?_ ?_ | refine go_un ?_ | refine go_int ?_ | refine go_lst ?_ | refine go_tup ?_ | refine go_str ?_ | refine go_bl ?_ | refine go_ixO rfl ?_ | refine go_put rfl ?_ | refine go_ext ?_ ?_ | refine go_app ?_ ?_ | refine go_rg1 ?_ ?_ | refine go_rg2 ?_ ?_ | refine go_rg3 ?_ ?_ | refine go_enum ?_ | refine go_zipS ?_ ?_ | refine go_zip ?_))
      refine ⟨_, _, _, rfl, ko.ex 1 (by decide), PK.n_move, rfl, ?_⟩
      (repeat' (first | (guard_target =~ XS _ _ _ _ _; first | exact XS.next | refine XS.next ?_ | refine XS.seq ?_ | refine XS.set ?_ | refine XS.ret ?_ | refine XS.ite ?_ | refine XS.drop ?_ | refine XS.asg ?_ | refine XS.par3 ?_ | refine XS.par ?_ | refine XS.retN ?_ | refine XS.next ?_) | (guard_target =~ XE _ _ _ _ _; first | refine XE.var rfl ?_ | refine XE.int ?_ | refine XE.bl ?_ | refine XE.str ?_ | refine XE.non ?_ | refine XE.ixO rfl ?_ | refine XE.lenO rfl ?_ | refine XE.op dr_I0 ?_ | refine XE.op dr_I ?_ | refine XE.op dr_ixL ?_ | refine XE.op dr_ixT ?_ | refine XE.op dr_eq ?_ | refine XE.op dr_ne ?_ | refine XE.op dr_eqD ?_ | refine XE.op dr_neD ?_ | refine XE.op dr_isN ?_ | refine XE.op dr_notN ?_ | refine XE.op dr_eqO ?_ | refine XE.op dr_neO ?_ | refine XE.unI ?_ | refine XE.tup ?_ | refine XE.ofN (XN.lst ?_) | refine XE.ofN (XN.op dn_cat ?_) | refine XE.ofN (XN.op dn_rep ?_) | refine XE.ofN (XN.sl ?_) | refine XE.ofN (XN.cb dn_listOf ?_) | refine XE.cb db_abs ?_ | refine XE.cb db_max2 ?_ | refine XE.len1 ?_ | refine XE.cb db_lenO ?_ | refine XE.cb db_int1 ?_ | refine XE.call ?_ | refine XE.callX0 ?_ | refine XE.callP rfl ?_ | refine XE.andV ?_ | refine XE.orV ?_ | refine XE.notV ?_ | refine XE.ifE ?_ | refine XE.make ?_ | refine XE.isC ?_ | refine XE.isTy ?_ | refine XE.fld hH.cls hH.poly ?_ | refine XE.fld hH.cls hH.rows ?_ | refine XE.fld hH.cls hH.ways ?_ | refine XE.fld hN.cls hN.home ?_ | refine XE.fld hN.cls hN.parts ?_ | refine XE.km rfl ?_ | refine XE.kmX0 rfl ?_ | refine XE.kc rfl ?_ | refine XE.kcX0 rfl ?_) | (guard_target =~ XN _ _ _ _ _; first | refine XN.lst ?_ | refine XN.op dn_cat ?_ | refine XN.op dn_rep ?_ | refine XN.sl ?_ | refine XN.cb dn_listOf ?_) | (guard_target =~ XA _ _ _ _ _; first | refine XA.nil ?_ | refine XA.cons ?_) | (guard_target =~ XT _ _ _ _ _; first | refine XT.test ?_ | refine XT.b ?_ | refine XT.not ?_ | refine XT.and ?_ | refine XT.or ?_ | refine XT.yes ?_) | (guard_target =~ XO _ _ _ _ _; first | refine XO.no ?_ | refine XO.yes ?_) | (guard_target =~ XGs _ _ _ _ _ _; first | refine XGs.cons ?_ | refine XGs.nil ?_) | (guard_target =~ XG _ _ _ _ _ _; first | refine XG.name rfl ?_ | refine XG.tupG rfl ?_ | refine XG.unlG rfl ?_) | refine go_len1 rfl ?_ | refine go_fld rfl ?_ | refine go_ins rfl rfl ?_ | refine go_kc rfl rfl ?_ | refine go_isC ?_ | refine go_isTy rfl (by first | exact kb_int_int | exact kb_int_bool | exact kb_bool_int | exact kb_bool_bool | exact kb_str_str | exact kb_list_list | exact kb_tuple_tuple | exact kb_tuple_list | exact kb_list_tuple | exact kb_NoneType_list | exact kb_NoneType_int | exact kb_str_int | exact kb_int_list | exact kb_int_tuple | exact kb_NoneType_tuple | exact kb_list_int | exact kb_tuple_int | exact kb_str_bool) ?_ | refine go_non ?_ | refine go_I0 ?_ | refine go_I ?_ ?_ | refine go_ix rfl ?_ | refine go_ixT rfl ?_ | refine go_eq rfl rfl rfl ?_ | refine go_ne rfl rfl rfl ?_ | refine go_len rfl ?_ | refine go_cat ?_ ?_ | refine go_rep ?_ ?_ ?_ ?_ | refine go_un ?_ | refine go_int ?_ | refine go_lst ?_ | refine go_tup ?_ | refine go_str ?_ | refine go_bl ?_ | refine go_ixO rfl ?_ | refine go_put rfl ?_ | refine go_ext ?_ ?_ | refine go_app ?_ ?_ | refine go_rg1 ?_ ?_ | refine go_rg2 ?_ ?_ | refine go_rg3 ?_ ?_ | refine go_enum ?_ | refine go_zipS ?_ ?_ | refine go_zip ?_))
      refine neD_self (by simp [plain, plains]) rfl ?_
      (repeat' (first | (guard_target =~ XS _ _ _ _ _; first | exact XS.next | refine XS.next ?_ | refine XS.seq ?_ | refine XS.set ?_ | refine XS.ret ?_ | refine XS.ite ?_ | refine XS.drop ?_ | refine XS.asg ?_ | refine XS.par3 ?_ | refine XS.par ?_ | refine XS.retN ?_ | refine XS.next ?_) | (guard_target =~ XE _ _ _ _ _; first | refine XE.var rfl ?_ | refine XE.int ?_ | refine XE.bl ?_ | refine XE.str ?_ | refine XE.non ?_ | refine XE.ixO rfl ?_ | refine XE.lenO rfl ?_ | refine XE.op dr_I0 ?_ | refine XE.op dr_I ?_ | refine XE.op dr_ixL ?_ | refine XE.op dr_ixT ?_ | refine XE.op dr_eq ?_ | refine XE.op dr_ne ?_ | refine XE.op dr_eqD ?_ | refine XE.op dr_neD ?_ | refine XE.op dr_isN ?_ | refine XE.op dr_notN ?_ | refine XE.op dr_eqO ?_ | refine XE.op dr_neO ?_ | refine XE.unI ?_ | refine XE.tup ?_ | refine XE.ofN (XN.lst ?_) | refine XE.ofN (XN.op dn_cat ?_) | refine XE.ofN (XN.op dn_rep ?_) | refine XE.ofN (XN.sl ?_) | refine XE.ofN (XN.cb dn_listOf ?_) | refine XE.cb db_abs ?_ | refine XE.cb db_max2 ?_ | refine XE.len1 ?_ | refine XE.cb db_lenO ?_ | refine XE.cb db_int1 ?_ | refine XE.call ?_ | refine XE.callX0 ?_ | refine XE.callP rfl ?_ | refine XE.andV ?_ | refine XE.orV ?_ | refine XE.notV ?_ | refine XE.ifE ?_ | refine XE.make ?_ | refine XE.isC ?_ | refine XE.isTy ?_ | refine XE.fld hH.cls hH.poly ?_ | refine XE.fld hH.cls hH.rows ?_ | refine XE.fld hH.cls hH.ways ?_ | refine XE.fld hN.cls hN.home ?_ | refine XE.fld hN.cls hN.parts ?_ | refine XE.km rfl ?_ | refine XE.kmX0 rfl ?_ | refine XE.kc rfl ?_ | refine XE.kcX0 rfl ?_) | (guard_target =~ XN _ _ _ _ _; first | refine XN.lst ?_ | refine XN.op dn_cat ?_ | refine XN.op dn_rep ?_ | refine XN.sl ?_ | refine XN.cb dn_listOf ?_) | (guard_target =~ XA _ _ _ _ _; first | refine XA.nil ?_ | refine XA.cons ?_) | (guard_target =~ XT _ _ _ _ _; first | refine XT.test ?_ | refine XT.b ?_ | refine XT.not ?_ | refine XT.and ?_ | refine XT.or ?_ | refine XT.yes ?_) | (guard_target =~ XO _ _ _ _ _; first | refine XO.no ?_ | refine XO.yes ?_) | (guard_target =~ XGs _ _ _ _ _ _; first | refine XGs.cons ?_ | refine XGs.nil ?_) | (guard_target =~ XG _ _ _ _ _ _; first | refine XG.name rfl ?_ | refine XG.tupG rfl ?_ | refine XG.unlG rfl ?_) | refine go_len1 rfl ?_ | refine go_fld rfl ?_ | refine go_ins rfl rfl ?_ | refine go_kc rfl rfl ?_ | refine go_isC ?_ | refine go_isTy rfl (by first | exact kb_int_int | exact kb_int_bool | exact kb_bool_int | exact kb_bool_bool | exact kb_str_str | exact kb_list_list | exact kb_tuple_tuple | exact kb_tuple_list | exact kb_list_tuple | exact kb_NoneType_list | exact kb_NoneType_int | exact kb_str_int | exact kb_int_list | exact kb_int_tuple | exact kb_NoneType_tuple | exact kb_list_int | exact kb_tuple_int | exact kb_str_bool) ?_ | refine go_non ?_ | refine go_I0 ?_ | refine go_I ?_ ?_ | refine go_ix rfl ?_ | refine go_ixT rfl ?_ | refine go_eq rfl rfl rfl ?_ | refine go_ne rfl rfl rfl ?_ | refine go_len rfl ?_ | refine go_cat ?_ ?_ | refine go_rep ?_ ?_ ?_ ?_ | refine go_un ?_ | refine go_int ?_ | refine go_lst ?_ | refine go_tup ?_ | refine go_str ?_ | refine go_bl ?_ | refine go_ixO rfl ?_ | refine go_put rfl ?_ | refine go_ext ?_ ?_ | refine go_app ?_ ?_ | refine go_rg1 ?_ ?_ | refine go_rg2 ?_ ?_ | refine go_rg3 ?_ ?_ | refine go_enum ?_ | refine go_zipS ?_ ?_ | refine go_zip ?_))
      refine XE.kf ?_
      (repeat' (first | (guard_target =~ XS _ _ _ _ _; first | exact XS.next | refine XS.next ?_ | refine XS.seq ?_ | refine XS.set ?_ | refine XS.ret ?_ | refine XS.ite ?_ | refine XS.drop ?_ | refine XS.asg ?_ | refine XS.par3 ?_ | refine XS.par ?_ | refine XS.retN ?_ | refine XS.next ?_) | (guard_target =~ XE _ _ _ _ _; first | refine XE.var rfl ?_ | refine XE.int ?_ | refine XE.bl ?_ | refine XE.str ?_ | refine XE.non ?_ | refine XE.ixO rfl ?_ | refine XE.lenO rfl ?_ | refine XE.op dr_I0 ?_ | refine XE.op dr_I ?_ | refine XE.op dr_ixL ?_ | refine XE.op dr_ixT ?_ | refine XE.op dr_eq ?_ | refine XE.op dr_ne ?_ | refine XE.op dr_eqD ?_ | refine XE.op dr_neD ?_ | refine XE.op dr_isN ?_ | refine XE.op dr_notN ?_ | refine XE.op dr_eqO ?_ | refine XE.op dr_neO ?_ | refine XE.unI ?_ | refine XE.tup ?_ | refine XE.ofN (XN.lst ?_) | refine XE.ofN (XN.op dn_cat ?_) | refine XE.ofN (XN.op dn_rep ?_) | refine XE.ofN (XN.sl ?_) | refine XE.ofN (XN.cb dn_listOf ?_) | refine XE.cb db_abs ?_ | refine XE.cb db_max2 ?_ | refine XE.len1 ?_ | refine XE.cb db_lenO ?_ | refine XE.cb db_int1 ?_ | refine XE.call ?_ | refine XE.callX0 ?_ | refine XE.callP rfl ?_ | refine XE.andV ?_ | refine XE.orV ?_ | refine XE.notV ?_ | refine XE.ifE ?_ | refine XE.make ?_ | refine XE.isC ?_ | refine XE.isTy ?_ | refine XE.fld hH.cls hH.poly ?_ | refine XE.fld hH.cls hH.rows ?_ | refine XE.fld hH.cls hH.ways ?_ | refine XE.fld hN.cls hN.home ?_ | refine XE.fld hN.cls hN.parts ?_ | refine XE.km rfl ?_ | refine XE.kmX0 rfl ?_ | refine XE.kc rfl ?_ | refine XE.kcX0 rfl ?_) | (guard_target =~ XN _ _ _ _ _; first | refine XN.lst ?_ | refine XN.op dn_cat ?_ | refine XN.op dn_rep ?_ | refine XN.sl ?_ | refine XN.cb dn_listOf ?_) | (guard_target =~ XA _ _ _ _ _; first | refine XA.nil ?_ | refine XA.cons ?_) | (guard_target =~ XT _ _ _ _ _; first | refine XT.test ?_ | refine XT.b ?_ | refine XT.not ?_ | refine XT.and ?_ | refine XT.or ?_ | refine XT.yes ?_) | (guard_target =~ XO _ _ _ _ _; first | refine XO.no ?_ | refine XO.yes ?_) | (guard_target =~ XGs _ _ _ _ _ _; first | refine XGs.cons ?_ | refine XGs.nil ?_) | (guard_target =~ XG _ _ _ _ _ _; first | refine XG.name rfl ?_ | refine XG.tupG rfl ?_ | refine XG.unlG rfl ?_) | refine go_len1 rfl ?_ | refine go_fld rfl ?_ | refine go_ins rfl rfl ?_ | refine go_kc rfl rfl ?_ | refine go_isC ?_ | refine go_isTy rfl (by first | exact kb_int_int | exact kb_int_bool | exact kb_bool_int | exact kb_bool_bool | exact kb_str_str | exact kb_list_list | exact kb_tuple_tuple | exact kb_tuple_list | exact kb_list_tuple | exact kb_NoneType_list | exact kb_NoneType_int | exact kb_str_int | exact kb_int_list | exact kb_int_tuple | exact kb_NoneType_tuple | exact kb_list_int | exact kb_tuple_int | exact kb_str_bool) ?_ | refine go_non ?_ | refine go_I0 ?_ | refine go_I ?_ ?_ | refine go_ix rfl ?_ | refine go_ixT rfl ?_ | refine go_eq rfl rfl rfl ?_ | refine go_ne rfl rfl rfl ?_ | refine go_len rfl ?_ | refine go_cat ?_ ?_ | refine go_rep ?_ ?_ ?_ ?_ | refine go_un ?_ | refine go_int ?_ | refine go_lst ?_ | refine go_tup ?_ | refine go_str ?_ | refine go_bl ?_ | refine go_ixO rfl ?_ | refine go_put rfl ?_ | refine go_ext ?_ ?_ | refine go_app ?_ ?_ | refine go_rg1 ?_ ?_ | refine go_rg2 ?_ ?_ | refine go_rg3 ?_ ?_ | refine go_enum ?_ | refine go_zipS ?_ ?_ | refine go_zip ?_))
      refine ⟨_, _, _, rfl, ko.ex 11 (by decide), PK.n_name, rfl, ?_⟩
      (repeat' (first | (guard_target =~ XS _ _ _ _ _; first | exact XS.next | refine XS.next ?_ | refine XS.seq ?_ | refine XS.set ?_ | refine XS.ret ?_ | refine XS.ite ?_ | refine XS.drop ?_ | refine XS.asg ?_ | refine XS.par3 ?_ | refine XS.par ?_ | refine XS.retN ?_ | refine XS.next ?_) | (guard_target =~ XE _ _ _ _ _; first | refine XE.var rfl ?_ | refine XE.int ?_ | refine XE.bl ?_ | refine XE.str ?_ | refine XE.non ?_ | refine XE.ixO rfl ?_ | refine XE.lenO rfl ?_ | refine XE.op dr_I0 ?_ | refine XE.op dr_I ?_ | refine XE.op dr_ixL ?_ | refine XE.op dr_ixT ?_ | refine XE.op dr_eq ?_ | refine XE.op dr_ne ?_ | refine XE.op dr_eqD ?_ | refine XE.op dr_neD ?_ | refine XE.op dr_isN ?_ | refine XE.op dr_notN ?_ | refine XE.op dr_eqO ?_ | refine XE.op dr_neO ?_ | refine XE.unI ?_ | refine XE.tup ?_ | refine XE.ofN (XN.lst ?_) | refine XE.ofN (XN.op dn_cat ?_) | refine XE.ofN (XN.op dn_rep ?_) | refine XE.ofN (XN.sl ?_) | refine XE.ofN (XN.cb dn_listOf ?_) | refine XE.cb db_abs ?_ | refine XE.cb db_max2 ?_ | refine XE.len1 ?_ | refine XE.cb db_lenO ?_ | refine XE.cb db_int1 ?_ | refine XE.call ?_ | refine XE.callX0 ?_ | refine XE.callP rfl ?_ | refine XE.andV ?_ | refine XE.orV ?_ | refine XE.notV ?_ | refine XE.ifE ?_ | refine XE.make ?_ | refine XE.isC ?_ | refine XE.isTy ?_ | refine XE.fld hH.cls hH.poly ?_ | refine XE.fld hH.cls hH.rows ?_ | refine XE.fld hH.cls hH.ways ?_ | refine XE.fld hN.cls hN.home ?_ | refine XE.fld hN.cls hN.parts ?_ | refine XE.km rfl ?_ | refine XE.kmX0 rfl ?_ | refine XE.kc rfl ?_ | refine XE.kcX0 rfl ?_) | (guard_target =~ XN _ _ _ _ _; first | refine XN.lst ?_ | refine XN.op dn_cat ?_ | refine XN.op dn_rep ?_ | refine XN.sl ?_ | refine XN.cb dn_listOf ?_) | (guard_target =~ XA _ _ _ _ _; first | refine XA.nil ?_ | refine XA.cons ?_) | (guard_target =~ XT _ _ _ _ _; first | refine XT.test ?_ | refine XT.b ?_ | refine XT.not ?_ | refine XT.and ?_ | refine XT.or ?_ | refine XT.yes ?_) | (guard_target =~ XO _ _ _ _ _; first | refine XO.no ?_ | refine XO.yes ?_) | (guard_target =~ XGs _ _ _ _ _ _; first | refine XGs.cons ?_ | refine XGs.nil ?_) | (guard_target =~ XG _ _ _ _ _ _; first | refine XG.name rfl ?_ | refine XG.tupG rfl ?_ | refine XG.unlG rfl ?_) | refine go_len1 rfl ?_ | refine go_fld rfl ?_ | refine go_ins rfl rfl ?_ | refine go_kc rfl rfl ?_ | refine go_isC ?_ | refine go_isTy rfl (by first | exact kb_int_int | exact kb_int_bool | exact kb_bool_int | exact kb_bool_bool | exact kb_str_str | exact kb_list_list | exact kb_tuple_tuple | exact kb_tuple_list | exact kb_list_tuple | exact kb_NoneType_list | exact kb_NoneType_int | exact kb_str_int | exact kb_int_list | exact kb_int_tuple | exact kb_NoneType_tuple | exact kb_list_int | exact kb_tuple_int | exact kb_str_bool) ?_ | refine go_non ?_ | refine go_I0 ?_ | refine go_I ?_ ?_ | refine go_ix rfl ?_ | refine go_ixT rfl ?_ | refine go_eq rfl rfl rfl ?_ | refine go_ne rfl rfl rfl ?_ | refine go_len rfl ?_ | refine go_cat ?_ ?_ | refine go_rep ?_ ?_ ?_ ?_ | refine go_un ?_ | refine go_int ?_ | refine go_lst ?_ | refine go_tup ?_ | refine go_str ?_ | refine go_bl ?_ | refine go_ixO rfl ?_ | refine go_put rfl ?_ | refine go_ext ?_ ?_ | refine go_app ?_ ?_ | refine go_rg1 ?_ ?_ | refine go_rg2 ?_ ?_ | refine go_rg3 ?_ ?_ | refine go_enum ?_ | refine go_zipS ?_ ?_ | refine go_zip ?_))
      refine XE.kf ?_
      (repeat' (first | (guard_target =~ XS _ _ _ _ _; first | exact XS.next | refine XS.next ?_ | refine XS.seq ?_ | refine XS.set ?_ | refine XS.ret ?_ | refine XS.ite ?_ | refine XS.drop ?_ | refine XS.asg ?_ | refine XS.par3 ?_ | refine XS.par ?_ | refine XS.retN ?_ | refine XS.next ?_) | (guard_target =~ XE _ _ _ _ _; first | refine XE.var rfl ?_ | refine XE.int ?_ | refine XE.bl ?_ | refine XE.str ?_ | refine XE.non ?_ | refine XE.ixO rfl ?_ | refine XE.lenO rfl ?_ | refine XE.op dr_I0 ?_ | refine XE.op dr_I ?_ | refine XE.op dr_ixL ?_ | refine XE.op dr_ixT ?_ | refine XE.op dr_eq ?_ | refine XE.op dr_ne ?_ | refine XE.op dr_eqD ?_ | refine XE.op dr_neD ?_ | refine XE.op dr_isN ?_ | refine XE.op dr_notN ?_ | refine XE.op dr_eqO ?_ | refine XE.op dr_neO ?_ | refine XE.unI ?_ | refine XE.tup ?_ | refine XE.ofN (XN.lst ?_) | refine XE.ofN (XN.op dn_cat ?_) | refine XE.ofN (XN.op dn_rep ?_) | refine XE.ofN (XN.sl ?_) | refine XE.ofN (XN.cb dn_listOf ?_) | refine XE.cb db_abs ?_ | refine XE.cb db_max2 ?_ | refine XE.len1 ?_ | refine XE.cb db_lenO ?_ | refine XE.cb db_int1 ?_ | refine XE.call ?_ | refine XE.callX0 ?_ | refine XE.callP rfl ?_ | refine XE.andV ?_ | refine XE.orV ?_ | refine XE.notV ?_ | refine XE.ifE ?_ | refine XE.make ?_ | refine XE.isC ?_ | refine XE.isTy ?_ | refine XE.fld hH.cls hH.poly ?_ | refine XE.fld hH.cls hH.rows ?_ | refine XE.fld hH.cls hH.ways ?_ | refine XE.fld hN.cls hN.home ?_ | refine XE.fld hN.cls hN.parts ?_ | refine XE.km rfl ?_ | refine XE.kmX0 rfl ?_ | refine XE.kc rfl ?_ | refine XE.kcX0 rfl ?_) | (guard_target =~ XN _ _ _ _ _; first | refine XN.lst ?_ | refine XN.op dn_cat ?_ | refine XN.op dn_rep ?_ | refine XN.sl ?_ | refine XN.cb dn_listOf ?_) | (guard_target =~ XA _ _ _ _ _; first | refine XA.nil ?_ | refine XA.cons ?_) | (guard_target =~ XT _ _ _ _ _; first | refine XT.test ?_ | refine XT.b ?_ | refine XT.not ?_ | refine XT.and ?_ | refine XT.or ?_ | refine XT.yes ?_) | (guard_target =~ XO _ _ _ _ _; first | refine XO.no ?_ | refine XO.yes ?_) | (guard_target =~ XGs _ _ _ _ _ _; first | refine XGs.cons ?_ | refine XGs.nil ?_) | (guard_target =~ XG _ _ _ _ _ _; first | refine XG.name rfl ?_ | refine XG.tupG rfl ?_ | refine XG.unlG rfl ?_) | refine go_len1 rfl ?_ | refine go_fld rfl ?_ | refine go_ins rfl rfl ?_ | refine go_kc rfl rfl ?_ | refine go_isC ?_ | refine go_isTy rfl (by first | exact kb_int_int | exact kb_int_bool | exact kb_bool_int | exact kb_bool_bool | exact kb_str_str | exact kb_list_list | exact kb_tuple_tuple | exact kb_tuple_list | exact kb_list_tuple | exact kb_NoneType_list | exact kb_NoneType_int | exact kb_str_int | exact kb_int_list | exact kb_int_tuple | exact kb_NoneType_tuple | exact kb_list_int | exact kb_tuple_int | exact kb_str_bool) ?_ | refine go_non ?_ | refine go_I0 ?_ | refine go_I ?_ ?_ | refine go_ix rfl ?_ | refine go_ixT rfl ?_ | refine go_eq rfl rfl rfl ?_ | refine go_ne rfl rfl rfl ?_ | refine go_len rfl ?_ | refine go_cat ?_ ?_ | refine go_rep ?_ ?_ ?_ ?_ | refine go_un ?_ | refine go_int ?_ | refine go_lst ?_ | refine go_tup ?_ | refine go_str ?_ | refine go_bl ?_ | refine go_ixO rfl ?_ | refine go_put rfl ?_ | refine go_ext ?_ ?_ | refine go_app ?_ ?_ | refine go_rg1 ?_ ?_ | refine go_rg2 ?_ ?_ | refine go_rg3 ?_ ?_ | refine go_enum ?_ | refine go_zipS ?_ ?_ | refine go_zip ?_))
      refine ⟨_, _, _, rfl, ko.ex 12 (by decide), PK.n_twice, rfl, ?_⟩
      (repeat' (first | (guard_target =~ XS _ _ _ _ _; first | exact XS.next | refine XS.next ?_ | refine XS.seq ?_ | refine XS.set ?_ | refine XS.ret ?_ | refine XS.ite ?_ | refine XS.drop ?_ | refine XS.asg ?_ | refine XS.par3 ?_ | refine XS.par ?_ | refine XS.retN ?_ | refine XS.next ?_) | (guard_target =~ XE _ _ _ _ _; first | refine XE.var rfl ?_ | refine XE.int ?_ | refine XE.bl ?_ | refine XE.str ?_ | refine XE.non ?_ | refine XE.ixO rfl ?_ | refine XE.lenO rfl ?_ | refine XE.op dr_I0 ?_ | refine XE.op dr_I ?_ | refine XE.op dr_ixL ?_ | refine XE.op dr_ixT ?_ | refine XE.op dr_eq ?_ | refine XE.op dr_ne ?_ | refine XE.op dr_eqD ?_ | refine XE.op dr_neD ?_ | refine XE.op dr_isN ?_ | refine XE.op dr_notN ?_ | refine XE.op dr_eqO ?_ | refine XE.op dr_neO ?_ | refine XE.unI ?_ | refine XE.tup ?_ | refine XE.ofN (XN.lst ?_) | refine XE.ofN (XN.op dn_cat ?_) | refine XE.ofN (XN.op dn_rep ?_) | refine XE.ofN (XN.sl ?_) | refine XE.ofN (XN.cb dn_listOf ?_) | refine XE.cb db_abs ?_ | refine XE.cb db_max2 ?_ | refine XE.len1 ?_ | refine XE.cb db_lenO ?_ | refine XE.cb db_int1 ?_ | refine XE.call ?_ | refine XE.callX0 ?_ | refine XE.callP rfl ?_ | refine XE.andV ?_ | refine XE.orV ?_ | refine XE.notV ?_ | refine XE.ifE ?_ | refine XE.make ?_ | refine XE.isC ?_ | refine XE.isTy ?_ | refine XE.fld hH.cls hH.poly ?_ | refine XE.fld hH.cls hH.rows ?_ | refine XE.fld hH.cls hH.ways ?_ | refine XE.fld hN.cls hN.home ?_ | refine XE.fld hN.cls hN.parts ?_ | refine XE.km rfl ?_ | refine XE.kmX0 rfl ?_ | refine XE.kc rfl ?_ | refine XE.kcX0 rfl ?_) | (guard_target =~ XN _ _ _ _ _; first | refine XN.lst ?_ | refine XN.op dn_cat ?_ | refine XN.op dn_rep ?_ | refine XN.sl ?_ | refine XN.cb dn_listOf ?_) | (guard_target =~ XA _ _ _ _ _; first | refine XA.nil ?_ | refine XA.cons ?_) | (guard_target =~ XT _ _ _ _ _; first | refine XT.test ?_ | refine XT.b ?_ | refine XT.not ?_ | refine XT.and ?_ | refine XT.or ?_ | refine XT.yes ?_) | (guard_target =~ XO _ _ _ _ _; first | refine XO.no ?_ | refine XO.yes ?_) | (guard_target =~ XGs _ _ _ _ _ _; first | refine XGs.cons ?_ | refine XGs.nil ?_) | (guard_target =~ XG _ _ _ _ _ _; first | refine XG.name rfl ?_ | refine XG.tupG rfl ?_ | refine XG.unlG rfl ?_) | refine go_len1 rfl ?_ | refine go_fld rfl ?_ | refine go_ins rfl rfl ?_ | refine go_kc rfl rfl ?_ | refine go_isC ?_ | refine go_isTy rfl (by first | exact kb_int_int | exact kb_int_bool | exact kb_bool_int | exact kb_bool_bool | exact kb_str_str | exact kb_list_list | exact kb_tuple_tuple | exact kb_tuple_list | exact kb_list_tuple | exact kb_NoneType_list | exact kb_NoneType_int | exact kb_str_int | exact kb_int_list | exact kb_int_tuple | exact kb_NoneType_tuple | exact kb_list_int | exact kb_tuple_int | exact kb_str_bool) ?_ | refine go_non ?_ | refine go_I0 ?_ | refine go_I ?_ ?_ | refine go_ix rfl ?_ | refine go_ixT rfl ?_ | refine go_eq rfl rfl rfl ?_ | refine go_ne rfl rfl rfl ?_ | refine go_len rfl ?_ | refine go_cat ?_ ?_ | refine go_rep ?_ ?_ ?_ ?_ | refine go_un ?_ | refine go_int ?_ | refine go_lst ?_ | refine go_tup ?_ | refine go_str ?_ | refine go_bl ?_ | refine go_ixO rfl ?_ | refine go_put rfl ?_ | refine go_ext ?_ ?_ | refine go_app ?_ ?_ | refine go_rg1 ?_ ?_ | refine go_rg2 ?_ ?_ | refine go_rg3 ?_ ?_ | refine go_enum ?_ | refine go_zipS ?_ ?_ | refine go_zip ?_))
      refine neD_self (by simp [plain, plains, hwo]) rfl ?_
      (repeat' (first | (guard_target =~ XS _ _ _ _ _; first | exact XS.next | refine XS.next ?_ | refine XS.seq ?_ | refine XS.set ?_ | refine XS.ret ?_ | refine XS.ite ?_ | refine XS.drop ?_ | refine XS.asg ?_ | refine XS.par3 ?_ | refine XS.par ?_ | refine XS.retN ?_ | refine XS.next ?_) | (guard_target =~ XE _ _ _ _ _; first | refine XE.var rfl ?_ | refine XE.int ?_ | refine XE.bl ?_ | refine XE.str ?_ | refine XE.non ?_ | refine XE.ixO rfl ?_ | refine XE.lenO rfl ?_ | refine XE.op dr_I0 ?_ | refine XE.op dr_I ?_ | refine XE.op dr_ixL ?_ | refine XE.op dr_ixT ?_ | refine XE.op dr_eq ?_ | refine XE.op dr_ne ?_ | refine XE.op dr_eqD ?_ | refine XE.op dr_neD ?_ | refine XE.op dr_isN ?_ | refine XE.op dr_notN ?_ | refine XE.op dr_eqO ?_ | refine XE.op dr_neO ?_ | refine XE.unI ?_ | refine XE.tup ?_ | refine XE.ofN (XN.lst ?_) | refine XE.ofN (XN.op dn_cat ?_) | refine XE.ofN (XN.op dn_rep ?_) | refine XE.ofN (XN.sl ?_) | refine XE.ofN (XN.cb dn_listOf ?_) | refine XE.cb db_abs ?_ | refine XE.cb db_max2 ?_ | refine XE.len1 ?_ | refine XE.cb db_lenO ?_ | refine XE.cb db_int1 ?_ | refine XE.call ?_ | refine XE.callX0 ?_ | refine XE.callP rfl ?_ | refine XE.andV ?_ | refine XE.orV ?_ | refine XE.notV ?_ | refine XE.ifE ?_ | refine XE.make ?_ | refine XE.isC ?_ | refine XE.isTy ?_ | refine XE.fld hH.cls hH.poly ?_ | refine XE.fld hH.cls hH.rows ?_ | refine XE.fld hH.cls hH.ways ?_ | refine XE.fld hN.cls hN.home ?_ | refine XE.fld hN.cls hN.parts ?_ | refine XE.km rfl ?_ | refine XE.kmX0 rfl ?_ | refine XE.kc rfl ?_ | refine XE.kcX0 rfl ?_) | (guard_target =~ XN _ _ _ _ _; first | refine XN.lst ?_ | refine XN.op dn_cat ?_ | refine XN.op dn_rep ?_ | refine XN.sl ?_ | refine XN.cb dn_listOf ?_) | (guard_target =~ XA _ _ _ _ _; first | refine XA.nil ?_ | refine XA.cons ?_) | (guard_target =~ XT _ _ _ _ _; first | refine XT.test ?_ | refine XT.b ?_ | refine XT.not ?_ | refine XT.and ?_ | refine XT.or ?_ | refine XT.yes ?_) | (guard_target =~ XO _ _ _ _ _; first | refine XO.no ?_ | refine XO.yes ?_) | (guard_target =~ XGs _ _ _ _ _ _; first | refine XGs.cons ?_ | refine XGs.nil ?_) | (guard_target =~ XG _ _ _ _ _ _; first | refine XG.name rfl ?_ | refine XG.tupG rfl ?_ | refine XG.unlG rfl ?_) | refine go_len1 rfl ?_ | refine go_fld rfl ?_ | refine go_ins rfl rfl ?_ | refine go_kc rfl rfl ?_ | refine go_isC ?_ | refine go_isTy rfl (by first | exact kb_int_int | exact kb_int_bool | exact kb_bool_int | exact kb_bool_bool | exact kb_str_str | exact kb_list_list | exact kb_tuple_tuple | exact kb_tuple_list | exact kb_list_tuple | exact kb_NoneType_list | exact kb_NoneType_int | exact kb_str_int | exact kb_int_list | exact kb_int_tuple | exact kb_NoneType_tuple | exact kb_list_int | exact kb_tuple_int | exact kb_str_bool) ?_ | refine go_non ?_ | refine go_I0 ?_ | refine go_I ?_ ?_ | refine go_ix rfl ?_ | refine go_ixT rfl ?_ | refine go_eq rfl rfl rfl ?_ | refine go_ne rfl rfl rfl ?_ | refine go_len rfl ?_ | refine go_cat ?_ ?_ | refine go_rep ?_ ?_ ?_ ?_ | refine go_un ?_ | refine go_int ?_ | refine go_lst ?_ | refine go_tup ?_ | refine go_str ?_ | refine go_bl ?_ | refine go_ixO rfl ?_ | refine go_put rfl ?_ | refine go_ext ?_ ?_ | refine go_app ?_ ?_ | refine go_rg1 ?_ ?_ | refine go_rg2 ?_ ?_ | refine go_rg3 ?_ ?_ | refine go_enum ?_ | refine go_zipS ?_ ?_ | refine go_zip ?_))
      exact ⟨_, rfl⟩
    · subst e
      (repeat' (first | (guard_target =~ XS _ _ _ _ _; first | exact XS.next | refine XS.next ?_ | refine XS.seq ?_ | refine XS.set ?_ | refine XS.ret ?_ | refine XS.ite ?_ | refine XS.drop ?_ | refine XS.asg ?_ | refine XS.par3 ?_ | refine XS.par ?_ | refine XS.retN ?_ | refine XS.next ?_) | (guard_target =~ XE _ _ _ _ _; first | refine XE.var rfl ?_ | refine XE.int ?_ | refine XE.bl ?_ | refine XE.str ?_ | refine XE.non ?_ | refine XE.ixO rfl ?_ | refine XE.lenO rfl ?_ | refine XE.op dr_I0 ?_ | refine XE.op dr_I ?_ | refine XE.op dr_ixL ?_ | refine XE.op dr_ixT ?_ | refine XE.op dr_eq ?_ | refine XE.op dr_ne ?_ | refine XE.op dr_eqD ?_ | refine XE.op dr_neD ?_ | refine XE.op dr_isN ?_ | refine XE.op dr_notN ?_ | refine XE.op dr_eqO ?_ | refine XE.op dr_neO ?_ | refine XE.unI ?_ | refine XE.tup ?_ | refine XE.ofN (XN.lst ?_) | refine XE.ofN (XN.op dn_cat ?_) | refine XE.ofN (XN.op dn_rep ?_) | refine XE.ofN (XN.sl ?_) | refine XE.ofN (XN.cb dn_listOf ?_) | refine XE.cb db_abs ?_ | refine XE.cb db_max2 ?_ | refine XE.len1 ?_ | refine XE.cb db_lenO ?_ | refine XE.cb db_int1 ?_ | refine XE.call ?_ | refine XE.callX0 ?_ | refine XE.callP rfl ?_ | refine XE.andV ?_ | refine XE.orV ?_ | refine XE.notV ?_ | refine XE.ifE ?_ | refine XE.make ?_ | refine XE.isC ?_ | refine XE.isTy ?_ | refine XE.fld hH.cls hH.poly ?_ | refine XE.fld hH.cls hH.rows ?_ | refine XE.fld hH.cls hH.ways ?_ | refine XE.fld hN.cls hN.home ?_ | refine XE.fld hN.cls hN.parts ?_ | refine XE.km rfl ?_ | refine XE.kmX0 rfl ?_ | refine XE.kc rfl ?_ | refine XE.kcX0 rfl ?_) | (guard_target =~ XN _ _ _ _ _; first | refine XN.lst ?_ | refine XN.op dn_cat ?_ | refine XN.op dn_rep ?_ | refine XN.sl ?_ | refine XN.cb dn_listOf ?_) | (guard_target =~ XA _ _ _ _ _; first | refine XA.nil ?_ | refine XA.cons ?_) | (guard_target =~ XT _ _ _ _ _; first | refine XT.test ?_ | refine XT.b ?_ | refine XT.not ?_ | refine XT.and ?_ | refine XT.or ?_ | refine XT.yes ?_) | (guard_target =~ XO _ _ _ _ _; first | refine XO.no ?_ | refine XO.yes ?_) | (guard_target =~ XGs _ _ _ _ _ _; first | refine XGs.cons ?_ | refine XGs.nil ?_) | (guard_target =~ XG _ _ _ _ _ _; first | refine XG.name rfl ?_ | refine XG.tupG rfl ?_ | refine XG.unlG rfl ?_) | refine go_len1 rfl ?_ | refine go_fld rfl ?_ | refine go_ins rfl rfl ?_ | refine go_kc rfl rfl ?_ | refine go_isC ?_ | refine go_isTy rfl (by first | exact kb_int_int | exact kb_int_bool | exact kb_bool_int | exact kb_bool_bool | exact kb_str_str | exact kb_list_list | exact kb_tuple_tuple | exact kb_tuple_list | exact kb_list_tuple | exact kb_NoneType_list | exact kb_NoneType_int | exact kb_str_int | exact kb_int_list | exact kb_int_tuple | exact kb_NoneType_tuple | exact kb_list_int | exact kb_tuple_int | exact kb_str_bool) ?_ | refine go_non ?_ | refine go_I0 ?_ | refine go_I ?_ ?_ | refine go_ix rfl ?_ | refine go_ixT rfl ?_ | refine go_eq rfl rfl rfl ?_ | refine go_ne rfl rfl rfl ?_ | refine go_len rfl ?_ | refine go_cat ?_ ?_ | refine go_rep ?_ ?_ ?_ ?_ | refine go_un ?_ | refine go_int ?_ | refine go_lst ?_ | refine go_tup ?_ | refine go_str ?_ | refine go_bl ?_ | refine go_ixO rfl ?_ | refine go_put rfl ?_ | refine go_ext ?_ ?_ | refine go_app ?_ ?_ | refine go_rg1 ?_ ?_ | refine go_rg2 ?_ ?_ | refine go_rg3 ?_ ?_ | refine go_enum ?_ | refine go_zipS ?_ ?_ | refine go_zip ?_))
      refine XE.kf ?_
      (repeat' (first | (guard_target =~ XS _ _ _ _ _; first | exact XS.next | refine XS.next ?_ | refine XS.seq ?_ | refine XS.set ?_ | refine XS.ret ?_ | refine XS.ite ?_ | refine XS.drop ?_ | refine XS.asg ?_ | refine XS.par3 ?_ | refine XS.par ?_ | refine XS.retN ?_ | refine XS.next ?_) | (guard_target =~ XE _ _ _ _ _; first | refine XE.var rfl ?_ | refine XE.int ?_ | refine XE.bl ?_ | refine XE.str ?_ | refine XE.non ?_ | refine XE.ixO rfl ?_ | refine XE.lenO rfl ?_ | refine XE.op dr_I0 ?_ | refine XE.op dr_I ?_ | refine XE.op dr_ixL ?_ | refine XE.op dr_ixT ?_ | refine XE.op dr_eq ?_ | refine XE.op dr_ne ?_ | refine XE.op dr_eqD ?_ | refine XE.op dr_neD ?_ | refine XE.op dr_isN ?_ | refine XE.op dr_notN ?_ | refine XE.op dr_eqO ?_ | refine XE.op dr_neO ?_ | refine XE.unI ?_ | refine XE.tup ?_ | refine XE.ofN (XN.lst ?_) | refine XE.ofN (XN.op dn_cat ?_) | refine XE.ofN (XN.op dn_rep ?_) | refine XE.ofN (XN.sl ?_) | refine XE.ofN (XN.cb dn_listOf ?_) | refine XE.cb db_abs ?_ | refine XE.cb db_max2 ?_ | refine XE.len1 ?_ | refine XE.cb db_lenO ?_ | refine XE.cb db_int1 ?_ | refine XE.call ?_ | refine XE.callX0 ?_ | refine XE.callP rfl ?_ | refine XE.andV ?_ | refine XE.orV ?_ | refine XE.notV ?_ | refine XE.ifE ?_ | refine XE.make ?_ | refine XE.isC ?_ | refine XE.isTy ?_ | refine XE.fld hH.cls hH.poly ?_ | refine XE.fld hH.cls hH.rows ?_ | refine XE.fld hH.cls hH.ways ?_ | refine XE.fld hN.cls hN.home ?_ | refine XE.fld hN.cls hN.parts ?_ | refine XE.km rfl ?_ | refine XE.kmX0 rfl ?_ | refine XE.kc rfl ?_ | refine XE.kcX0 rfl ?_) | (guard_target =~ XN _ _ _ _ _; first | refine XN.lst ?_ | refine XN.op dn_cat ?_ | refine XN.op dn_rep ?_ | refine XN.sl ?_ | refine XN.cb dn_listOf ?_) | (guard_target =~ XA _ _ _ _ _; first | refine XA.nil ?_ | refine XA.cons ?_) | (guard_target =~ XT _ _ _ _ _; first | refine XT.test ?_ | refine XT.b ?_ | refine XT.not ?_ | refine XT.and ?_ | refine XT.or ?_ | refine XT.yes ?_) | (guard_target =~ XO _ _ _ _ _; first | refine XO.no ?_ | refine XO.yes ?_) | (guard_target =~ XGs _ _ _ _ _ _; first | refine XGs.cons ?_ | refine XGs.nil ?_) | (guard_target =~ XG _ _ _ _ _ _; first | refine XG.name rfl ?_ | refine XG.tupG rfl ?_ | refine XG.unlG rfl ?_) | refine go_len1 rfl ?_ | refine go_fld rfl ?_ | refine go_ins rfl rfl ?_ | refine go_kc rfl rfl ?_ | refine go_isC ?_ | refine go_isTy rfl (by first | exact kb_int_int | exact kb_int_bool | exact kb_bool_int | exact kb_bool_bool | exact kb_str_str | exact kb_list_list | exact kb_tuple_tuple | exact kb_tuple_list | exact kb_list_tuple | exact kb_NoneType_list | exact kb_NoneType_int | exact kb_str_int | exact kb_int_list | exact kb_int_tuple | exact kb_NoneType_tuple | exact kb_list_int | exact kb_tuple_int | exact kb_str_bool) ?_ | refine go_non ?_ | refine go_I0 ?_ | refine go_I ?_ ?_ | refine go_ix rfl ?_ | refine go_ixT rfl ?_ | refine go_eq rfl rfl rfl ?_ | refine go_ne rfl rfl rfl ?_ | refine go_len rfl ?_ | refine go_cat ?_ ?_ | refine go_rep ?_ ?_ ?_ ?_ | refine go_un ?_ | refine go_int ?_ | refine go_lst ?_ | refine go_tup ?_ | refine go_str ?_ | refine go_bl ?_ | refine go_ixO rfl ?_ | refine go_put rfl ?_ | refine go_ext ?_ ?_ | refine go_app ?_ ?_ | refine go_rg1 ?_ ?_ | refine go_rg2 ?_ ?_ | refine go_rg3 ?_ ?_ | refine go_enum ?_ | refine go_zipS ?_ ?_ | refine go_zip ?_))
      refine ⟨_, _, _, rfl, ko.ex 0 (by decide), PK.n_at, rfl, ?_⟩
      (repeat' (first | (guard_target =~ XS _ _ _ _ _; first | exact XS.next | refine XS.next ?_ | refine XS.seq ?_ | refine XS.set ?_ | refine XS.ret ?_ | refine XS.ite ?_ | refine XS.drop ?_ | refine XS.asg ?_ | refine XS.par3 ?_ | refine XS.par ?_ | refine XS.retN ?_ | refine XS.next ?_) | (guard_target =~ XE _ _ _ _ _; first | refine XE.var rfl ?_ | refine XE.int ?_ | refine XE.bl ?_ | refine XE.str ?_ | refine XE.non ?_ | refine XE.ixO rfl ?_ | refine XE.lenO rfl ?_ | refine XE.op dr_I0 ?_ | refine XE.op dr_I ?_ | refine XE.op dr_ixL ?_ | refine XE.op dr_ixT ?_ | refine XE.op dr_eq ?_ | refine XE.op dr_ne ?_ | refine XE.op dr_eqD ?_ | refine XE.op dr_neD ?_ | refine XE.op dr_isN ?_ | refine XE.op dr_notN ?_ | refine XE.op dr_eqO ?_ | refine XE.op dr_neO ?_ | refine XE.unI ?_ | refine XE.tup ?_ | refine XE.ofN (XN.lst ?_) | refine XE.ofN (XN.op dn_cat ?_) | refine XE.ofN (XN.op dn_rep ?_) | refine XE.ofN (XN.sl ?_) | refine XE.ofN (XN.cb dn_listOf ?_) | refine XE.cb db_abs ?_ | refine XE.cb db_max2 ?_ | refine XE.len1 ?_ | refine XE.cb db_lenO ?_ | refine XE.cb db_int1 ?_ | refine XE.call ?_ | refine XE.callX0 ?_ | refine XE.callP rfl ?_ | refine XE.andV ?_ | refine XE.orV ?_ | refine XE.notV ?_ | refine XE.ifE ?_ | refine XE.make ?_ | refine XE.isC ?_ | refine XE.isTy ?_ | refine XE.fld hH.cls hH.poly ?_ | refine XE.fld hH.cls hH.rows ?_ | refine XE.fld hH.cls hH.ways ?_ | refine XE.fld hN.cls hN.home ?_ | refine XE.fld hN.cls hN.parts ?_ | refine XE.km rfl ?_ | refine XE.kmX0 rfl ?_ | refine XE.kc rfl ?_ | refine XE.kcX0 rfl ?_) | (guard_target =~ XN _ _ _ _ _; first | refine XN.lst ?_ | refine XN.op dn_cat ?_ | refine XN.op dn_rep ?_ | refine XN.sl ?_ | refine XN.cb dn_listOf ?_) | (guard_target =~ XA _ _ _ _ _; first | refine XA.nil ?_ | refine XA.cons ?_) | (guard_target =~ XT _ _ _ _ _; first | refine XT.test ?_ | refine XT.b ?_ | refine XT.not ?_ | refine XT.and ?_ | refine XT.or ?_ | refine XT.yes ?_) | (guard_target =~ XO _ _ _ _ _; first | refine XO.no ?_ | refine XO.yes ?_) | (guard_target =~ XGs _ _ _ _ _ _; first | refine XGs.cons ?_ | refine XGs.nil ?_) | (guard_target =~ XG _ _ _ _ _ _; first | refine XG.name rfl ?_ | refine XG.tupG rfl ?_ | refine XG.unlG rfl ?_) | refine go_len1 rfl ?_ | refine go_fld rfl ?_ | refine go_ins rfl rfl ?_ | refine go_kc rfl rfl ?_ | refine go_isC ?_ | refine go_isTy rfl (by first | exact kb_int_int | exact kb_int_bool | exact kb_bool_int | exact kb_bool_bool | exact kb_str_str | exact kb_list_list | exact kb_tuple_tuple | exact kb_tuple_list | exact kb_list_tuple | exact kb_NoneType_list | exact kb_NoneType_int | exact kb_str_int | exact kb_int_list | exact kb_int_tuple | exact kb_NoneType_tuple | exact kb_list_int | exact kb_tuple_int | exact kb_str_bool) ?_ | refine go_non ?_ | refine go_I0 ?_ | refine go_I ?_ ?_ | refine go_ix rfl ?_ | refine go_ixT rfl ?_ | refine go_eq rfl rfl rfl ?_ | refine go_ne rfl rfl rfl ?_ | refine go_len rfl ?_ | refine go_cat ?_ ?_ | refine go_rep ?_ ?_ ?_ ?_ | refine go_un ?_ | refine go_int ?_ | refine go_lst ?_ | refine go_tup ?_ | refine go_str ?_ | refine go_bl ?_ | refine go_ixO rfl ?_ | refine go_put rfl ?_ | refine go_ext ?_ ?_ | refine go_app ?_ ?_ | refine go_rg1 ?_ ?_ | refine go_rg2 ?_ ?_ | refine go_rg3 ?_ ?_ | refine go_enum ?_ | refine go_zipS ?_ ?_ | refine go_zip ?_))
      refine ⟨rfl, ?_⟩
      (repeat' (first | (guard_target =~ XS _ _ _ _ _; first | exact XS.next | refine XS.next ?_ | refine XS.seq ?_ | refine XS.set ?_ | refine XS.ret ?_ | refine XS.ite ?_ | refine XS.drop ?_ | refine XS.asg ?_ | refine XS.par3 ?_ | refine XS.par ?_ | refine XS.retN ?_ | refine XS.next ?_) | (guard_target =~ XE _ _ _ _ _; first | refine XE.var rfl ?_ | refine XE.int ?_ | refine XE.bl ?_ | refine XE.str ?_ | refine XE.non ?_ | refine XE.ixO rfl ?_ | refine XE.lenO rfl ?_ | refine XE.op dr_I0 ?_ | refine XE.op dr_I ?_ | refine XE.op dr_ixL ?_ | refine XE.op dr_ixT ?_ | refine XE.op dr_eq ?_ | refine XE.op dr_ne ?_ | refine XE.op dr_eqD ?_ | refine XE.op dr_neD ?_ | refine XE.op dr_isN ?_ | refine XE.op dr_notN ?_ | refine XE.op dr_eqO ?_ | refine XE.op dr_neO ?_ | refine XE.unI ?_ | refine XE.tup ?_ | refine XE.ofN (XN.lst ?_) | refine XE.ofN (XN.op dn_cat ?_) | refine XE.ofN (XN.op dn_rep ?_) | refine XE.ofN (XN.sl ?_) | refine XE.ofN (XN.cb dn_listOf ?_) | refine XE.cb db_abs ?_ | refine XE.cb db_max2 ?_ | refine XE.len1 ?_ | refine XE.cb db_lenO ?_ | refine XE.cb db_int1 ?_ | refine XE.call ?_ | refine XE.callX0 ?_ | refine XE.callP rfl ?_ | refine XE.andV ?_ | refine XE.orV ?_ | refine XE.notV ?_ | refine XE.ifE ?_ | refine XE.make ?_ | refine XE.isC ?_ | refine XE.isTy ?_ | refine XE.fld hH.cls hH.poly ?_ | refine XE.fld hH.cls hH.rows ?_ | refine XE.fld hH.cls hH.ways ?_ | refine XE.fld hN.cls hN.home ?_ | refine XE.fld hN.cls hN.parts ?_ | refine XE.km rfl ?_ | refine XE.kmX0 rfl ?_ | refine XE.kc rfl ?_ | refine XE.kcX0 rfl ?_) | (guard_target =~ XN _ _ _ _ _; first | refine XN.lst ?_ | refine XN.op dn_cat ?_ | refine XN.op dn_rep ?_ | refine XN.sl ?_ | refine XN.cb dn_listOf ?_) | (guard_target =~ XA _ _ _ _ _; first | refine XA.nil ?_ | refine XA.cons ?_) | (guard_target =~ XT _ _ _ _ _; first | refine XT.test ?_ | refine XT.b ?_ | refine XT.not ?_ | refine XT.and ?_ | refine XT.or ?_ | refine XT.yes ?_) | (guard_target =~ XO _ _ _ _ _; first | refine XO.no ?_ | refine XO.yes ?_) | (guard_target =~ XGs _ _ _ _ _ _; first | refine XGs.cons ?_ | refine XGs.nil ?_) | (guard_target =~ XG _ _ _ _ _ _; first | refine XG.name rfl ?_ | refine XG.tupG rfl ?_ | refine XG.unlG rfl ?_) | refine go_len1 rfl ?_ | refine go_fld rfl ?_ | refine go_ins rfl rfl ?_ | refine go_kc rfl rfl ?_ | refine go_isC ?_ | refine go_isTy rfl (by first | exact kb_int_int | exact kb_int_bool | exact kb_bool_int | exact kb_bool_bool | exact kb_str_str | exact kb_list_list | exact kb_tuple_tuple | exact kb_tuple_list | exact kb_list_tuple | exact kb_NoneType_list | exact kb_NoneType_int | exact kb_str_int | exact kb_int_list | exact kb_int_tuple | exact kb_NoneType_tuple | exact kb_list_int | exact kb_tuple_int | exact kb_str_bool) ?_ | refine go_non ?_ | refine go_I0 ?_ | refine go_I ?_ ?_ | refine go_ix rfl ?_ | refine go_ixT rfl ?_ | refine go_eq rfl rfl rfl ?_ | refine go_ne rfl rfl rfl ?_ | refine go_len rfl ?_ | refine go_cat ?_ ?_ | refine go_rep ?_ ?_ ?_ ?_ | refine go_un ?_ | refine go_int ?_ | refine go_lst ?_ | refine go_tup ?_ | refine go_str ?_ | refine go_bl ?_ | refine go_ixO rfl ?_ | refine go_put rfl ?_ | refine go_ext ?_ ?_ | refine go_app ?_ ?_ | refine go_rg1 ?_ ?_ | refine go_rg2 ?_ ?_ | refine go_rg3 ?_ ?_ | refine go_enum ?_ | refine go_zipS ?_ ?_ | refine go_zip ?_))
      refine XE.kf ?_
      (repeat' (first | (guard_target =~ XS _ _ _ _ _; first | exact XS.next | refine XS.next ?_ | refine XS.seq ?_ | refine XS.set ?_ | refine XS.ret ?_ | refine XS.ite ?_ | refine XS.drop ?_ | refine XS.asg ?_ | refine XS.par3 ?_ | refine XS.par ?_ | refine XS.retN ?_ | refine XS.next ?_) | (guard_target =~ XE _ _ _ _ _; first | refine XE.var rfl ?_ | refine XE.int ?_ | refine XE.bl ?_ | refine XE.str ?_ | refine XE.non ?_ | refine XE.ixO rfl ?_ | refine XE.lenO rfl ?_ | refine XE.op dr_I0 ?_ | refine XE.op dr_I ?_ | refine XE.op dr_ixL ?_ | refine XE.op dr_ixT ?_ | refine XE.op dr_eq ?_ | refine XE.op dr_ne ?_ | refine XE.op dr_eqD ?_ | refine XE.op dr_neD ?_ | refine XE.op dr_isN ?_ | refine XE.op dr_notN ?_ | refine XE.op dr_eqO ?_ | refine XE.op dr_neO ?_ | refine XE.unI ?_ | refine XE.tup ?_ | refine XE.ofN (XN.lst ?_) | refine XE.ofN (XN.op dn_cat ?_) | refine XE.ofN (XN.op dn_rep ?_) | refine XE.ofN (XN.sl ?_) | refine XE.ofN (XN.cb dn_listOf ?_) | refine XE.cb db_abs ?_ | refine XE.cb db_max2 ?_ | refine XE.len1 ?_ | refine XE.cb db_lenO ?_ | refine XE.cb db_int1 ?_ | refine XE.call ?_ | refine XE.callX0 ?_ | refine XE.callP rfl ?_ | refine XE.andV ?_ | refine XE.orV ?_ | refine XE.notV ?_ | refine XE.ifE ?_ | refine XE.make ?_ | refine XE.isC ?_ | refine XE.isTy ?_ | refine XE.fld hH.cls hH.poly ?_ | refine XE.fld hH.cls hH.rows ?_ | refine XE.fld hH.cls hH.ways ?_ | refine XE.fld hN.cls hN.home ?_ | refine XE.fld hN.cls hN.parts ?_ | refine XE.km rfl ?_ | refine XE.kmX0 rfl ?_ | refine XE.kc rfl ?_ | refine XE.kcX0 rfl ?_) | (guard_target =~ XN _ _ _ _ _; first | refine XN.lst ?_ | refine XN.op dn_cat ?_ | refine XN.op dn_rep ?_ | refine XN.sl ?_ | refine XN.cb dn_listOf ?_) | (guard_target =~ XA _ _ _ _ _; first | refine XA.nil ?_ | refine XA.cons ?_) | (guard_target =~ XT _ _ _ _ _; first | refine XT.test ?_ | refine XT.b ?_ | refine XT.not ?_ | refine XT.and ?_ | refine XT.or ?_ | refine XT.yes ?_) | (guard_target =~ XO _ _ _ _ _; first | refine XO.no ?_ | refine XO.yes ?_) | (guard_target =~ XGs _ _ _ _ _ _; first | refine XGs.cons ?_ | refine XGs.nil ?_) | (guard_target =~ XG _ _ _ _ _ _; first | refine XG.name rfl ?_ | refine XG.tupG rfl ?_ | refine XG.unlG rfl ?_) | refine go_len1 rfl ?_ | refine go_fld rfl ?_ | refine go_ins rfl rfl ?_ | refine go_kc rfl rfl ?_ | refine go_isC ?_ | refine go_isTy rfl (by first | exact kb_int_int | exact kb_int_bool | exact kb_bool_int | exact kb_bool_bool | exact kb_str_str | exact kb_list_list | exact kb_tuple_tuple | exact kb_tuple_list | exact kb_list_tuple | exact kb_NoneType_list | exact kb_NoneType_int | exact kb_str_int | exact kb_int_list | exact kb_int_tuple | exact kb_NoneType_tuple | exact kb_list_int | exact kb_tuple_int | exact kb_str_bool) ?_ | refine go_non ?_ | refine go_I0 ?_ | refine go_I ?_ ?_ | refine go_ix rfl ?_ | refine go_ixT rfl ?_ | refine go_eq rfl rfl rfl ?_ | refine go_ne rfl rfl rfl ?_ | refine go_len rfl ?_ | refine go_cat ?_ ?_ | refine go_rep ?_ ?_ ?_ ?_ | refine go_un ?_ | refine go_int ?_ | refine go_lst ?_ | refine go_tup ?_ | refine go_str ?_ | refine go_bl ?_ | refine go_ixO rfl ?_ | refine go_put rfl ?_ | refine go_ext ?_ ?_ | refine go_app ?_ ?_ | refine go_rg1 ?_ ?_ | refine go_rg2 ?_ ?_ | refine go_rg3 ?_ ?_ | refine go_enum ?_ | refine go_zipS ?_ ?_ | refine go_zip ?_))
      refine ⟨_, _, _, rfl, ko.ex 11 (by decide), PK.n_name, rfl, ?_⟩
      (repeat' (first | (guard_target =~ XS _ _ _ _ _; first | exact XS.next | refine XS.next ?_ | refine XS.seq ?_ | refine XS.set ?_ | refine XS.ret ?_ | refine XS.ite ?_ | refine XS.drop ?_ | refine XS.asg ?_ | refine XS.par3 ?_ | refine XS.par ?_ | refine XS.retN ?_ | refine XS.next ?_) | (guard_target =~ XE _ _ _ _ _; first | refine XE.var rfl ?_ | refine XE.int ?_ | refine XE.bl ?_ | refine XE.str ?_ | refine XE.non ?_ | refine XE.ixO rfl ?_ | refine XE.lenO rfl ?_ | refine XE.op dr_I0 ?_ | refine XE.op dr_I ?_ | refine XE.op dr_ixL ?_ | refine XE.op dr_ixT ?_ | refine XE.op dr_eq ?_ | refine XE.op dr_ne ?_ | refine XE.op dr_eqD ?_ | refine XE.op dr_neD ?_ | refine XE.op dr_isN ?_ | refine XE.op dr_notN ?_ | refine XE.op dr_eqO ?_ | refine XE.op dr_neO ?_ | refine XE.unI ?_ | refine XE.tup ?_ | refine XE.ofN (XN.lst ?_) | refine XE.ofN (XN.op dn_cat ?_) | refine XE.ofN (XN.op dn_rep ?_) | refine XE.ofN (XN.sl ?_) | refine XE.ofN (XN.cb dn_listOf ?_) | refine XE.cb db_abs ?_ | refine XE.cb db_max2 ?_ | refine XE.len1 ?_ | refine XE.cb db_lenO ?_ | refine XE.cb db_int1 ?_ | refine XE.call ?_ | refine XE.callX0 ?_ | refine XE.callP rfl ?_ | refine XE.andV ?_ | refine XE.orV ?_ | refine XE.notV ?_ | refine XE.ifE ?_ | refine XE.make ?_ | refine XE.isC ?_ | refine XE.isTy ?_ | refine XE.fld hH.cls hH.poly ?_ | refine XE.fld hH.cls hH.rows ?_ | refine XE.fld hH.cls hH.ways ?_ | refine XE.fld hN.cls hN.home ?_ | refine XE.fld hN.cls hN.parts ?_ | refine XE.km rfl ?_ | refine XE.kmX0 rfl ?_ | refine XE.kc rfl ?_ | refine XE.kcX0 rfl ?_) | (guard_target =~ XN _ _ _ _ _; first | refine XN.lst ?_ | refine XN.op dn_cat ?_ | refine XN.op dn_rep ?_ | refine XN.sl ?_ | refine XN.cb dn_listOf ?_) | (guard_target =~ XA _ _ _ _ _; first | refine XA.nil ?_ | refine XA.cons ?_) | (guard_target =~ XT _ _ _ _ _; first | refine XT.test ?_ | refine XT.b ?_ | refine XT.not ?_ | refine XT.and ?_ | refine XT.or ?_ | refine XT.yes ?_) | (guard_target =~ XO _ _ _ _ _; first | refine XO.no ?_ | refine XO.yes ?_) | (guard_target =~ XGs _ _ _ _ _ _; first | refine XGs.cons ?_ | refine XGs.nil ?_) | (guard_target =~ XG _ _ _ _ _ _; first | refine XG.name rfl ?_ | refine XG.tupG rfl ?_ | refine XG.unlG rfl ?_) | refine go_len1 rfl ?_ | refine go_fld rfl ?_ | refine go_ins rfl rfl ?_ | refine go_kc rfl rfl ?_ | refine go_isC ?_ | refine go_isTy rfl (by first | exact kb_int_int | exact kb_int_bool | exact kb_bool_int | exact kb_bool_bool | exact kb_str_str | exact kb_list_list | exact kb_tuple_tuple | exact kb_tuple_list | exact kb_list_tuple | exact kb_NoneType_list | exact kb_NoneType_int | exact kb_str_int | exact kb_int_list | exact kb_int_tuple | exact kb_NoneType_tuple | exact kb_list_int | exact kb_tuple_int | exact kb_str_bool) ?_ | refine go_non ?_ | refine go_I0 ?_ | refine go_I ?_ ?_ | refine go_ix rfl ?_ | refine go_ixT rfl ?_ | refine go_eq rfl rfl rfl ?_ | refine go_ne rfl rfl rfl ?_ | refine go_len rfl ?_ | refine go_cat ?_ ?_ | refine go_rep ?_ ?_ ?_ ?_ | refine go_un ?_ | refine go_int ?_ | refine go_lst ?_ | refine go_tup ?_ | refine go_str ?_ | refine go_bl ?_ | refine go_ixO rfl ?_ | refine go_put rfl ?_ | refine go_ext ?_ ?_ | refine go_app ?_ ?_ | refine go_rg1 ?_ ?_ | refine go_rg2 ?_ ?_ | refine go_rg3 ?_ ?_ | refine go_enum ?_ | refine go_zipS ?_ ?_ | refine go_zip ?_))
      refine XE.newP ?_
      (repeat' (first | (guard_target =~ XS _ _ _ _ _; first | exact XS.next | refine XS.next ?_ | refine XS.seq ?_ | refine XS.set ?_ | refine XS.ret ?_ | refine XS.ite ?_ | refine XS.drop ?_ | refine XS.asg ?_ | refine XS.par3 ?_ | refine XS.par ?_ | refine XS.retN ?_ | refine XS.next ?_) | (guard_target =~ XE _ _ _ _ _; first | refine XE.var rfl ?_ | refine XE.int ?_ | refine XE.bl ?_ | refine XE.str ?_ | refine XE.non ?_ | refine XE.ixO rfl ?_ | refine XE.lenO rfl ?_ | refine XE.op dr_I0 ?_ | refine XE.op dr_I ?_ | refine XE.op dr_ixL ?_ | refine XE.op dr_ixT ?_ | refine XE.op dr_eq ?_ | refine XE.op dr_ne ?_ | refine XE.op dr_eqD ?_ | refine XE.op dr_neD ?_ | refine XE.op dr_isN ?_ | refine XE.op dr_notN ?_ | refine XE.op dr_eqO ?_ | refine XE.op dr_neO ?_ | refine XE.unI ?_ | refine XE.tup ?_ | refine XE.ofN (XN.lst ?_) | refine XE.ofN (XN.op dn_cat ?_) | refine XE.ofN (XN.op dn_rep ?_) | refine XE.ofN (XN.sl ?_) | refine XE.ofN (XN.cb dn_listOf ?_) | refine XE.cb db_abs ?_ | refine XE.cb db_max2 ?_ | refine XE.len1 ?_ | refine XE.cb db_lenO ?_ | refine XE.cb db_int1 ?_ | refine XE.call ?_ | refine XE.callX0 ?_ | refine XE.callP rfl ?_ | refine XE.andV ?_ | refine XE.orV ?_ | refine XE.notV ?_ | refine XE.ifE ?_ | refine XE.make ?_ | refine XE.isC ?_ | refine XE.isTy ?_ | refine XE.fld hH.cls hH.poly ?_ | refine XE.fld hH.cls hH.rows ?_ | refine XE.fld hH.cls hH.ways ?_ | refine XE.fld hN.cls hN.home ?_ | refine XE.fld hN.cls hN.parts ?_ | refine XE.km rfl ?_ | refine XE.kmX0 rfl ?_ | refine XE.kc rfl ?_ | refine XE.kcX0 rfl ?_) | (guard_target =~ XN _ _ _ _ _; first | refine XN.lst ?_ | refine XN.op dn_cat ?_ | refine XN.op dn_rep ?_ | refine XN.sl ?_ | refine XN.cb dn_listOf ?_) | (guard_target =~ XA _ _ _ _ _; first | refine XA.nil ?_ | refine XA.cons ?_) | (guard_target =~ XT _ _ _ _ _; first | refine XT.test ?_ | refine XT.b ?_ | refine XT.not ?_ | refine XT.and ?_ | refine XT.or ?_ | refine XT.yes ?_) | (guard_target =~ XO _ _ _ _ _; first | refine XO.no ?_ | refine XO.yes ?_) | (guard_target =~ XGs _ _ _ _ _ _; first | refine XGs.cons ?_ | refine XGs.nil ?_) | (guard_target =~ XG _ _ _ _ _ _; first | refine XG.name rfl ?_ | refine XG.tupG rfl ?_ | refine XG.unlG rfl ?_) | refine go_len1 rfl ?_ | refine go_fld rfl ?_ | refine go_ins rfl rfl ?_ | refine go_kc rfl rfl ?_ | refine go_isC ?_ | refine go_isTy rfl (by first | exact kb_int_int | exact kb_int_bool | exact kb_bool_int | exact kb_bool_bool | exact kb_str_str | exact kb_list_list | exact kb_tuple_tuple | exact kb_tuple_list | exact kb_list_tuple | exact kb_NoneType_list | exact kb_NoneType_int | exact kb_str_int | exact kb_int_list | exact kb_int_tuple | exact kb_NoneType_tuple | exact kb_list_int | exact kb_tuple_int | exact kb_str_bool) ?_ | refine go_non ?_ | refine go_I0 ?_ | refine go_I ?_ ?_ | refine go_ix rfl ?_ | refine go_ixT rfl ?_ | refine go_eq rfl rfl rfl ?_ | refine go_ne rfl rfl rfl ?_ | refine go_len rfl ?_ | refine go_cat ?_ ?_ | refine go_rep ?_ ?_ ?_ ?_ | refine go_un ?_ | refine go_int ?_ | refine go_lst ?_ | refine go_tup ?_ | refine go_str ?_ | refine go_bl ?_ | refine go_ixO rfl ?_ | refine go_put rfl ?_ | refine go_ext ?_ ?_ | refine go_app ?_ ?_ | refine go_rg1 ?_ ?_ | refine go_rg2 ?_ ?_ | refine go_rg3 ?_ ?_ | refine go_enum ?_ | refine go_zipS ?_ ?_ | refine go_zip ?_))
      refine ⟨14, [], rfl, by decide, ?_⟩
      (repeat' (first | (guard_target =~ XS _ _ _ _ _; first | exact XS.next | refine XS.next ?_ | refine XS.seq ?_ | refine XS.set ?_ | refine XS.ret ?_ | refine XS.ite ?_ | refine XS.drop ?_ | refine XS.asg ?_ | refine XS.par3 ?_ | refine XS.par ?_ | refine XS.retN ?_ | refine XS.next ?_) | (guard_target =~ XE _ _ _ _ _; first | refine XE.var rfl ?_ | refine XE.int ?_ | refine XE.bl ?_ | refine XE.str ?_ | refine XE.non ?_ | refine XE.ixO rfl ?_ | refine XE.lenO rfl ?_ | refine XE.op dr_I0 ?_ | refine XE.op dr_I ?_ | refine XE.op dr_ixL ?_ | refine XE.op dr_ixT ?_ | refine XE.op dr_eq ?_ | refine XE.op dr_ne ?_ | refine XE.op dr_eqD ?_ | refine XE.op dr_neD ?_ | refine XE.op dr_isN ?_ | refine XE.op dr_notN ?_ | refine XE.op dr_eqO ?_ | refine XE.op dr_neO ?_ | refine XE.unI ?_ | refine XE.tup ?_ | refine XE.ofN (XN.lst ?_) | refine XE.ofN (XN.op dn_cat ?_) | refine XE.ofN (XN.op dn_rep ?_) | refine XE.ofN (XN.sl ?_) | refine XE.ofN (XN.cb dn_listOf ?_) | refine XE.cb db_abs ?_ | refine XE.cb db_max2 ?_ | refine XE.len1 ?_ | refine XE.cb db_lenO ?_ | refine XE.cb db_int1 ?_ | refine XE.call ?_ | refine XE.callX0 ?_ | refine XE.callP rfl ?_ | refine XE.andV ?_ | refine XE.orV ?_ | refine XE.notV ?_ | refine XE.ifE ?_ | refine XE.make ?_ | refine XE.isC ?_ | refine XE.isTy ?_ | refine XE.fld hH.cls hH.poly ?_ | refine XE.fld hH.cls hH.rows ?_ | refine XE.fld hH.cls hH.ways ?_ | refine XE.fld hN.cls hN.home ?_ | refine XE.fld hN.cls hN.parts ?_ | refine XE.km rfl ?_ | refine XE.kmX0 rfl ?_ | refine XE.kc rfl ?_ | refine XE.kcX0 rfl ?_) | (guard_target =~ XN _ _ _ _ _; first | refine XN.lst ?_ | refine XN.op dn_cat ?_ | refine XN.op dn_rep ?_ | refine XN.sl ?_ | refine XN.cb dn_listOf ?_) | (guard_target =~ XA _ _ _ _ _; first | refine XA.nil ?_ | refine XA.cons ?_) | (guard_target =~ XT _ _ _ _ _; first | refine XT.test ?_ | refine XT.b ?_ | refine XT.not ?_ | refine XT.and ?_ | refine XT.or ?_ | refine XT.yes ?_) | (guard_target =~ XO _ _ _ _ _; first | refine XO.no ?_ | refine XO.yes ?_) | (guard_target =~ XGs _ _ _ _ _ _; first | refine XGs.cons ?_ | refine XGs.nil ?_) | (guard_target =~ XG _ _ _ _ _ _; first | refine XG.name rfl ?_ | refine XG.tupG rfl ?_ | refine XG.unlG rfl ?_) | refine go_len1 rfl ?_ | refine go_fld rfl ?_ | refine go_ins rfl rfl ?_ | refine go_kc rfl rfl ?_ | refine go_isC ?_ | refine go_isTy rfl (by first | exact kb_int_int | exact kb_int_bool | exact kb_bool_int | exact kb_bool_bool | exact kb_str_str | exact kb_list_list | exact kb_tuple_tuple | exact kb_tuple_list | exact kb_list_tuple | exact kb_NoneType_list | exact kb_NoneType_int | exact kb_str_int | exact kb_int_list | exact kb_int_tuple | exact kb_NoneType_tuple | exact kb_list_int | exact kb_tuple_int | exact kb_str_bool) ?_ | refine go_non ?_ | refine go_I0 ?_ | refine go_I ?_ ?_ | refine go_ix rfl ?_ | refine go_ixT rfl ?_ | refine go_eq rfl rfl rfl ?_ | refine go_ne rfl rfl rfl ?_ | refine go_len rfl ?_ | refine go_cat ?_ ?_ | refine go_rep ?_ ?_ ?_ ?_ | refine go_un ?_ | refine go_int ?_ | refine go_lst ?_ | refine go_tup ?_ | refine go_str ?_ | refine go_bl ?_ | refine go_ixO rfl ?_ | refine go_put rfl ?_ | refine go_ext ?_ ?_ | refine go_app ?_ ?_ | refine go_rg1 ?_ ?_ | refine go_rg2 ?_ ?_ | refine go_rg3 ?_ ?_ | refine go_enum ?_ | refine go_zipS ?_ ?_ | refine go_zip ?_))
      refine XE.ofN (XN.to (XI.rng1 ?_))
      (repeat' (first | (guard_target =~ XS _ _ _ _ _; first | exact XS.next | refine XS.next ?_ | refine XS.seq ?_ | refine XS.set ?_ | refine XS.ret ?_ | refine XS.ite ?_ | refine XS.drop ?_ | refine XS.asg ?_ | refine XS.par3 ?_ | refine XS.par ?_ | refine XS.retN ?_ | refine XS.next ?_) | (guard_target =~ XE _ _ _ _ _; first | refine XE.var rfl ?_ | refine XE.int ?_ | refine XE.bl ?_ | refine XE.str ?_ | refine XE.non ?_ | refine XE.ixO rfl ?_ | refine XE.lenO rfl ?_ | refine XE.op dr_I0 ?_ | refine XE.op dr_I ?_ | refine XE.op dr_ixL ?_ | refine XE.op dr_ixT ?_ | refine XE.op dr_eq ?_ | refine XE.op dr_ne ?_ | refine XE.op dr_eqD ?_ | refine XE.op dr_neD ?_ | refine XE.op dr_isN ?_ | refine XE.op dr_notN ?_ | refine XE.op dr_eqO ?_ | refine XE.op dr_neO ?_ | refine XE.unI ?_ | refine XE.tup ?_ | refine XE.ofN (XN.lst ?_) | refine XE.ofN (XN.op dn_cat ?_) | refine XE.ofN (XN.op dn_rep ?_) | refine XE.ofN (XN.sl ?_) | refine XE.ofN (XN.cb dn_listOf ?_) | refine XE.cb db_abs ?_ | refine XE.cb db_max2 ?_ | refine XE.len1 ?_ | refine XE.cb db_lenO ?_ | refine XE.cb db_int1 ?_ | refine XE.call ?_ | refine XE.callX0 ?_ | refine XE.callP rfl ?_ | refine XE.andV ?_ | refine XE.orV ?_ | refine XE.notV ?_ | refine XE.ifE ?_ | refine XE.make ?_ | refine XE.isC ?_ | refine XE.isTy ?_ | refine XE.fld hH.cls hH.poly ?_ | refine XE.fld hH.cls hH.rows ?_ | refine XE.fld hH.cls hH.ways ?_ | refine XE.fld hN.cls hN.home ?_ | refine XE.fld hN.cls hN.parts ?_ | refine XE.km rfl ?_ | refine XE.kmX0 rfl ?_ | refine XE.kc rfl ?_ | refine XE.kcX0 rfl ?_) | (guard_target =~ XN _ _ _ _ _; first | refine XN.lst ?_ | refine XN.op dn_cat ?_ | refine XN.op dn_rep ?_ | refine XN.sl ?_ | refine XN.cb dn_listOf ?_) | (guard_target =~ XA _ _ _ _ _; first | refine XA.nil ?_ | refine XA.cons ?_) | (guard_target =~ XT _ _ _ _ _; first | refine XT.test ?_ | refine XT.b ?_ | refine XT.not ?_ | refine XT.and ?_ | refine XT.or ?_ | refine XT.yes ?_) | (guard_target =~ XO _ _ _ _ _; first | refine XO.no ?_ | refine XO.yes ?_) | (guard_target =~ XGs _ _ _ _ _ _; first | refine XGs.cons ?_ | refine XGs.nil ?_) | (guard_target =~ XG _ _ _ _ _ _; first | refine XG.name rfl ?_ | refine XG.tupG rfl ?_ | refine XG.unlG rfl ?_) | refine go_len1 rfl ?_ | refine go_fld rfl ?_ | refine go_ins rfl rfl ?_ | refine go_kc rfl rfl ?_ | refine go_isC ?_ | refine go_isTy rfl (by first | exact kb_int_int | exact kb_int_bool | exact kb_bool_int | exact kb_bool_bool | exact kb_str_str | exact kb_list_list | exact kb_tuple_tuple | exact kb_tuple_list | exact kb_list_tuple | exact kb_NoneType_list | exact kb_NoneType_int | exact kb_str_int | exact kb_int_list | exact kb_int_tuple | exact kb_NoneType_tuple | exact kb_list_int | exact kb_tuple_int | exact kb_str_bool) ?_ | refine go_non ?_ | refine go_I0 ?_ | refine go_I ?_ ?_ | refine go_ix rfl ?_ | refine go_ixT rfl ?_ | refine go_eq rfl rfl rfl ?_ | refine go_ne rfl rfl rfl ?_ | refine go_len rfl ?_ | refine go_cat ?_ ?_ | refine go_rep ?_ ?_ ?_ ?_ | refine go_un ?_ | refine go_int ?_ | refine go_lst ?_ | refine go_tup ?_ | refine go_str ?_ | refine go_bl ?_ | refine go_ixO rfl ?_ | refine go_put rfl ?_ | refine go_ext ?_ ?_ | refine go_app ?_ ?_ | refine go_rg1 ?_ ?_ | refine go_rg2 ?_ ?_ | refine go_rg3 ?_ ?_ | refine go_enum ?_ | refine go_zipS ?_ ?_ | refine go_zip ?_))
      · exact ⟨by decide, by decide⟩
      refine ⟨sortsD 14, rfl, by decide, fun j d o hj ho => ?_, ?_⟩
      · obtain ⟨jl, rfl⟩ := rng_get hj
        have eo : o = Dat.bl false := List.eq_of_mem_replicate (n := 14) (List.mem_of_getElem? ho)
        subst eo
        (repeat' (first | (guard_target =~ XS _ _ _ _ _; first | exact XS.next | refine XS.next ?_ | refine XS.seq ?_ | refine XS.set ?_ | refine XS.ret ?_ | refine XS.ite ?_ | refine XS.drop ?_ | refine XS.asg ?_ | refine XS.par3 ?_ | refine XS.par ?_ | refine XS.retN ?_ | refine XS.next ?_) | (guard_target =~ XE _ _ _ _ _; first | refine XE.var rfl ?_ | refine XE.int ?_ | refine XE.bl ?_ | refine XE.str ?_ | refine XE.non ?_ | refine XE.ixO rfl ?_ | refine XE.lenO rfl ?_ | refine XE.op dr_I0 ?_ | refine XE.op dr_I ?_ | refine XE.op dr_ixL ?_ | refine XE.op dr_ixT ?_ | refine XE.op dr_eq ?_ | refine XE.op dr_ne ?_ | refine XE.op dr_eqD ?_ | refine XE.op dr_neD ?_ | refine XE.op dr_isN ?_ | refine XE.op dr_notN ?_ | refine XE.op dr_eqO ?_ | refine XE.op dr_neO ?_ | refine XE.unI ?_ | refine XE.tup ?_ | refine XE.ofN (XN.lst ?_) | refine XE.ofN (XN.op dn_cat ?_) | refine XE.ofN (XN.op dn_rep ?_) | refine XE.ofN (XN.sl ?_) | refine XE.ofN (XN.cb dn_listOf ?_) | refine XE.cb db_abs ?_ | refine XE.cb db_max2 ?_ | refine XE.len1 ?_ | refine XE.cb db_lenO ?_ | refine XE.cb db_int1 ?_ | refine XE.call ?_ | refine XE.callX0 ?_ | refine XE.callP rfl ?_ | refine XE.andV ?_ | refine XE.orV ?_ | refine XE.notV ?_ | refine XE.ifE ?_ | refine XE.make ?_ | refine XE.isC ?_ | refine XE.isTy ?_ | refine XE.fld hH.cls hH.poly ?_ | refine XE.fld hH.cls hH.rows ?_ | refine XE.fld hH.cls hH.ways ?_ | refine XE.fld hN.cls hN.home ?_ | refine XE.fld hN.cls hN.parts ?_ | refine XE.km rfl ?_ | refine XE.kmX0 rfl ?_ | refine XE.kc rfl ?_ | refine XE.kcX0 rfl ?_) | (guard_target =~ XN _ _ _ _ _; first | refine XN.lst ?_ | refine XN.op dn_cat ?_ | refine XN.op dn_rep ?_ | refine XN.sl ?_ | refine XN.cb dn_listOf ?_) | (guard_target =~ XA _ _ _ _ _; first | refine XA.nil ?_ | refine XA.cons ?_) | (guard_target =~ XT _ _ _ _ _; first | refine XT.test ?_ | refine XT.b ?_ | refine XT.not ?_ | refine XT.and ?_ | refine XT.or ?_ | refine XT.yes ?_) | (guard_target =~ XO _ _ _ _ _; first | refine XO.no ?_ | refine XO.yes ?_) | (guard_target =~ XGs _ _ _ _ _ _; first | refine XGs.cons ?_ | refine XGs.nil ?_) | (guard_target =~ XG _ _ _ _ _ _; first | refine XG.name rfl ?_ | refine XG.tupG rfl ?_ | refine XG.unlG rfl ?_) | refine go_len1 rfl ?_ | refine go_fld rfl ?_ | refine go_ins rfl rfl ?_ | refine go_kc rfl rfl ?_ | refine go_isC ?_ | refine go_isTy rfl (by first | exact kb_int_int | exact kb_int_bool | exact kb_bool_int | exact kb_bool_bool | exact kb_str_str | exact kb_list_list | exact kb_tuple_tuple | exact kb_tuple_list | exact kb_list_tuple | exact kb_NoneType_list | exact kb_NoneType_int | exact kb_str_int | exact kb_int_list | exact kb_int_tuple | exact kb_NoneType_tuple | exact kb_list_int | exact kb_tuple_int | exact kb_str_bool) ?_ | refine go_non ?_ | refine go_I0 ?_ | refine go_I ?_ ?_ | refine go_ix rfl ?_ | refine go_ixT rfl ?_ | refine go_eq rfl rfl rfl ?_ | refine go_ne rfl rfl rfl ?_ | refine go_len rfl ?_ | refine go_cat ?_ ?_ | refine go_rep ?_ ?_ ?_ ?_ | refine go_un ?_ | refine go_int ?_ | refine go_lst ?_ | refine go_tup ?_ | refine go_str ?_ | refine go_bl ?_ | refine go_ixO rfl ?_ | refine go_put rfl ?_ | refine go_ext ?_ ?_ | refine go_app ?_ ?_ | refine go_rg1 ?_ ?_ | refine go_rg2 ?_ ?_ | refine go_rg3 ?_ ?_ | refine go_enum ?_ | refine go_zipS ?_ ?_ | refine go_zip ?_))
        exact ⟨rfl, rfl⟩
      refine neD_self (by decide +kernel) rfl ?_
      (repeat' (first | (guard_target =~ XS _ _ _ _ _; first | exact XS.next | refine XS.next ?_ | refine XS.seq ?_ | refine XS.set ?_ | refine XS.ret ?_ | refine XS.ite ?_ | refine XS.drop ?_ | refine XS.asg ?_ | refine XS.par3 ?_ | refine XS.par ?_ | refine XS.retN ?_ | refine XS.next ?_) | (guard_target =~ XE _ _ _ _ _; first | refine XE.var rfl ?_ | refine XE.int ?_ | refine XE.bl ?_ | refine XE.str ?_ | refine XE.non ?_ | refine XE.ixO rfl ?_ | refine XE.lenO rfl ?_ | refine XE.op dr_I0 ?_ | refine XE.op dr_I ?_ | refine XE.op dr_ixL ?_ | refine XE.op dr_ixT ?_ | refine XE.op dr_eq ?_ | refine XE.op dr_ne ?_ | refine XE.op dr_eqD ?_ | refine XE.op dr_neD ?_ | refine XE.op dr_isN ?_ | refine XE.op dr_notN ?_ | refine XE.op dr_eqO ?_ | refine XE.op dr_neO ?_ | refine XE.unI ?_ | refine XE.tup ?_ | refine XE.ofN (XN.lst ?_) | refine XE.ofN (XN.op dn_cat ?_) | refine XE.ofN (XN.op dn_rep ?_) | refine XE.ofN (XN.sl ?_) | refine XE.ofN (XN.cb dn_listOf ?_) | refine XE.cb db_abs ?_ | refine XE.cb db_max2 ?_ | refine XE.len1 ?_ | refine XE.cb db_lenO ?_ | refine XE.cb db_int1 ?_ | refine XE.call ?_ | refine XE.callX0 ?_ | refine XE.callP rfl ?_ | refine XE.andV ?_ | refine XE.orV ?_ | refine XE.notV ?_ | refine XE.ifE ?_ | refine XE.make ?_ | refine XE.isC ?_ | refine XE.isTy ?_ | refine XE.fld hH.cls hH.poly ?_ | refine XE.fld hH.cls hH.rows ?_ | refine XE.fld hH.cls hH.ways ?_ | refine XE.fld hN.cls hN.home ?_ | refine XE.fld hN.cls hN.parts ?_ | refine XE.km rfl ?_ | refine XE.kmX0 rfl ?_ | refine XE.kc rfl ?_ | refine XE.kcX0 rfl ?_) | (guard_target =~ XN _ _ _ _ _; first | refine XN.lst ?_ | refine XN.op dn_cat ?_ | refine XN.op dn_rep ?_ | refine XN.sl ?_ | refine XN.cb dn_listOf ?_) | (guard_target =~ XA _ _ _ _ _; first | refine XA.nil ?_ | refine XA.cons ?_) | (guard_target =~ XT _ _ _ _ _; first | refine XT.test ?_ | refine XT.b ?_ | refine XT.not ?_ | refine XT.and ?_ | refine XT.or ?_ | refine XT.yes ?_) | (guard_target =~ XO _ _ _ _ _; first | refine XO.no ?_ | refine XO.yes ?_) | (guard_target =~ XGs _ _ _ _ _ _; first | refine XGs.cons ?_ | refine XGs.nil ?_) | (guard_target =~ XG _ _ _ _ _ _; first | refine XG.name rfl ?_ | refine XG.tupG rfl ?_ | refine XG.unlG rfl ?_) | refine go_len1 rfl ?_ | refine go_fld rfl ?_ | refine go_ins rfl rfl ?_ | refine go_kc rfl rfl ?_ | refine go_isC ?_ | refine go_isTy rfl (by first | exact kb_int_int | exact kb_int_bool | exact kb_bool_int | exact kb_bool_bool | exact kb_str_str | exact kb_list_list | exact kb_tuple_tuple | exact kb_tuple_list | exact kb_list_tuple | exact kb_NoneType_list | exact kb_NoneType_int | exact kb_str_int | exact kb_int_list | exact kb_int_tuple | exact kb_NoneType_tuple | exact kb_list_int | exact kb_tuple_int | exact kb_str_bool) ?_ | refine go_non ?_ | refine go_I0 ?_ | refine go_I ?_ ?_ | refine go_ix rfl ?_ | refine go_ixT rfl ?_ | refine go_eq rfl rfl rfl ?_ | refine go_ne rfl rfl rfl ?_ | refine go_len rfl ?_ | refine go_cat ?_ ?_ | refine go_rep ?_ ?_ ?_ ?_ | refine go_un ?_ | refine go_int ?_ | refine go_lst ?_ | refine go_tup ?_ | refine go_str ?_ | refine go_bl ?_ | refine go_ixO rfl ?_ | refine go_put rfl ?_ | refine go_ext ?_ ?_ | refine go_app ?_ ?_ | refine go_rg1 ?_ ?_ | refine go_rg2 ?_ ?_ | refine go_rg3 ?_ ?_ | refine go_enum ?_ | refine go_zipS ?_ ?_ | refine go_zip ?_))
      refine XE.newP ?_
      (repeat' (first | (guard_target =~ XS _ _ _ _ _; first | exact XS.next | refine XS.next ?_ | refine XS.seq ?_ | refine XS.set ?_ | refine XS.ret ?_ | refine XS.ite ?_ | refine XS.drop ?_ | refine XS.asg ?_ | refine XS.par3 ?_ | refine XS.par ?_ | refine XS.retN ?_ | refine XS.next ?_) | (guard_target =~ XE _ _ _ _ _; first | refine XE.var rfl ?_ | refine XE.int ?_ | refine XE.bl ?_ | refine XE.str ?_ | refine XE.non ?_ | refine XE.ixO rfl ?_ | refine XE.lenO rfl ?_ | refine XE.op dr_I0 ?_ | refine XE.op dr_I ?_ | refine XE.op dr_ixL ?_ | refine XE.op dr_ixT ?_ | refine XE.op dr_eq ?_ | refine XE.op dr_ne ?_ | refine XE.op dr_eqD ?_ | refine XE.op dr_neD ?_ | refine XE.op dr_isN ?_ | refine XE.op dr_notN ?_ | refine XE.op dr_eqO ?_ | refine XE.op dr_neO ?_ | refine XE.unI ?_ | refine XE.tup ?_ | refine XE.ofN (XN.lst ?_) | refine XE.ofN (XN.op dn_cat ?_) | refine XE.ofN (XN.op dn_rep ?_) | refine XE.ofN (XN.sl ?_) | refine XE.ofN (XN.cb dn_listOf ?_) | refine XE.cb db_abs ?_ | refine XE.cb db_max2 ?_ | refine XE.len1 ?_ | refine XE.cb db_lenO ?_ | refine XE.cb db_int1 ?_ | refine XE.call ?_ | refine XE.callX0 ?_ | refine XE.callP rfl ?_ | refine XE.andV ?_ | refine XE.orV ?_ | refine XE.notV ?_ | refine XE.ifE ?_ | refine XE.make ?_ | refine XE.isC ?_ | refine XE.isTy ?_ | refine XE.fld hH.cls hH.poly ?_ | refine XE.fld hH.cls hH.rows ?_ | refine XE.fld hH.cls hH.ways ?_ | refine XE.fld hN.cls hN.home ?_ | refine XE.fld hN.cls hN.parts ?_ | refine XE.km rfl ?_ | refine XE.kmX0 rfl ?_ | refine XE.kc rfl ?_ | refine XE.kcX0 rfl ?_) | (guard_target =~ XN _ _ _ _ _; first | refine XN.lst ?_ | refine XN.op dn_cat ?_ | refine XN.op dn_rep ?_ | refine XN.sl ?_ | refine XN.cb dn_listOf ?_) | (guard_target =~ XA _ _ _ _ _; first | refine XA.nil ?_ | refine XA.cons ?_) | (guard_target =~ XT _ _ _ _ _; first | refine XT.test ?_ | refine XT.b ?_ | refine XT.not ?_ | refine XT.and ?_ | refine XT.or ?_ | refine XT.yes ?_) | (guard_target =~ XO _ _ _ _ _; first | refine XO.no ?_ | refine XO.yes ?_) | (guard_target =~ XGs _ _ _ _ _ _; first | refine XGs.cons ?_ | refine XGs.nil ?_) | (guard_target =~ XG _ _ _ _ _ _; first | refine XG.name rfl ?_ | refine XG.tupG rfl ?_ | refine XG.unlG rfl ?_) | refine go_len1 rfl ?_ | refine go_fld rfl ?_ | refine go_ins rfl rfl ?_ | refine go_kc rfl rfl ?_ | refine go_isC ?_ | refine go_isTy rfl (by first | exact kb_int_int | exact kb_int_bool | exact kb_bool_int | exact kb_bool_bool | exact kb_str_str | exact kb_list_list | exact kb_tuple_tuple | exact kb_tuple_list | exact kb_list_tuple | exact kb_NoneType_list | exact kb_NoneType_int | exact kb_str_int | exact kb_int_list | exact kb_int_tuple | exact kb_NoneType_tuple | exact kb_list_int | exact kb_tuple_int | exact kb_str_bool) ?_ | refine go_non ?_ | refine go_I0 ?_ | refine go_I ?_ ?_ | refine go_ix rfl ?_ | refine go_ixT rfl ?_ | refine go_eq rfl rfl rfl ?_ | refine go_ne rfl rfl rfl ?_ | refine go_len rfl ?_ | refine go_cat ?_ ?_ | refine go_rep ?_ ?_ ?_ ?_ | refine go_un ?_ | refine go_int ?_ | refine go_lst ?_ | refine go_tup ?_ | refine go_str ?_ | refine go_bl ?_ | refine go_ixO rfl ?_ | refine go_put rfl ?_ | refine go_ext ?_ ?_ | refine go_app ?_ ?_ | refine go_rg1 ?_ ?_ | refine go_rg2 ?_ ?_ | refine go_rg3 ?_ ?_ | refine go_enum ?_ | refine go_zipS ?_ ?_ | refine go_zip ?_))
      refine ⟨14, [], rfl, by decide, ?_⟩
      (repeat' (first | (guard_target =~ XS _ _ _ _ _; first | exact XS.next | refine XS.next ?_ | refine XS.seq ?_ | refine XS.set ?_ | refine XS.ret ?_ | refine XS.ite ?_ | refine XS.drop ?_ | refine XS.asg ?_ | refine XS.par3 ?_ | refine XS.par ?_ | refine XS.retN ?_ | refine XS.next ?_) | (guard_target =~ XE _ _ _ _ _; first | refine XE.var rfl ?_ | refine XE.int ?_ | refine XE.bl ?_ | refine XE.str ?_ | refine XE.non ?_ | refine XE.ixO rfl ?_ | refine XE.lenO rfl ?_ | refine XE.op dr_I0 ?_ | refine XE.op dr_I ?_ | refine XE.op dr_ixL ?_ | refine XE.op dr_ixT ?_ | refine XE.op dr_eq ?_ | refine XE.op dr_ne ?_ | refine XE.op dr_eqD ?_ | refine XE.op dr_neD ?_ | refine XE.op dr_isN ?_ | refine XE.op dr_notN ?_ | refine XE.op dr_eqO ?_ | refine XE.op dr_neO ?_ | refine XE.unI ?_ | refine XE.tup ?_ | refine XE.ofN (XN.lst ?_) | refine XE.ofN (XN.op dn_cat ?_) | refine XE.ofN (XN.op dn_rep ?_) | refine XE.ofN (XN.sl ?_) | refine XE.ofN (XN.cb dn_listOf ?_) | refine XE.cb db_abs ?_ | refine XE.cb db_max2 ?_ | refine XE.len1 ?_ | refine XE.cb db_lenO ?_ | refine XE.cb db_int1 ?_ | refine XE.call ?_ | refine XE.callX0 ?_ | refine XE.callP rfl ?_ | refine XE.andV ?_ | refine XE.orV ?_ | refine XE.notV ?_ | refine XE.ifE ?_ | refine XE.make ?_ | refine XE.isC ?_ | refine XE.isTy ?_ | refine XE.fld hH.cls hH.poly ?_ | refine XE.fld hH.cls hH.rows ?_ | refine XE.fld hH.cls hH.ways ?_ | refine XE.fld hN.cls hN.home ?_ | refine XE.fld hN.cls hN.parts ?_ | refine XE.km rfl ?_ | refine XE.kmX0 rfl ?_ | refine XE.kc rfl ?_ | refine XE.kcX0 rfl ?_) | (guard_target =~ XN _ _ _ _ _; first | refine XN.lst ?_ | refine XN.op dn_cat ?_ | refine XN.op dn_rep ?_ | refine XN.sl ?_ | refine XN.cb dn_listOf ?_) | (guard_target =~ XA _ _ _ _ _; first | refine XA.nil ?_ | refine XA.cons ?_) | (guard_target =~ XT _ _ _ _ _; first | refine XT.test ?_ | refine XT.b ?_ | refine XT.not ?_ | refine XT.and ?_ | refine XT.or ?_ | refine XT.yes ?_) | (guard_target =~ XO _ _ _ _ _; first | refine XO.no ?_ | refine XO.yes ?_) | (guard_target =~ XGs _ _ _ _ _ _; first | refine XGs.cons ?_ | refine XGs.nil ?_) | (guard_target =~ XG _ _ _ _ _ _; first | refine XG.name rfl ?_ | refine XG.tupG rfl ?_ | refine XG.unlG rfl ?_) | refine go_len1 rfl ?_ | refine go_fld rfl ?_ | refine go_ins rfl rfl ?_ | refine go_kc rfl rfl ?_ | refine go_isC ?_ | refine go_isTy rfl (by first | exact kb_int_int | exact kb_int_bool | exact kb_bool_int | exact kb_bool_bool | exact kb_str_str | exact kb_list_list | exact kb_tuple_tuple | exact kb_tuple_list | exact kb_list_tuple | exact kb_NoneType_list | exact kb_NoneType_int | exact kb_str_int | exact kb_int_list | exact kb_int_tuple | exact kb_NoneType_tuple | exact kb_list_int | exact kb_tuple_int | exact kb_str_bool) ?_ | refine go_non ?_ | refine go_I0 ?_ | refine go_I ?_ ?_ | refine go_ix rfl ?_ | refine go_ixT rfl ?_ | refine go_eq rfl rfl rfl ?_ | refine go_ne rfl rfl rfl ?_ | refine go_len rfl ?_ | refine go_cat ?_ ?_ | refine go_rep ?_ ?_ ?_ ?_ | refine go_un ?_ | refine go_int ?_ | refine go_lst ?_ | refine go_tup ?_ | refine go_str ?_ | refine go_bl ?_ | refine go_ixO rfl ?_ | refine go_put rfl ?_ | refine go_ext ?_ ?_ | refine go_app ?_ ?_ | refine go_rg1 ?_ ?_ | refine go_rg2 ?_ ?_ | refine go_rg3 ?_ ?_ | refine go_enum ?_ | refine go_zipS ?_ ?_ | refine go_zip ?_))
      refine eqD_self (by decide +kernel) rfl ?_
      exact rfl
end
end My

namespace My
open PySem PySem.Spec PyProof.Rows L2
open C8 (Cal pe_c pe_gc)
theorem all_mk {l : PySem.W.OpenLaw} {w : World} {K : PySem.W.Frag} {h : Heap} {mg : Str → Option Value} {fa : Addr} (X : K.In h) (G : h.Ns mainGlobals mg) (hfa : mg "law" = some (.ref fa))
    {C_RootError C_NoPoly C_NoHouse C_NoLetter C_NoCount C_NoMove C_NoWord C_Full C_NoDeed C_NoText C_NoLine C_NoOver C_NoName C_Twice C_NoNumber : Addr}
    {f0 : Addr} {od0 an0 : Option Addr} {sl0 : Array (Option Value)} {oc0 kV0 dc0 pm0 cd0 ct0 : Value}
    (a0 : PySem.W.findIn K (.ref C_NoPoly) "__init__" = some (some (.ref f0))) (i0 : PySem.W.isFn K (.ref f0) = true) (y0 : PySem.W.typeIn K (.ref f0) = some (.type "function"))
    {dV0 : Value} {dT0 : Addr} {dn0 : Nat} {do0 : Obj}
    (l0 : K.lookup f0 = some ⟨oc0, od0, .func (PySem.W.fnOf "__init__" "NoPoly.__init__" (defArgs s_NoPoly_init) (defBody s_NoPoly_init) (defScope s_NoPoly_init) dV0 kV0 dc0 pm0 an0 cd0 ct0), sl0⟩) (c0 : PySem.W.codeIn K cd0 "NoPoly.__init__" = true) (k0 : PySem.W.keepIn K (.ref f0) = true)
    (e0 : dV0 = .ref dT0) (t0 : K.lookup dT0 = some do0) (u0 : do0.data = .seq #[.none] dn0)
    {f1 : Addr} {od1 an1 : Option Addr} {sl1 : Array (Option Value)} {oc1 kV1 dc1 pm1 cd1 ct1 : Value}
    (a1 : PySem.W.findIn K (.ref C_NoMove) "__init__" = some (some (.ref f1))) (i1 : PySem.W.isFn K (.ref f1) = true) (y1 : PySem.W.typeIn K (.ref f1) = some (.type "function"))
    {dV1 : Value} {dT1 : Addr} {dn1 : Nat} {do1 : Obj}
    (l1 : K.lookup f1 = some ⟨oc1, od1, .func (PySem.W.fnOf "__init__" "NoMove.__init__" (defArgs s_NoMove_init) (defBody s_NoMove_init) (defScope s_NoMove_init) dV1 kV1 dc1 pm1 an1 cd1 ct1), sl1⟩) (c1 : PySem.W.codeIn K cd1 "NoMove.__init__" = true) (k1 : PySem.W.keepIn K (.ref f1) = true)
    (e1 : dV1 = .ref dT1) (t1 : K.lookup dT1 = some do1) (u1 : do1.data = .seq #[.none] dn1)
    {f2 : Addr} {od2 an2 : Option Addr} {sl2 : Array (Option Value)} {oc2 kV2 dc2 pm2 cd2 ct2 : Value}
    (a2 : PySem.W.findIn K (.ref C_NoName) "__init__" = some (some (.ref f2))) (i2 : PySem.W.isFn K (.ref f2) = true) (y2 : PySem.W.typeIn K (.ref f2) = some (.type "function"))
    {dV2 : Value} {dT2 : Addr} {dn2 : Nat} {do2 : Obj}
    {tk2 : Tok}
    (l2 : K.lookup f2 = some ⟨oc2, od2, .func (PySem.W.fnOf "__init__" "NoName.__init__" (defArgs s_NoName_init) (defBody s_NoName_init) (defScope s_NoName_init) dV2 kV2 dc2 pm2 an2 cd2 ct2), sl2⟩) (c2 : PySem.W.codeIn K cd2 "NoName.__init__" = true) (k2 : PySem.W.keepIn K (.ref f2) = true)
    (e2 : dV2 = .ref dT2) (t2 : K.lookup dT2 = some do2) (u2 : do2.data = .seq #[(.str "" tk2)] dn2)
    {f3 : Addr} {od3 an3 : Option Addr} {sl3 : Array (Option Value)} {oc3 kV3 dc3 pm3 cd3 ct3 : Value}
    (a3 : PySem.W.findIn K (.ref C_Twice) "__init__" = some (some (.ref f3))) (i3 : PySem.W.isFn K (.ref f3) = true) (y3 : PySem.W.typeIn K (.ref f3) = some (.type "function"))
    {dV3 : Value} {dT3 : Addr} {dn3 : Nat} {do3 : Obj}
    {tk3 : Tok}
    (l3 : K.lookup f3 = some ⟨oc3, od3, .func (PySem.W.fnOf "__init__" "Twice.__init__" (defArgs s_Twice_init) (defBody s_Twice_init) (defScope s_Twice_init) dV3 kV3 dc3 pm3 an3 cd3 ct3), sl3⟩) (c3 : PySem.W.codeIn K cd3 "Twice.__init__" = true) (k3 : PySem.W.keepIn K (.ref f3) = true)
    (e3 : dV3 = .ref dT3) (t3 : K.lookup dT3 = some do3) (u3 : do3.data = .seq #[(.str "" tk3)] dn3)
    {f4 : Addr} {od4 an4 : Option Addr} {sl4 : Array (Option Value)} {oc4 kV4 dc4 pm4 cd4 ct4 : Value}
    (a4 : PySem.W.nsIn K mainGlobals "_law_cell" = some (some (.ref f4))) (l4 : K.lookup f4 = some ⟨oc4, od4, .func (PySem.W.fnOf "_law_cell" "_law_cell" (defArgs s_Lcell) (defBody s_Lcell) (defScope s_Lcell) .none kV4 dc4 pm4 an4 cd4 ct4), sl4⟩) (c4 : PySem.W.codeIn K cd4 "_law_cell" = true) (k4 : PySem.W.keepIn K (.ref f4) = true)
    {f5 : Addr} {od5 an5 : Option Addr} {sl5 : Array (Option Value)} {oc5 kV5 dc5 pm5 cd5 ct5 : Value}
    (a5 : PySem.W.nsIn K mainGlobals "_law_mixed" = some (some (.ref f5))) (l5 : K.lookup f5 = some ⟨oc5, od5, .func (PySem.W.fnOf "_law_mixed" "_law_mixed" (defArgs s_Lmixed) (defBody s_Lmixed) (defScope s_Lmixed) .none kV5 dc5 pm5 an5 cd5 ct5), sl5⟩) (c5 : PySem.W.codeIn K cd5 "_law_mixed" = true) (k5 : PySem.W.keepIn K (.ref f5) = true)
    {f6 : Addr} {od6 an6 : Option Addr} {sl6 : Array (Option Value)} {oc6 kV6 dc6 pm6 cd6 ct6 : Value}
    (a6 : PySem.W.nsIn K mainGlobals "_law_purse" = some (some (.ref f6))) (l6 : K.lookup f6 = some ⟨oc6, od6, .func (PySem.W.fnOf "_law_purse" "_law_purse" (defArgs s_Lpurse) (defBody s_Lpurse) (defScope s_Lpurse) .none kV6 dc6 pm6 an6 cd6 ct6), sl6⟩) (c6 : PySem.W.codeIn K cd6 "_law_purse" = true) (k6 : PySem.W.keepIn K (.ref f6) = true)
    {f7 : Addr} {od7 an7 : Option Addr} {sl7 : Array (Option Value)} {oc7 kV7 dc7 pm7 cd7 ct7 : Value}
    (a7 : PySem.W.nsIn K mainGlobals "_law_draw" = some (some (.ref f7))) (l7 : K.lookup f7 = some ⟨oc7, od7, .func (PySem.W.fnOf "_law_draw" "_law_draw" (defArgs s_Ldraw) (defBody s_Ldraw) (defScope s_Ldraw) .none kV7 dc7 pm7 an7 cd7 ct7), sl7⟩) (c7 : PySem.W.codeIn K cd7 "_law_draw" = true) (k7 : PySem.W.keepIn K (.ref f7) = true)
    {f8 : Addr} {od8 an8 : Option Addr} {sl8 : Array (Option Value)} {oc8 kV8 dc8 pm8 cd8 ct8 : Value}
    (a8 : PySem.W.nsIn K mainGlobals "_law_sorts" = some (some (.ref f8))) (l8 : K.lookup f8 = some ⟨oc8, od8, .func (PySem.W.fnOf "_law_sorts" "_law_sorts" (defArgs s_Lsorts) (defBody s_Lsorts) (defScope s_Lsorts) .none kV8 dc8 pm8 an8 cd8 ct8), sl8⟩) (c8 : PySem.W.codeIn K cd8 "_law_sorts" = true) (k8 : PySem.W.keepIn K (.ref f8) = true)
    {f9 : Addr} {od9 an9 : Option Addr} {sl9 : Array (Option Value)} {oc9 kV9 dc9 pm9 cd9 ct9 : Value}
    (a9 : PySem.W.nsIn K mainGlobals "_law_kinds" = some (some (.ref f9))) (l9 : K.lookup f9 = some ⟨oc9, od9, .func (PySem.W.fnOf "_law_kinds" "_law_kinds" (defArgs s_Lkinds) (defBody s_Lkinds) (defScope s_Lkinds) .none kV9 dc9 pm9 an9 cd9 ct9), sl9⟩) (c9 : PySem.W.codeIn K cd9 "_law_kinds" = true) (k9 : PySem.W.keepIn K (.ref f9) = true)
    {f10 : Addr} {od10 an10 : Option Addr} {sl10 : Array (Option Value)} {oc10 kV10 dc10 pm10 cd10 ct10 : Value}
    (a10 : PySem.W.nsIn K mainGlobals "_law_row_right" = some (some (.ref f10))) (l10 : K.lookup f10 = some ⟨oc10, od10, .func (PySem.W.fnOf "_law_row_right" "_law_row_right" (defArgs s_Lrow_right) (defBody s_Lrow_right) (defScope s_Lrow_right) .none kV10 dc10 pm10 an10 cd10 ct10), sl10⟩) (c10 : PySem.W.codeIn K cd10 "_law_row_right" = true) (k10 : PySem.W.keepIn K (.ref f10) = true)
    {f11 : Addr} {od11 an11 : Option Addr} {sl11 : Array (Option Value)} {oc11 kV11 dc11 pm11 cd11 ct11 : Value}
    (a11 : PySem.W.nsIn K mainGlobals "law" = some (some (.ref f11))) (l11 : K.lookup f11 = some ⟨oc11, od11, .func (PySem.W.fnOf "law" "law" (defArgs s_law) (defBody s_law) (defScope s_law) .none kV11 dc11 pm11 an11 cd11 ct11), sl11⟩) (c11 : PySem.W.codeIn K cd11 "law" = true) (k11 : PySem.W.keepIn K (.ref f11) = true)
    (z_set : PySem.W.nsIn K mainGlobals "set" = some none)
    (z_abs : PySem.W.nsIn K mainGlobals "abs" = some none)
    (z_len : PySem.W.nsIn K mainGlobals "len" = some none)
    (z_range : PySem.W.nsIn K mainGlobals "range" = some none)
    (z_max : PySem.W.nsIn K mainGlobals "max" = some none)
    (z_enumerate : PySem.W.nsIn K mainGlobals "enumerate" = some none)
    (z_isinstance : PySem.W.nsIn K mainGlobals "isinstance" = some none)
    (z_int : PySem.W.nsIn K mainGlobals "int" = some none)
    (z_bool : PySem.W.nsIn K mainGlobals "bool" = some none)
    (z_tuple : PySem.W.nsIn K mainGlobals "tuple" = some none)
    (z_list : PySem.W.nsIn K mainGlobals "list" = some none)
    (z_ValueError : PySem.W.nsIn K mainGlobals "ValueError" = some none)
    (z_ZeroDivisionError : PySem.W.nsIn K mainGlobals "ZeroDivisionError" = some none)
    (z_KeyError : PySem.W.nsIn K mainGlobals "KeyError" = some none)
    (x_kit : ∀ p ∈ ([(C_NoPoly, 0), (C_NoMove, 1), (C_NoHouse, 2), (C_NoLetter, 3), (C_NoCount, 4), (C_NoWord, 5), (C_Full, 6), (C_NoDeed, 7), (C_NoText, 8), (C_NoLine, 9), (C_NoOver, 10), (C_NoName, 11), (C_Twice, 12), (C_NoNumber, 13), (C_RootError, 14)] : List (Addr × Nat)), ∀ q ∈ ([(C_NoPoly, 0), (C_NoMove, 1), (C_NoHouse, 2), (C_NoLetter, 3), (C_NoCount, 4), (C_NoWord, 5), (C_Full, 6), (C_NoDeed, 7), (C_NoText, 8), (C_NoLine, 9), (C_NoOver, 10), (C_NoName, 11), (C_Twice, 12), (C_NoNumber, 13), (C_RootError, 14)] : List (Addr × Nat)), PySem.W.kitOne K (.ref p.1) (.ref q.1) = some (p.2 == q.2 || (q.2 == 14 && decide (p.2 < 10))))
    (x_ve : ∀ p ∈ ([(C_NoPoly, 0), (C_NoMove, 1), (C_NoHouse, 2), (C_NoLetter, 3), (C_NoCount, 4), (C_NoWord, 5), (C_Full, 6), (C_NoDeed, 7), (C_NoText, 8), (C_NoLine, 9), (C_NoOver, 10), (C_NoName, 11), (C_Twice, 12), (C_NoNumber, 13), (C_RootError, 14)] : List (Addr × Nat)), PySem.W.kitOne K (.ref p.1) (.type "ValueError") = some (decide (p.2 < 10) || decide (11 < p.2)))
    (x_ze : ∀ p ∈ ([(C_NoPoly, 0), (C_NoMove, 1), (C_NoHouse, 2), (C_NoLetter, 3), (C_NoCount, 4), (C_NoWord, 5), (C_Full, 6), (C_NoDeed, 7), (C_NoText, 8), (C_NoLine, 9), (C_NoOver, 10), (C_NoName, 11), (C_Twice, 12), (C_NoNumber, 13), (C_RootError, 14)] : List (Addr × Nat)), PySem.W.kitOne K (.ref p.1) (.type "ZeroDivisionError") = some (p.2 == 10))
    (x_ke : ∀ p ∈ ([(C_NoPoly, 0), (C_NoMove, 1), (C_NoHouse, 2), (C_NoLetter, 3), (C_NoCount, 4), (C_NoWord, 5), (C_Full, 6), (C_NoDeed, 7), (C_NoText, 8), (C_NoLine, 9), (C_NoOver, 10), (C_NoName, 11), (C_Twice, 12), (C_NoNumber, 13), (C_RootError, 14)] : List (Addr × Nat)), PySem.W.kitOne K (.ref p.1) (.type "KeyError") = some (p.2 == 11))
    (x_hg : ∀ p ∈ ([C_NoPoly, C_NoMove, C_NoHouse, C_NoLetter, C_NoCount, C_NoWord, C_Full, C_NoDeed, C_NoText, C_NoLine, C_NoOver, C_NoName, C_Twice, C_NoNumber, C_RootError] : List Addr), PySem.W.findIn K (.ref p) "__getattribute__" = some (some (.builtin "BaseException.__getattribute__")))
    (x_hk : ∀ p ∈ ([C_NoPoly, C_NoMove, C_NoHouse, C_NoLetter, C_NoCount, C_NoWord, C_Full, C_NoDeed, C_NoText, C_NoLine, C_NoOver, C_NoName, C_Twice, C_NoNumber, C_RootError] : List Addr), PySem.W.findIn K (.ref p) "__getattr__" = some none)
    (x_hs : ∀ p ∈ ([C_NoPoly, C_NoMove, C_NoHouse, C_NoLetter, C_NoCount, C_NoWord, C_Full, C_NoDeed, C_NoText, C_NoLine, C_NoOver, C_NoName, C_Twice, C_NoNumber, C_RootError] : List Addr), PySem.W.subIn K (.ref p) (.type "BaseException") = some true)
    (x_hd : ∀ p ∈ ([C_NoPoly, C_NoMove, C_NoHouse, C_NoLetter, C_NoCount, C_NoWord, C_Full, C_NoDeed, C_NoText, C_NoLine, C_NoOver, C_NoName, C_Twice, C_NoNumber, C_RootError] : List Addr), PySem.W.hasDictIn K p = true)
    (x_ha : ∀ p ∈ ([C_NoPoly, C_NoMove, C_NoHouse, C_NoLetter, C_NoCount, C_NoWord, C_Full, C_NoDeed, C_NoText, C_NoLine, C_NoOver, C_NoName, C_Twice, C_NoNumber, C_RootError] : List Addr), PySem.W.findIn K (.ref p) "__class__" = some (some (.builtin "object.__class__")))
    (x_hm : ∀ p ∈ ([C_NoPoly, C_NoMove, C_NoHouse, C_NoLetter, C_NoCount, C_NoWord, C_Full, C_NoDeed, C_NoText, C_NoLine, C_NoOver, C_NoName, C_Twice, C_NoNumber, C_RootError] : List Addr), PySem.W.mroIn K p (.type "object") = some true)
    (x_hn : PySem.W.specialIn K (.builtin "object.__class__") "__get__" = some (some (.builtin "getset_descriptor.__get__")))
    (x_ht : PySem.W.takesIn K (.builtin "object.__class__") = some true)
    (x_vV : fcT K "ValueError" "__init__" "ValueError.__init__" = true)
    (x_vK : fcT K "KeyError" "__init__" "KeyError.__init__" = true)
    (x_ir : PySem.W.readsIn (mc := .type "type") K C_RootError = true)
    (x_if : fcB K C_RootError "__init__" "ValueError.__init__" = true)
    (x_ig : PySem.W.specialIn K (.ref C_RootError) "__getattribute__" = some (some (.builtin "type.__getattribute__")))
    (x_NoHouse : PySem.W.excIn K C_NoHouse [.type "ValueError", .type "Exception", .type "BaseException", .type "object"] "ValueError.__new__" = true)
    (x_NoLetter : PySem.W.excIn K C_NoLetter [.type "ValueError", .type "Exception", .type "BaseException", .type "object"] "ValueError.__new__" = true)
    (x_NoCount : PySem.W.excIn K C_NoCount [.type "ValueError", .type "Exception", .type "BaseException", .type "object"] "ValueError.__new__" = true)
    (x_NoWord : PySem.W.excIn K C_NoWord [.type "ValueError", .type "Exception", .type "BaseException", .type "object"] "ValueError.__new__" = true)
    (x_Full : PySem.W.excIn K C_Full [.type "ValueError", .type "Exception", .type "BaseException", .type "object"] "ValueError.__new__" = true)
    (x_NoDeed : PySem.W.excIn K C_NoDeed [.type "ValueError", .type "Exception", .type "BaseException", .type "object"] "ValueError.__new__" = true)
    (x_NoText : PySem.W.excIn K C_NoText [.type "ValueError", .type "Exception", .type "BaseException", .type "object"] "ValueError.__new__" = true)
    (x_NoLine : PySem.W.excIn K C_NoLine [.type "ValueError", .type "Exception", .type "BaseException", .type "object"] "ValueError.__new__" = true)
    (x_NoNumber : PySem.W.excIn K C_NoNumber [.type "ValueError", .type "Exception", .type "BaseException", .type "object"] "ValueError.__new__" = true)
    (x_RootError : PySem.W.excIn K C_RootError [.type "ValueError", .type "Exception", .type "BaseException", .type "object"] "ValueError.__new__" = true)
    (x_NoOver : PySem.W.excIn K C_NoOver [.type "ZeroDivisionError", .type "ArithmeticError", .type "Exception", .type "BaseException", .type "object"] "ZeroDivisionError.__new__" = true)
    (xk_NoPoly : PySem.W.keepIn K (.ref C_NoPoly) = true)
    (xk_NoMove : PySem.W.keepIn K (.ref C_NoMove) = true)
    (xk_NoHouse : PySem.W.keepIn K (.ref C_NoHouse) = true)
    (xk_NoLetter : PySem.W.keepIn K (.ref C_NoLetter) = true)
    (xk_NoCount : PySem.W.keepIn K (.ref C_NoCount) = true)
    (xk_NoWord : PySem.W.keepIn K (.ref C_NoWord) = true)
    (xk_Full : PySem.W.keepIn K (.ref C_Full) = true)
    (xk_NoDeed : PySem.W.keepIn K (.ref C_NoDeed) = true)
    (xk_NoText : PySem.W.keepIn K (.ref C_NoText) = true)
    (xk_NoLine : PySem.W.keepIn K (.ref C_NoLine) = true)
    (xk_NoOver : PySem.W.keepIn K (.ref C_NoOver) = true)
    (xk_NoName : PySem.W.keepIn K (.ref C_NoName) = true)
    (xk_Twice : PySem.W.keepIn K (.ref C_Twice) = true)
    (xk_NoNumber : PySem.W.keepIn K (.ref C_NoNumber) = true)
    (xk_RootError : PySem.W.keepIn K (.ref C_RootError) = true)
    (xf_NoPoly : PySem.W.findIn K (.ref C_NoPoly) "at" = some none)
    (xs_NoPoly : PySem.W.findIn K (.ref C_NoPoly) "__setattr__" = some (some (.builtin "object.__setattr__")))
    (xe_NoPoly : PySem.W.subIn K (.ref C_NoPoly) (.type "BaseException") = some true)
    (xb_NoPoly : clsB K C_NoPoly PySem.HandSPX.refsVE "ValueError.__new__" = true)
    (xf_NoMove : PySem.W.findIn K (.ref C_NoMove) "move" = some none)
    (xs_NoMove : PySem.W.findIn K (.ref C_NoMove) "__setattr__" = some (some (.builtin "object.__setattr__")))
    (xe_NoMove : PySem.W.subIn K (.ref C_NoMove) (.type "BaseException") = some true)
    (xb_NoMove : clsB K C_NoMove PySem.HandSPX.refsVE "ValueError.__new__" = true)
    (xf_NoName : PySem.W.findIn K (.ref C_NoName) "name" = some none)
    (xs_NoName : PySem.W.findIn K (.ref C_NoName) "__setattr__" = some (some (.builtin "object.__setattr__")))
    (xe_NoName : PySem.W.subIn K (.ref C_NoName) (.type "BaseException") = some true)
    (xb_NoName : clsB K C_NoName (fun b => decide (b = [.type "KeyError", .type "LookupError", .type "Exception", .type "BaseException", .type "object"])) "LookupError.__new__" = true)
    (xf_Twice : PySem.W.findIn K (.ref C_Twice) "name" = some none)
    (xs_Twice : PySem.W.findIn K (.ref C_Twice) "__setattr__" = some (some (.builtin "object.__setattr__")))
    (xe_Twice : PySem.W.subIn K (.ref C_Twice) (.type "BaseException") = some true)
    (xb_Twice : clsB K C_Twice PySem.HandSPX.refsVE "ValueError.__new__" = true)
    (a_RootError : PySem.W.nsIn K mainGlobals "RootError" = some (some (.ref C_RootError)))
    (i_RootError : PySem.W.isClsIn K C_RootError = true)
    (y_RootError : PySem.W.typeIn K (.ref C_RootError) = some (.type "type"))
    (n_RootError : PySem.W.subIn K (.type "NoneType") (.ref C_RootError) = some false)
    (a_NoPoly : PySem.W.nsIn K mainGlobals "NoPoly" = some (some (.ref C_NoPoly)))
    (i_NoPoly : PySem.W.isClsIn K C_NoPoly = true)
    (y_NoPoly : PySem.W.typeIn K (.ref C_NoPoly) = some (.type "type"))
    (n_NoPoly : PySem.W.subIn K (.type "NoneType") (.ref C_NoPoly) = some false)
    (a_NoHouse : PySem.W.nsIn K mainGlobals "NoHouse" = some (some (.ref C_NoHouse)))
    (i_NoHouse : PySem.W.isClsIn K C_NoHouse = true)
    (y_NoHouse : PySem.W.typeIn K (.ref C_NoHouse) = some (.type "type"))
    (n_NoHouse : PySem.W.subIn K (.type "NoneType") (.ref C_NoHouse) = some false)
    (a_NoLetter : PySem.W.nsIn K mainGlobals "NoLetter" = some (some (.ref C_NoLetter)))
    (i_NoLetter : PySem.W.isClsIn K C_NoLetter = true)
    (y_NoLetter : PySem.W.typeIn K (.ref C_NoLetter) = some (.type "type"))
    (n_NoLetter : PySem.W.subIn K (.type "NoneType") (.ref C_NoLetter) = some false)
    (a_NoCount : PySem.W.nsIn K mainGlobals "NoCount" = some (some (.ref C_NoCount)))
    (i_NoCount : PySem.W.isClsIn K C_NoCount = true)
    (y_NoCount : PySem.W.typeIn K (.ref C_NoCount) = some (.type "type"))
    (n_NoCount : PySem.W.subIn K (.type "NoneType") (.ref C_NoCount) = some false)
    (a_NoMove : PySem.W.nsIn K mainGlobals "NoMove" = some (some (.ref C_NoMove)))
    (i_NoMove : PySem.W.isClsIn K C_NoMove = true)
    (y_NoMove : PySem.W.typeIn K (.ref C_NoMove) = some (.type "type"))
    (n_NoMove : PySem.W.subIn K (.type "NoneType") (.ref C_NoMove) = some false)
    (a_NoWord : PySem.W.nsIn K mainGlobals "NoWord" = some (some (.ref C_NoWord)))
    (i_NoWord : PySem.W.isClsIn K C_NoWord = true)
    (y_NoWord : PySem.W.typeIn K (.ref C_NoWord) = some (.type "type"))
    (n_NoWord : PySem.W.subIn K (.type "NoneType") (.ref C_NoWord) = some false)
    (a_Full : PySem.W.nsIn K mainGlobals "Full" = some (some (.ref C_Full)))
    (i_Full : PySem.W.isClsIn K C_Full = true)
    (y_Full : PySem.W.typeIn K (.ref C_Full) = some (.type "type"))
    (n_Full : PySem.W.subIn K (.type "NoneType") (.ref C_Full) = some false)
    (a_NoDeed : PySem.W.nsIn K mainGlobals "NoDeed" = some (some (.ref C_NoDeed)))
    (i_NoDeed : PySem.W.isClsIn K C_NoDeed = true)
    (y_NoDeed : PySem.W.typeIn K (.ref C_NoDeed) = some (.type "type"))
    (n_NoDeed : PySem.W.subIn K (.type "NoneType") (.ref C_NoDeed) = some false)
    (a_NoText : PySem.W.nsIn K mainGlobals "NoText" = some (some (.ref C_NoText)))
    (i_NoText : PySem.W.isClsIn K C_NoText = true)
    (y_NoText : PySem.W.typeIn K (.ref C_NoText) = some (.type "type"))
    (n_NoText : PySem.W.subIn K (.type "NoneType") (.ref C_NoText) = some false)
    (a_NoLine : PySem.W.nsIn K mainGlobals "NoLine" = some (some (.ref C_NoLine)))
    (i_NoLine : PySem.W.isClsIn K C_NoLine = true)
    (y_NoLine : PySem.W.typeIn K (.ref C_NoLine) = some (.type "type"))
    (n_NoLine : PySem.W.subIn K (.type "NoneType") (.ref C_NoLine) = some false)
    (a_NoOver : PySem.W.nsIn K mainGlobals "NoOver" = some (some (.ref C_NoOver)))
    (i_NoOver : PySem.W.isClsIn K C_NoOver = true)
    (y_NoOver : PySem.W.typeIn K (.ref C_NoOver) = some (.type "type"))
    (n_NoOver : PySem.W.subIn K (.type "NoneType") (.ref C_NoOver) = some false)
    (a_NoName : PySem.W.nsIn K mainGlobals "NoName" = some (some (.ref C_NoName)))
    (i_NoName : PySem.W.isClsIn K C_NoName = true)
    (y_NoName : PySem.W.typeIn K (.ref C_NoName) = some (.type "type"))
    (n_NoName : PySem.W.subIn K (.type "NoneType") (.ref C_NoName) = some false)
    (a_Twice : PySem.W.nsIn K mainGlobals "Twice" = some (some (.ref C_Twice)))
    (i_Twice : PySem.W.isClsIn K C_Twice = true)
    (y_Twice : PySem.W.typeIn K (.ref C_Twice) = some (.type "type"))
    (n_Twice : PySem.W.subIn K (.type "NoneType") (.ref C_Twice) = some false)
    (a_NoNumber : PySem.W.nsIn K mainGlobals "NoNumber" = some (some (.ref C_NoNumber)))
    (i_NoNumber : PySem.W.isClsIn K C_NoNumber = true)
    (y_NoNumber : PySem.W.typeIn K (.ref C_NoNumber) = some (.type "type"))
    (n_NoNumber : PySem.W.subIn K (.type "NoneType") (.ref C_NoNumber) = some false) :
    ∃ fd : FuncData, (∀ (s : Shared) (v : Value), BindsTo s fd ⟨[v], []⟩ [("_law_script", v)]) ∧ ∀ base : Heap, K.In base → base.Ns mainGlobals mg → FnOk l.prog w K mg base CX0 3 fa fd ["_law_script"] (spLaw K) := by
  have T : Txt K mg ⟨C_RootError, C_NoPoly, C_NoHouse, C_NoLetter, C_NoCount, C_NoMove, C_NoWord, C_Full, C_NoDeed, C_NoText, C_NoLine, C_NoOver, C_NoName, C_Twice, C_NoNumber⟩ := { g_RootError := PySem.W.mg_of X G a_RootError, g_NoPoly := PySem.W.mg_of X G a_NoPoly, g_NoHouse := PySem.W.mg_of X G a_NoHouse, g_NoLetter := PySem.W.mg_of X G a_NoLetter, g_NoCount := PySem.W.mg_of X G a_NoCount, g_NoMove := PySem.W.mg_of X G a_NoMove, g_NoWord := PySem.W.mg_of X G a_NoWord, g_Full := PySem.W.mg_of X G a_Full, g_NoDeed := PySem.W.mg_of X G a_NoDeed, g_NoText := PySem.W.mg_of X G a_NoText, g_NoLine := PySem.W.mg_of X G a_NoLine, g_NoOver := PySem.W.mg_of X G a_NoOver, g_NoName := PySem.W.mg_of X G a_NoName, g_Twice := PySem.W.mg_of X G a_Twice, g_NoNumber := PySem.W.mg_of X G a_NoNumber, z_set := PySem.W.mg_none_of X G z_set, z_abs := PySem.W.mg_none_of X G z_abs, z_len := PySem.W.mg_none_of X G z_len, z_range := PySem.W.mg_none_of X G z_range, z_max := PySem.W.mg_none_of X G z_max, z_enumerate := PySem.W.mg_none_of X G z_enumerate, z_isinstance := PySem.W.mg_none_of X G z_isinstance, z_int := PySem.W.mg_none_of X G z_int, z_bool := PySem.W.mg_none_of X G z_bool, z_tuple := PySem.W.mg_none_of X G z_tuple, z_list := PySem.W.mg_none_of X G z_list, z_ValueError := PySem.W.mg_none_of X G z_ValueError, z_ZeroDivisionError := PySem.W.mg_none_of X G z_ZeroDivisionError, z_KeyError := PySem.W.mg_none_of X G z_KeyError }
  have e := hfa.symm.trans (PySem.W.mg_of X G a11)
  cases e
  refine ⟨PySem.W.fnOf "law" "law" (defArgs s_law) (defBody s_law) (defScope s_law) .none kV11 dc11 pm11 an11 cd11 ct11, fun s v => .of_eq rfl, fun base _ _ => ?_⟩
  have ini_RootError : Ini K C_RootError := ⟨x_ir, fcB_ok x_if, x_ig⟩
  have vV := fcT_ok x_vV
  have vK := fcT_ok x_vK
  have oex_NoPoly : OexC K C_NoPoly := by
    obtain ⟨nm, q, bs, bm, sn, sub, ab, col, dd, k0, k1, k2, k3, k5, h1, h2⟩ := clsB_ok xb_NoPoly
    exact ⟨⟨_, _, _, _, _, _, _, _, _, _, _, _, _, _, _, h1, h2⟩, xs_NoPoly, xe_NoPoly, y_NoPoly, xk_NoPoly⟩
  have oex_NoMove : OexC K C_NoMove := by
    obtain ⟨nm, q, bs, bm, sn, sub, ab, col, dd, k0, k1, k2, k3, k5, h1, h2⟩ := clsB_ok xb_NoMove
    exact ⟨⟨_, _, _, _, _, _, _, _, _, _, _, _, _, _, _, h1, h2⟩, xs_NoMove, xe_NoMove, y_NoMove, xk_NoMove⟩
  have oex_Twice : OexC K C_Twice := by
    obtain ⟨nm, q, bs, bm, sn, sub, ab, col, dd, k0, k1, k2, k3, k5, h1, h2⟩ := clsB_ok xb_Twice
    exact ⟨⟨_, _, _, _, _, _, _, _, _, _, _, _, _, _, _, h1, h2⟩, xs_Twice, xe_Twice, y_Twice, xk_Twice⟩
  have oex_NoName : OexK K C_NoName := by
    obtain ⟨nm, q, bs, bm, sn, sub, ab, col, dd, k0, k1, k2, k3, k5, h1, h2⟩ := clsB_ok xb_NoName
    have h2 : bm = keTail := of_decide_eq_true h2
    subst h2
    exact ⟨⟨_, _, _, _, _, _, _, _, _, _, _, _, _, _, h1⟩, xs_NoName⟩
  have m15 : ∀ i, i < 15 → (clsK ⟨C_RootError, C_NoPoly, C_NoHouse, C_NoLetter, C_NoCount, C_NoMove, C_NoWord, C_Full, C_NoDeed, C_NoText, C_NoLine, C_NoOver, C_NoName, C_Twice, C_NoNumber⟩ i, i) ∈ ([(C_NoPoly, 0), (C_NoMove, 1), (C_NoHouse, 2), (C_NoLetter, 3), (C_NoCount, 4), (C_NoWord, 5), (C_Full, 6), (C_NoDeed, 7), (C_NoText, 8), (C_NoLine, 9), (C_NoOver, 10), (C_NoName, 11), (C_Twice, 12), (C_NoNumber, 13), (C_RootError, 14)] : List (Addr × Nat)) := fun i hi => (List.mem_map (f := fun i => (clsK ⟨C_RootError, C_NoPoly, C_NoHouse, C_NoLetter, C_NoCount, C_NoMove, C_NoWord, C_Full, C_NoDeed, C_NoText, C_NoLine, C_NoOver, C_NoName, C_Twice, C_NoNumber⟩ i, i)) (l := List.range 15)).mpr ⟨i, List.mem_range.mpr hi, rfl⟩
  have a15 : ∀ i, i < 15 → clsK ⟨C_RootError, C_NoPoly, C_NoHouse, C_NoLetter, C_NoCount, C_NoMove, C_NoWord, C_Full, C_NoDeed, C_NoText, C_NoLine, C_NoOver, C_NoName, C_Twice, C_NoNumber⟩ i ∈ ([C_NoPoly, C_NoMove, C_NoHouse, C_NoLetter, C_NoCount, C_NoWord, C_Full, C_NoDeed, C_NoText, C_NoLine, C_NoOver, C_NoName, C_Twice, C_NoNumber, C_RootError] : List Addr) := fun i hi => (List.mem_map (f := fun i => clsK ⟨C_RootError, C_NoPoly, C_NoHouse, C_NoLetter, C_NoCount, C_NoMove, C_NoWord, C_Full, C_NoDeed, C_NoText, C_NoLine, C_NoOver, C_NoName, C_Twice, C_NoNumber⟩ i) (l := List.range 15)).mpr ⟨i, List.mem_range.mpr hi, rfl⟩
  have ko : KO K ⟨C_RootError, C_NoPoly, C_NoHouse, C_NoLetter, C_NoCount, C_NoMove, C_NoWord, C_Full, C_NoDeed, C_NoText, C_NoLine, C_NoOver, C_NoName, C_Twice, C_NoNumber⟩ := ⟨fun i hi j hj => x_kit _ (m15 i hi) _ (m15 j hj), fun i hi => x_ve _ (m15 i hi), fun i hi => x_ze _ (m15 i hi), fun i hi => x_ke _ (m15 i hi), fun i hi => ⟨x_hg _ (a15 i hi), x_hk _ (a15 i hi), x_hs _ (a15 i hi), x_hd _ (a15 i hi), x_ha _ (a15 i hi), x_hn, x_ht, x_hm _ (a15 i hi)⟩⟩
  have PK : PlainOk K ⟨C_RootError, C_NoPoly, C_NoHouse, C_NoLetter, C_NoCount, C_NoMove, C_NoWord, C_Full, C_NoDeed, C_NoText, C_NoLine, C_NoOver, C_NoName, C_Twice, C_NoNumber⟩ := { x_NoHouse := x_NoHouse, x_NoLetter := x_NoLetter, x_NoCount := x_NoCount, x_NoWord := x_NoWord, x_Full := x_Full, x_NoDeed := x_NoDeed, x_NoText := x_NoText, x_NoLine := x_NoLine, x_NoNumber := x_NoNumber, x_RootError := x_RootError, x_NoOver := x_NoOver, k_NoHouse := xk_NoHouse, k_NoLetter := xk_NoLetter, k_NoCount := xk_NoCount, k_NoWord := xk_NoWord, k_Full := xk_Full, k_NoDeed := xk_NoDeed, k_NoText := xk_NoText, k_NoLine := xk_NoLine, k_NoNumber := xk_NoNumber, k_RootError := xk_RootError, k_NoOver := xk_NoOver, n_at := xf_NoPoly, n_move := xf_NoMove, n_name := xf_NoName, n_twice := xf_Twice }
  have F0 : FunD K "__init__" "NoPoly.__init__" (defArgs s_NoPoly_init) (defBody s_NoPoly_init) (defScope s_NoPoly_init) [.non] [] f0 _ := ⟨⟨_, _, _, _, _, _, _, _, _, _, rfl, l0, c0, .inr ⟨by decide, _, _, [_], _, e0, t0, u0, .cons rfl .nil⟩, .inl rfl⟩, k0⟩
  have i_NoPoly : MkCal l.prog w K mg base 1 "NoPoly" C_NoPoly "at" (.non) := by
    obtain ⟨ds, vds, bds⟩ := F0.binds1 (ps := P_NoPoly_init) 1 0 (by decide) rfl fun T kV doc pm an cdv ct us its h1 h2 => match us, its, h1, h2 with | [u], [d], _, _ => ⟨_, rfl, rfl⟩
    exact ⟨T.g_NoPoly, xk_NoPoly, new_ve oex_NoPoly, fun v => new_veK oex_NoPoly, f0, _, P_NoPoly_init, ds, _, ok_NoPoly_init T ini_RootError F0, a0, y0, bds, vds, fun s us Xs hl => match us, hl with | [u, v], _ => .of_defaults e0 (Xs _ _ t0) u0 rfl rfl, fun s u v Xs => .of_defaults e0 (Xs _ _ t0) u0 rfl rfl, ini_law oex_NoPoly xf_NoPoly⟩
  have F1 : FunD K "__init__" "NoMove.__init__" (defArgs s_NoMove_init) (defBody s_NoMove_init) (defScope s_NoMove_init) [.non] [] f1 _ := ⟨⟨_, _, _, _, _, _, _, _, _, _, rfl, l1, c1, .inr ⟨by decide, _, _, [_], _, e1, t1, u1, .cons rfl .nil⟩, .inl rfl⟩, k1⟩
  have i_NoMove : MkCal l.prog w K mg base 1 "NoMove" C_NoMove "move" (.non) := by
    obtain ⟨ds, vds, bds⟩ := F1.binds1 (ps := P_NoMove_init) 1 0 (by decide) rfl fun T kV doc pm an cdv ct us its h1 h2 => match us, its, h1, h2 with | [u], [d], _, _ => ⟨_, rfl, rfl⟩
    exact ⟨T.g_NoMove, xk_NoMove, new_ve oex_NoMove, fun v => new_veK oex_NoMove, f1, _, P_NoMove_init, ds, _, ok_NoMove_init T ini_RootError F1, a1, y1, bds, vds, fun s us Xs hl => match us, hl with | [u, v], _ => .of_defaults e1 (Xs _ _ t1) u1 rfl rfl, fun s u v Xs => .of_defaults e1 (Xs _ _ t1) u1 rfl rfl, ini_law oex_NoMove xf_NoMove⟩
  have F2 : FunD K "__init__" "NoName.__init__" (defArgs s_NoName_init) (defBody s_NoName_init) (defScope s_NoName_init) [.str ""] [] f2 _ := ⟨⟨_, _, _, _, _, _, _, _, _, _, rfl, l2, c2, .inr ⟨by decide, _, _, [_], _, e2, t2, u2, .cons ⟨_, rfl⟩ .nil⟩, .inl rfl⟩, k2⟩
  have i_NoName : MkCal l.prog w K mg base 1 "NoName" C_NoName "name" (.str "") := by
    obtain ⟨ds, vds, bds⟩ := F2.binds1 (ps := P_NoName_init) 1 0 (by decide) rfl fun T kV doc pm an cdv ct us its h1 h2 => match us, its, h1, h2 with | [u], [d], _, _ => ⟨_, rfl, rfl⟩
    exact ⟨T.g_NoName, xk_NoName, new_ke oex_NoName, fun v => new_keK oex_NoName, f2, _, P_NoName_init, ds, _, ok_NoName_init T vK F2, a2, y2, bds, vds, fun s us Xs hl => match us, hl with | [u, v], _ => .of_defaults e2 (Xs _ _ t2) u2 rfl rfl, fun s u v Xs => .of_defaults e2 (Xs _ _ t2) u2 rfl rfl, ini_lawK oex_NoName xf_NoName⟩
  have F3 : FunD K "__init__" "Twice.__init__" (defArgs s_Twice_init) (defBody s_Twice_init) (defScope s_Twice_init) [.str ""] [] f3 _ := ⟨⟨_, _, _, _, _, _, _, _, _, _, rfl, l3, c3, .inr ⟨by decide, _, _, [_], _, e3, t3, u3, .cons ⟨_, rfl⟩ .nil⟩, .inl rfl⟩, k3⟩
  have i_Twice : MkCal l.prog w K mg base 1 "Twice" C_Twice "name" (.str "") := by
    obtain ⟨ds, vds, bds⟩ := F3.binds1 (ps := P_Twice_init) 1 0 (by decide) rfl fun T kV doc pm an cdv ct us its h1 h2 => match us, its, h1, h2 with | [u], [d], _, _ => ⟨_, rfl, rfl⟩
    exact ⟨T.g_Twice, xk_Twice, new_ve oex_Twice, fun v => new_veK oex_Twice, f3, _, P_Twice_init, ds, _, ok_Twice_init T vV F3, a3, y3, bds, vds, fun s us Xs hl => match us, hl with | [u, v], _ => .of_defaults e3 (Xs _ _ t3) u3 rfl rfl, fun s u v Xs => .of_defaults e3 (Xs _ _ t3) u3 rfl rfl, ini_law oex_Twice xf_Twice⟩
  have F4 := L2.fun_mk (st := s_Lcell) l4 c4 k4
  have b4 := F4.binds (ps := P_Lcell) fun _ _ _ _ _ _ us hl => match us, hl with | [_, _], _ => rfl
  have h_Lcell : Cal l.prog w K mg base 1 "_law_cell" (sp_Lcell K) [] := ⟨f4, _, P_Lcell, [], ok_Lcell T F4 , PySem.W.mg_of X G a4, k4, b4, .nil⟩
  have F5 := L2.fun_mk (st := s_Lmixed) l5 c5 k5
  have b5 := F5.binds (ps := P_Lmixed) fun _ _ _ _ _ _ us hl => match us, hl with | [_, _], _ => rfl
  have h_Lmixed : Cal l.prog w K mg base 1 "_law_mixed" sp_Lmixed [] := ⟨f5, _, P_Lmixed, [], ok_Lmixed T F5 , PySem.W.mg_of X G a5, k5, b5, .nil⟩
  have F6 := L2.fun_mk (st := s_Lpurse) l6 c6 k6
  have b6 := F6.binds (ps := P_Lpurse) fun _ _ _ _ _ _ us hl => match us, hl with | [_, _], _ => rfl
  have h_Lpurse : Cal l.prog w K mg base 2 "_law_purse" (sp_Lpurse K) [] := ⟨f6, _, P_Lpurse, [], ok_Lpurse T F6 h_Lcell, PySem.W.mg_of X G a6, k6, b6, .nil⟩
  have F7 := L2.fun_mk (st := s_Ldraw) l7 c7 k7
  have b7 := F7.binds (ps := P_Ldraw) fun _ _ _ _ _ _ us hl => match us, hl with | [_, _], _ => rfl
  have h_Ldraw : Cal l.prog w K mg base 2 "_law_draw" sp_Ldraw [] := ⟨f7, _, P_Ldraw, [], ok_Ldraw T F7 h_Lmixed, PySem.W.mg_of X G a7, k7, b7, .nil⟩
  have hD_Ldraw : Cal l.prog w K mg base 2 "_law_draw" (spP W_Ldraw) [] := Cal.imp h_Ldraw fun _ _ _ _ h => ad_Ldraw h
  have F8 := L2.fun_mk (st := s_Lsorts) l8 c8 k8
  have b8 := F8.binds (ps := P_Lsorts) fun _ _ _ _ _ _ us hl => match us, hl with | [_], _ => rfl
  have h_Lsorts : Cal l.prog w K mg base 1 "_law_sorts" (spD (W_sorts ⟨C_RootError, C_NoPoly, C_NoHouse, C_NoLetter, C_NoCount, C_NoMove, C_NoWord, C_Full, C_NoDeed, C_NoText, C_NoLine, C_NoOver, C_NoName, C_Twice, C_NoNumber⟩)) [] := ⟨f8, _, P_Lsorts, [], ok_Lsorts T ko F8 , PySem.W.mg_of X G a8, k8, b8, .nil⟩
  have F9 := L2.fun_mk (st := s_Lkinds) l9 c9 k9
  have b9 := F9.binds (ps := P_Lkinds) fun _ _ _ _ _ _ us hl => match us, hl with | [_], _ => rfl
  have h_Lkinds : Cal l.prog w K mg base 1 "_law_kinds" (spD (W_kinds ⟨C_RootError, C_NoPoly, C_NoHouse, C_NoLetter, C_NoCount, C_NoMove, C_NoWord, C_Full, C_NoDeed, C_NoText, C_NoLine, C_NoOver, C_NoName, C_Twice, C_NoNumber⟩)) [] := ⟨f9, _, P_Lkinds, [], ok_Lkinds T ko F9 , PySem.W.mg_of X G a9, k9, b9, .nil⟩
  have F10 := L2.fun_mk (st := s_Lrow_right) l10 c10 k10
  have b10 := F10.binds (ps := P_Lrow_right) fun _ _ _ _ _ _ us hl => match us, hl with | [_], _ => rfl
  have h_Lrow_right : Cal l.prog w K mg base 2 "_law_row_right" (spD (W_row ⟨C_RootError, C_NoPoly, C_NoHouse, C_NoLetter, C_NoCount, C_NoMove, C_NoWord, C_Full, C_NoDeed, C_NoText, C_NoLine, C_NoOver, C_NoName, C_Twice, C_NoNumber⟩)) [] := ⟨f10, _, P_Lrow_right, [], ok_Lrow_right T F10 h_Lsorts h_Lkinds, PySem.W.mg_of X G a10, k10, b10, .nil⟩
  have F11 := L2.fun_mk (st := s_law) l11 c11 k11
  exact ok_law T PK ko F11 h_Lpurse hD_Ldraw h_Lsorts h_Lkinds h_Lrow_right i_NoPoly i_NoMove i_NoName i_Twice
end My
namespace My
open PySem PySem.Spec PyProof.Rows L2
theorem facts {l : PySem.W.OpenLaw} {w : World} {K : PySem.W.Frag} {h : Heap} {mg : Str → Option Value} {fa : Addr} (X : K.In h) (G : h.Ns mainGlobals mg) (hfa : mg "law" = some (.ref fa)) (c : obsM ck fnL K = valM fnL) :
    ∃ fd : FuncData, (∀ (s : Shared) (v : Value), BindsTo s fd ⟨[v], []⟩ [("_law_script", v)]) ∧ ∀ base : Heap, K.In base → base.Ns mainGlobals mg → FnOk l.prog w K mg base CX0 3 fa fd ["_law_script"] (spLaw K) := by
  have c0 : ck K = true := saysM_ck c
  have g0 : (ck_0 K).all id = true := all_at c0 0 rfl
  have g1 : (ck_1 K).all id = true := all_at c0 1 rfl
  have g2 : (ck_2 K).all id = true := all_at c0 2 rfl
  have g3 : (ck_3 K).all id = true := all_at c0 3 rfl
  have g4 : (ck_4 K).all id = true := all_at c0 4 rfl
  have g5 : (ck_5 K).all id = true := all_at c0 5 rfl
  have g6 : (ck_6 K).all id = true := all_at c0 6 rfl
  have g7 : (ck_7 K).all id = true := all_at c0 7 rfl
  have g8 : (ck_8 K).all id = true := all_at c0 8 rfl
  have g9 : (ck_9 K).all id = true := all_at c0 9 rfl
  have g10 : (ck_10 K).all id = true := all_at c0 10 rfl
  have g11 : (ck_11 K).all id = true := all_at c0 11 rfl
  have g12 : (ck_12 K).all id = true := all_at c0 12 rfl
  obtain ⟨oc0, od0, kV0, dc0, pm0, an0, cd0, ct0, sl0, dV0, dT0, do0, du0, dn0, p_l0, p_c0, p_k0, p_e0, p_t0, p_u0, rv0⟩ := fn1_of (saysM_fn c 0 rfl)
  cases (show du0 = Value.none from rv0)
  obtain ⟨oc1, od1, kV1, dc1, pm1, an1, cd1, ct1, sl1, dV1, dT1, do1, du1, dn1, p_l1, p_c1, p_k1, p_e1, p_t1, p_u1, rv1⟩ := fn1_of (saysM_fn c 1 rfl)
  cases (show du1 = Value.none from rv1)
  obtain ⟨oc2, od2, kV2, dc2, pm2, an2, cd2, ct2, sl2, dV2, dT2, do2, du2, dn2, p_l2, p_c2, p_k2, p_e2, p_t2, p_u2, rv2⟩ := fn1_of (saysM_fn c 2 rfl)
  obtain ⟨tk2, z2⟩ := (show ∃ t, du2 = Value.str "" t from rv2); subst z2
  obtain ⟨oc3, od3, kV3, dc3, pm3, an3, cd3, ct3, sl3, dV3, dT3, do3, du3, dn3, p_l3, p_c3, p_k3, p_e3, p_t3, p_u3, rv3⟩ := fn1_of (saysM_fn c 3 rfl)
  obtain ⟨tk3, z3⟩ := (show ∃ t, du3 = Value.str "" t from rv3); subst z3
  obtain ⟨oc4, od4, kV4, dc4, pm4, an4, cd4, ct4, sl4, p_l4, p_c4, p_k4⟩ := fn0_of (saysM_fn c 4 rfl)
  obtain ⟨oc5, od5, kV5, dc5, pm5, an5, cd5, ct5, sl5, p_l5, p_c5, p_k5⟩ := fn0_of (saysM_fn c 5 rfl)
  obtain ⟨oc6, od6, kV6, dc6, pm6, an6, cd6, ct6, sl6, p_l6, p_c6, p_k6⟩ := fn0_of (saysM_fn c 6 rfl)
  obtain ⟨oc7, od7, kV7, dc7, pm7, an7, cd7, ct7, sl7, p_l7, p_c7, p_k7⟩ := fn0_of (saysM_fn c 7 rfl)
  obtain ⟨oc8, od8, kV8, dc8, pm8, an8, cd8, ct8, sl8, p_l8, p_c8, p_k8⟩ := fn0_of (saysM_fn c 8 rfl)
  obtain ⟨oc9, od9, kV9, dc9, pm9, an9, cd9, ct9, sl9, p_l9, p_c9, p_k9⟩ := fn0_of (saysM_fn c 9 rfl)
  obtain ⟨oc10, od10, kV10, dc10, pm10, an10, cd10, ct10, sl10, p_l10, p_c10, p_k10⟩ := fn0_of (saysM_fn c 10 rfl)
  obtain ⟨oc11, od11, kV11, dc11, pm11, an11, cd11, ct11, sl11, p_l11, p_c11, p_k11⟩ := fn0_of (saysM_fn c 11 rfl)
  exact all_mk X G hfa (of_decide_eq_true (all_at g0 0 rfl)) (of_decide_eq_true (all_at g0 1 rfl)) (of_decide_eq_true (all_at g0 2 rfl)) p_l0 p_c0 p_k0 p_e0 p_t0 p_u0 (of_decide_eq_true (all_at g0 3 rfl)) (of_decide_eq_true (all_at g0 4 rfl)) (of_decide_eq_true (all_at g0 5 rfl)) p_l1 p_c1 p_k1 p_e1 p_t1 p_u1 (of_decide_eq_true (all_at g0 6 rfl)) (of_decide_eq_true (all_at g0 7 rfl)) (of_decide_eq_true (all_at g0 8 rfl)) p_l2 p_c2 p_k2 p_e2 p_t2 p_u2 (of_decide_eq_true (all_at g0 9 rfl)) (of_decide_eq_true (all_at g0 10 rfl)) (of_decide_eq_true (all_at g0 11 rfl)) p_l3 p_c3 p_k3 p_e3 p_t3 p_u3 (of_decide_eq_true (all_at g1 0 rfl)) p_l4 p_c4 p_k4 (of_decide_eq_true (all_at g1 1 rfl)) p_l5 p_c5 p_k5 (of_decide_eq_true (all_at g1 2 rfl)) p_l6 p_c6 p_k6 (of_decide_eq_true (all_at g1 3 rfl)) p_l7 p_c7 p_k7 (of_decide_eq_true (all_at g1 4 rfl)) p_l8 p_c8 p_k8 (of_decide_eq_true (all_at g1 5 rfl)) p_l9 p_c9 p_k9 (of_decide_eq_true (all_at g1 6 rfl)) p_l10 p_c10 p_k10 (of_decide_eq_true (all_at g1 7 rfl)) p_l11 p_c11 p_k11 (of_decide_eq_true (all_at g1 8 rfl)) (of_decide_eq_true (all_at g1 9 rfl)) (of_decide_eq_true (all_at g1 10 rfl)) (of_decide_eq_true (all_at g1 11 rfl)) (of_decide_eq_true (all_at g2 0 rfl)) (of_decide_eq_true (all_at g2 1 rfl)) (of_decide_eq_true (all_at g2 2 rfl)) (of_decide_eq_true (all_at g2 3 rfl)) (of_decide_eq_true (all_at g2 4 rfl)) (of_decide_eq_true (all_at g2 5 rfl)) (of_decide_eq_true (all_at g2 6 rfl)) (of_decide_eq_true (all_at g2 7 rfl)) (of_decide_eq_true (all_at g2 8 rfl)) (of_decide_eq_true (all_at g2 9 rfl)) (of_decide_eq_true (all_at g2 10 rfl)) (of_decide_eq_true (all_at g2 11 rfl)) (of_decide_eq_true (all_at g3 0 rfl)) (of_decide_eq_true (all_at g3 1 rfl)) (of_decide_eq_true (all_at g3 2 rfl)) (of_decide_eq_true (all_at g3 3 rfl)) (of_decide_eq_true (all_at g3 4 rfl)) (of_decide_eq_true (all_at g3 5 rfl)) (of_decide_eq_true (all_at g3 6 rfl)) (of_decide_eq_true (all_at g3 7 rfl)) (of_decide_eq_true (all_at g3 8 rfl)) (of_decide_eq_true (all_at g3 9 rfl)) (of_decide_eq_true (all_at g3 10 rfl)) (of_decide_eq_true (all_at g3 11 rfl)) (of_decide_eq_true (all_at g4 0 rfl)) (of_decide_eq_true (all_at g4 1 rfl)) (of_decide_eq_true (all_at g4 2 rfl)) (of_decide_eq_true (all_at g4 3 rfl)) (of_decide_eq_true (all_at g4 4 rfl)) (of_decide_eq_true (all_at g4 5 rfl)) (of_decide_eq_true (all_at g4 6 rfl)) (of_decide_eq_true (all_at g4 7 rfl)) (of_decide_eq_true (all_at g4 8 rfl)) (of_decide_eq_true (all_at g4 9 rfl)) (of_decide_eq_true (all_at g4 10 rfl)) (of_decide_eq_true (all_at g4 11 rfl)) (of_decide_eq_true (all_at g5 0 rfl)) (of_decide_eq_true (all_at g5 1 rfl)) (of_decide_eq_true (all_at g5 2 rfl)) (of_decide_eq_true (all_at g5 3 rfl)) (of_decide_eq_true (all_at g5 4 rfl)) (of_decide_eq_true (all_at g5 5 rfl)) (of_decide_eq_true (all_at g5 6 rfl)) (of_decide_eq_true (all_at g5 7 rfl)) (of_decide_eq_true (all_at g5 8 rfl)) (of_decide_eq_true (all_at g5 9 rfl)) (of_decide_eq_true (all_at g5 10 rfl)) (of_decide_eq_true (all_at g5 11 rfl)) (of_decide_eq_true (all_at g6 0 rfl)) (of_decide_eq_true (all_at g6 1 rfl)) (of_decide_eq_true (all_at g6 2 rfl)) (of_decide_eq_true (all_at g6 3 rfl)) (of_decide_eq_true (all_at g6 4 rfl)) (of_decide_eq_true (all_at g6 5 rfl)) (of_decide_eq_true (all_at g6 6 rfl)) (of_decide_eq_true (all_at g6 7 rfl)) (of_decide_eq_true (all_at g6 8 rfl)) (of_decide_eq_true (all_at g6 9 rfl)) (of_decide_eq_true (all_at g6 10 rfl)) (of_decide_eq_true (all_at g6 11 rfl)) (of_decide_eq_true (all_at g7 0 rfl)) (of_decide_eq_true (all_at g7 1 rfl)) (of_decide_eq_true (all_at g7 2 rfl)) (of_decide_eq_true (all_at g7 3 rfl)) (of_decide_eq_true (all_at g7 4 rfl)) (of_decide_eq_true (all_at g7 5 rfl)) (of_decide_eq_true (all_at g7 6 rfl)) (of_decide_eq_true (all_at g7 7 rfl)) (of_decide_eq_true (all_at g7 8 rfl)) (of_decide_eq_true (all_at g7 9 rfl)) (of_decide_eq_true (all_at g7 10 rfl)) (of_decide_eq_true (all_at g7 11 rfl)) (of_decide_eq_true (all_at g8 0 rfl)) (of_decide_eq_true (all_at g8 1 rfl)) (of_decide_eq_true (all_at g8 2 rfl)) (of_decide_eq_true (all_at g8 3 rfl)) (of_decide_eq_true (all_at g8 4 rfl)) (of_decide_eq_true (all_at g8 5 rfl)) (of_decide_eq_true (all_at g8 6 rfl)) (of_decide_eq_true (all_at g8 7 rfl)) (of_decide_eq_true (all_at g8 8 rfl)) (of_decide_eq_true (all_at g8 9 rfl)) (of_decide_eq_true (all_at g8 10 rfl)) (of_decide_eq_true (all_at g8 11 rfl)) (of_decide_eq_true (all_at g9 0 rfl)) (of_decide_eq_true (all_at g9 1 rfl)) (of_decide_eq_true (all_at g9 2 rfl)) (of_decide_eq_true (all_at g9 3 rfl)) (of_decide_eq_true (all_at g9 4 rfl)) (of_decide_eq_true (all_at g9 5 rfl)) (of_decide_eq_true (all_at g9 6 rfl)) (of_decide_eq_true (all_at g9 7 rfl)) (of_decide_eq_true (all_at g9 8 rfl)) (of_decide_eq_true (all_at g9 9 rfl)) (of_decide_eq_true (all_at g9 10 rfl)) (of_decide_eq_true (all_at g9 11 rfl)) (of_decide_eq_true (all_at g10 0 rfl)) (of_decide_eq_true (all_at g10 1 rfl)) (of_decide_eq_true (all_at g10 2 rfl)) (of_decide_eq_true (all_at g10 3 rfl)) (of_decide_eq_true (all_at g10 4 rfl)) (of_decide_eq_true (all_at g10 5 rfl)) (of_decide_eq_true (all_at g10 6 rfl)) (of_decide_eq_true (all_at g10 7 rfl)) (of_decide_eq_true (all_at g10 8 rfl)) (of_decide_eq_true (all_at g10 9 rfl)) (of_decide_eq_true (all_at g10 10 rfl)) (of_decide_eq_true (all_at g10 11 rfl)) (of_decide_eq_true (all_at g11 0 rfl)) (of_decide_eq_true (all_at g11 1 rfl)) (of_decide_eq_true (all_at g11 2 rfl)) (of_decide_eq_true (all_at g11 3 rfl)) (of_decide_eq_true (all_at g11 4 rfl)) (of_decide_eq_true (all_at g11 5 rfl)) (of_decide_eq_true (all_at g11 6 rfl)) (of_decide_eq_true (all_at g11 7 rfl)) (of_decide_eq_true (all_at g11 8 rfl)) (of_decide_eq_true (all_at g11 9 rfl)) (of_decide_eq_true (all_at g11 10 rfl)) (of_decide_eq_true (all_at g11 11 rfl)) (of_decide_eq_true (all_at g12 0 rfl)) (of_decide_eq_true (all_at g12 1 rfl)) (of_decide_eq_true (all_at g12 2 rfl)) (of_decide_eq_true (all_at g12 3 rfl)) (of_decide_eq_true (all_at g12 4 rfl)) (of_decide_eq_true (all_at g12 5 rfl)) (of_decide_eq_true (all_at g12 6 rfl)) (of_decide_eq_true (all_at g12 7 rfl)) (of_decide_eq_true (all_at g12 8 rfl))
end My
open PySem PySem.W PyProof.Rows in
set_option maxRecDepth 100000 in
set_option maxHeartbeats 0 in
theorem PySem.Challenge.cw_rootmoves_k95_refusals_made_holds : PySem.Challenge.rw_rootmoves_k95_refusals_made.Holds := by
  w_on; o_law
  refine HandSHeadRun.head_any (r := OpenLaw.row PySem.Challenge.rw_rootmoves_k95_refusals_made) (q := view (OpenLaw.row PySem.Challenge.rw_rootmoves_k95_refusals_made).prog [24]) (H := My.hk) (ob := My.ob) (M := 20000) (loose := My.names) (d := HandSHeadRun.topDef (OpenLaw.row PySem.Challenge.rw_rootmoves_k95_refusals_made).prog 24) (kwd := []) My.ob_eq
    (by kernel_rfl) (fun s => by kernel_rfl) My.run (by kernel_rfl) (by kernel_rfl) (by kernel_rfl) (by rfl) (by first | assumption | decide +kernel) (by decide +kernel) ⟨rfl, rfl, rfl, rfl, rfl, by decide +kernel⟩ ?hw ?hc
  case hw => w_witness2
  case hc =>
    refine L2.walk_ofE (l := PySem.Challenge.rw_rootmoves_k95_refusals_made) (n := 63) (k := 3) (x := "_law_script") (CX := L2.CX0) rfl (by decide) (by kernel_rfl) ⟨rfl, by decide, by decide⟩ ?F (fun _ _ _ _ z => z)
    intro w mg fa h Y G hmg0
    obtain ⟨K, KX, c⟩ := Y
    have hmg : mg ("law" : PySem.Str) = some (.ref fa) := by
      have e : (HandSHeadRun.topDef (OpenLaw.row PySem.Challenge.rw_rootmoves_k95_refusals_made).prog 24).name = ("law" : PySem.Str) := by kernel_rfl
      rw [← e]
      exact hmg0
    obtain ⟨fd, hb, hF⟩ := My.facts (l := PySem.Challenge.rw_rootmoves_k95_refusals_made) (w := w) KX G hmg c
    exact ⟨K, fd, My.spLaw K, KX, hb, fun H a ns hl _ hS => ⟨a, ns, rfl, hS, hl, fun _ => rfl⟩, hF⟩
#print axioms PySem.Challenge.cw_rootmoves_k95_refusals_made_holds
