import PyProof.Rows.All
import Wide.All
import OpenK.AllK
import Wide.FinOn
import HandS.ForMost
import HandS.Codes
import HandS.Wide
import HandS.WideBits
import HandS.WideMore
import HandS.Style
import HandS.NoneIn
import HandS.IsInst
import HandS.Deep
import HandS.Walk
import HandS.ForExc
import HandS.TryMany
import HandS.ExcIs
import HandS.ExcInit
import HandS.Defaults
import HandS.Zip
import HandS.OwnEq
import HandS.SortKw
import HandS.Flow
import HandS.Text
import KE.KCallOwn
import KE.DataMinMax
import HandS.RaiseMore
import HandS.SortInts
import HandS.Records
import HandS.Replace
import HandS.ReplaceLit
import HandS.ReplaceDef
import HandS.ReplaceList
import HandS.StrMore
import HandS.RaiseFrom
import HandS.TryOnly
import HandS.HotCalls
import HandS.SuiteRaise
import HandS.ExcInitHot
import KE.KStateDown
import Lean
import HandS.HeadEnd
import HandS.HeadHook2
import HandS.HeadNt
import HandS.Head0
import HandS.Head1
import HandS.Head2
import PySem.Challenge.RW_rootmoves_k79_polynomials_as_texts
set_option Elab.async false
set_option linter.all false
set_option maxRecDepth 100000
set_option maxHeartbeats 4000000
namespace My
open PySem
def top (i : Nat) : Stmt := PySem.Challenge.pw_rootmoves_k79_polynomials_as_texts.main.body.getD i (.Pass ⟨0, 0, 0, 0⟩)
end My
/-! ### the top's run in the kernel: what is read off its end -/
namespace My
open PySem PySem.Spec PyProof.Rows L2
abbrev AlM : Type := Bool × List He.FnW
def obsM (ck : PySem.W.Frag → Bool) (fn : List He.DefD) (K : PySem.W.Frag) : AlM := (ck K && fn.all fun d => d.ok K, fn.map fun d => He.fnW K d.at_)
def valM (fn : List He.DefD) : AlM := (true, fn.map He.DefD.val)
def obsMG (as : List Addr) (ck : PySem.W.Frag → Bool) (fn : List He.DefD) (g : Addr → Option Obj) : AlM := obsM ck fn (He.frG g as)
def hookM (as : List Addr) (ck : PySem.W.Frag → Bool) (fn : List He.DefD) : PySem.W.Hook where
  α := AlM
  obs := fun s => obsMG as ck fn s.heap.get?
  val := fun _ => valM fn
  says := fun _ h => ∃ K : PySem.W.Frag, K.In h ∧ obsM ck fn K = valM fn
  of := fun _ _ e => ⟨_, He.frG_in, e⟩
  keeps := fun _ _ _ ⟨K, hK, c⟩ k => ⟨K, PySem.W.Frag.In.keeps hK k, c⟩
theorem obsMG_eq {as : List Addr} {ck : PySem.W.Frag → Bool} {fn : List He.DefD} {g : Addr → Option Obj} {s : Shared} (h : ∀ a, g a = s.heap.get? a) : obsMG as ck fn g = (hookM as ck fn).obs s := by
  have e : g = s.heap.get? := funext h
  rw [e] <;> rfl
section
variable {ck : PySem.W.Frag → Bool} {fn : List He.DefD} {K : PySem.W.Frag}
theorem saysM_ck (c : obsM ck fn K = valM fn) : ck K = true := (He.ba (show (ck K && fn.all fun d => d.ok K) = true from congrArg (fun z : AlM => z.1) c)).1
theorem saysM_fn (c : obsM ck fn K = valM fn) (i : Nat) {d : He.DefD} (h : fn[i]? = some d) : ∃ fd, FunD K d.name d.qual d.params d.body d.scope (d.dvs K) (d.kws K) (He.fAd K d.at_) fd := by
  have c2 := (He.ba (show (ck K && fn.all fun d => d.ok K) = true from congrArg (fun z : AlM => z.1) c)).2
  have e : fn.map (fun d => He.fnW K d.at_) = fn.map He.DefD.val := congrArg (fun z : AlM => z.2) c
  have e2 : (fn.map fun d => He.fnW K d.at_)[i]? = (fn.map He.DefD.val)[i]? := by rw [e]
  rw [List.getElem?_map, List.getElem?_map, h] at e2
  exact He.DefD.funD (Option.some.inj e2) (List.all_eq_true.mp c2 d (List.mem_of_getElem? h))
variable {x q : Str} {ps : Arguments} {b : List Stmt} {sc : Scope} {kws : List (Str × V)} {f : Addr}
/-- a def without defaults -/
theorem fn0_of (F : ∃ fd, FunD K x q ps b sc [] kws f fd) : ∃ oc od kV doc pm an cdv ct osl, K.lookup f = some ⟨oc, od, .func (PySem.W.fnOf x q ps b sc .none kV doc pm an cdv ct), osl⟩ ∧ PySem.W.codeIn K cdv q = true ∧ PySem.W.keepIn K (.ref f) = true := by
  obtain ⟨fd, F⟩ := F
  obtain ⟨oc, od, dV, kV, doc, pm, an, cdv, ct, osl, rfl, lk, hc, hD, _⟩ := F.ex
  rcases hD with ⟨_, rfl⟩ | ⟨e, _⟩
  · exact ⟨oc, od, kV, doc, pm, an, cdv, ct, osl, lk, hc, F.kp⟩
  · exact absurd rfl e
/-- a def with one default -/
theorem fn1_of {v : V} (F : ∃ fd, FunD K x q ps b sc [v] kws f fd) : ∃ oc od kV doc pm an cdv ct osl, ∃ (dV : Value) (T : Addr) (o : Obj) (u : Value) (n : Nat), K.lookup f = some ⟨oc, od, .func (PySem.W.fnOf x q ps b sc dV kV doc pm an cdv ct), osl⟩ ∧ PySem.W.codeIn K cdv q = true ∧ PySem.W.keepIn K (.ref f) = true ∧
    dV = .ref T ∧ K.lookup T = some o ∧ o.data = .seq #[u] n ∧ RelV v u := by
  obtain ⟨fd, F⟩ := F
  obtain ⟨oc, od, dV, kV, doc, pm, an, cdv, ct, osl, rfl, lk, hc, hD, _⟩ := F.ex
  rcases hD with ⟨e, _⟩ | ⟨_, T, o, its, n, e, lT, oT, rT⟩
  · cases e
  · cases rT with
    | cons r t =>
      cases t
      exact ⟨oc, od, kV, doc, pm, an, cdv, ct, osl, dV, T, o, _, n, lk, hc, F.kp, e, lT, oT, r⟩
end
/-- where a class's names stand -/
def nsC (K : PySem.W.Frag) (C : Addr) : Addr := match PySem.W.clsIn K C with
  | some cd => cd.ns
  | none => 0
def clsB (K : PySem.W.Frag) (C : Addr) (bm : List Value → Bool) (newId : String) : Bool := match K.lookup C with
  | some ⟨.type "type", _, .cls cd, sl⟩ => (match cd.mro, sl.toList with
    | .ref C' :: bm', [_, _, _, _, some (.builtin n), _] => C' == C && (n == newId && (!cd.hasDel && (cd.hasDict && bm bm')))
    | _, _ => false)
  | _ => false
theorem clsB_ok {K : PySem.W.Frag} {C : Addr} {bm : List Value → Bool} {newId : String} (h : clsB K C bm newId = true) : ∃ nm q bs bm' sn sub ab col dd k0 k1 k2 k3 k5,
    K.lookup C = some (excClassObj nm q C (nsC K C) bs bm' true sn sub ab col dd k0 k1 k2 k3 k5 newId) ∧ bm bm' = true := by
  unfold clsB at h
  split at h
  · rename_i dd cd sl ho
    split at h
    · rename_i C' bm' k0 k1 k2 k3 n k5 hm hs
      obtain ⟨h1, h⟩ := He.ba h
      obtain ⟨h2, h⟩ := He.ba h
      obtain ⟨h3, h⟩ := He.ba h
      obtain ⟨h4, h5⟩ := He.ba h
      have e1 : C' = C := eq_of_beq h1
      have e2 : n = newId := eq_of_beq h2
      subst e1 e2
      have en : nsC K C' = cd.ns := by unfold nsC PySem.W.clsIn; rw [ho]
      obtain ⟨nm, bs, mro, ns, qn, hd, sn, sub, ab, col, del⟩ := cd
      dsimp only at hm h3 h4 en
      subst hm
      have e3 : del = false := by cases del <;> first | rfl | cases h3
      have e4 : hd = true := h4
      subst e3 e4
      have hsl : sl = #[k0, k1, k2, k3, some (.builtin n), k5] := by
        obtain ⟨l⟩ := sl
        simp only at hs
        rw [hs]
      subst hsl
      rw [en]
      exact ⟨nm, qn, bs, bm', sn, sub, ab, col, dd, k0, k1, k2, k3, k5, ho, h5⟩
    · cases h
  · cases h
def dicB (K : PySem.W.Frag) (a : Addr) : Bool := match K.lookup a with
  | some ⟨_, _, .dict es _, _⟩ => es.all fun e => match e.key with | .str _ _ => true | _ => false
  | _ => false
theorem dicB_ok {K : PySem.W.Frag} {a : Addr} (h : dicB K a = true) : ∃ (x : Value) (y : Option Addr) (es : Array DictEntry) (z : Nat) (l : Array (Option Value)), K.lookup a = some ⟨x, y, .dict es z, l⟩ ∧ (es.all fun e => match e.key with | .str _ _ => true | _ => false) = true := by
  unfold dicB at h
  split at h
  · exact ⟨_, _, _, _, _, by assumption, h⟩
  · cases h
def intB (K : PySem.W.Frag) (x : Str) (i : Int) : Bool := match PySem.W.nsIn K mainGlobals x with
  | some (some (.int j _)) => decide (j = i)
  | _ => false
theorem intB_ok {K : PySem.W.Frag} {x : Str} {i : Int} (h : intB K x i = true) : ∃ t, PySem.W.nsIn K mainGlobals x = some (some (.int i t)) := by
  unfold intB at h
  split at h
  · rename_i j t e
    have ej : j = i := of_decide_eq_true h
    subst ej
    exact ⟨t, e⟩
  · cases h
def strB (K : PySem.W.Frag) (x : Str) (i : Str) : Bool := match PySem.W.nsIn K mainGlobals x with
  | some (some (.str j _)) => decide (j = i)
  | _ => false
theorem strB_ok {K : PySem.W.Frag} {x : Str} {i : Str} (h : strB K x i = true) : ∃ t, PySem.W.nsIn K mainGlobals x = some (some (.str i t)) := by
  unfold strB at h
  split at h
  · rename_i j t e
    have ej : j = i := of_decide_eq_true h
    subst ej
    exact ⟨t, e⟩
  · cases h
def fcB (K : PySem.W.Frag) (C : Addr) (x : Str) (g : String) : Bool := match PySem.W.findCls K (.ref C) (.type "type") x with
  | some (.val (.builtin i)) => decide (i = g)
  | _ => false
theorem fcB_ok {K : PySem.W.Frag} {C : Addr} {x : Str} {g : String} (h : fcB K C x g = true) : PySem.W.findCls K (.ref C) (.type "type") x = some (.val (.builtin g)) := by
  unfold fcB at h
  split at h
  · rename_i i e
    have ej : i = g := of_decide_eq_true h
    subst ej
    exact e
  · cases h
def fcT (K : PySem.W.Frag) (T : String) (x : Str) (g : String) : Bool := match PySem.W.findCls K (.type T) (.type "type") x with
  | some (.val (.builtin i)) => decide (i = g)
  | _ => false
theorem fcT_ok {K : PySem.W.Frag} {T : String} {x : Str} {g : String} (h : fcT K T x g = true) : PySem.W.findCls K (.type T) (.type "type") x = some (.val (.builtin g)) := by
  unfold fcT at h
  split at h
  · rename_i i e
    have ej : i = g := of_decide_eq_true h
    subst ej
    exact e
  · cases h
theorem all_at {l : List Bool} (h : l.all id = true) (i : Nat) {b : Bool} (e : l[i]? = some b) : b = true := List.all_eq_true.mp h b (List.mem_of_getElem? e)
theorem yc_of {K : PySem.W.Frag} {f : Addr} {oc t : Value} {od : Option Addr} {dt : PySem.Data} {sl : Array (Option Value)} (l : K.lookup f = some ⟨oc, od, dt, sl⟩) (y : PySem.W.typeIn K (.ref f) = some t) : oc = t := by
  have y' : (K.lookup f).map (·.cls) = some t := y
  rw [l] at y'
  exact Option.some.inj y'
end My
namespace My
open PySem PySem.Spec PyProof.Rows L2
def ck_0 (K : PySem.W.Frag) : List Bool := [decide (PySem.W.nsIn K mainGlobals "divisor" = some (some (.ref (He.ga K "divisor")))),
  decide (PySem.W.nsIn K mainGlobals "lowest" = some (some (.ref (He.ga K "lowest")))),
  decide (PySem.W.nsIn K mainGlobals "told_by" = some (some (.ref (He.ga K "told_by")))),
  decide (PySem.W.findIn K (.ref (He.ga K "NoPoly")) "__init__" = some (some (.ref (He.ma K (He.ga K "NoPoly") "__init__")))),
  decide (PySem.W.isFn K (.ref (He.ma K (He.ga K "NoPoly") "__init__")) = true),
  decide (PySem.W.typeIn K (.ref (He.ma K (He.ga K "NoPoly") "__init__")) = some (.type "function")),
  decide (PySem.W.nsIn K mainGlobals "must_poly" = some (some (.ref (He.ga K "must_poly")))),
  decide (PySem.W.nsIn K mainGlobals "fraction_text" = some (some (.ref (He.ga K "fraction_text")))),
  decide (PySem.W.nsIn K mainGlobals "product_text" = some (some (.ref (He.ga K "product_text")))),
  decide (PySem.W.nsIn K mainGlobals "share_text" = some (some (.ref (He.ga K "share_text")))),
  decide (PySem.W.nsIn K mainGlobals "sum_text" = some (some (.ref (He.ga K "sum_text")))),
  decide (PySem.W.nsIn K mainGlobals "must" = some (some (.ref (He.ga K "must"))))]
def ck_1 (K : PySem.W.Frag) : List Bool := [decide (PySem.W.nsIn K mainGlobals "whole_in" = some (some (.ref (He.ga K "whole_in")))),
  decide (PySem.W.nsIn K mainGlobals "pieces_of" = some (some (.ref (He.ga K "pieces_of")))),
  decide (PySem.W.nsIn K mainGlobals "fraction_in" = some (some (.ref (He.ga K "fraction_in")))),
  decide (PySem.W.nsIn K mainGlobals "parted" = some (some (.ref (He.ga K "parted")))),
  decide (PySem.W.nsIn K mainGlobals "powers_text" = some (some (.ref (He.ga K "powers_text")))),
  decide (PySem.W.nsIn K mainGlobals "text_of" = some (some (.ref (He.ga K "text_of")))),
  decide (PySem.W.nsIn K mainGlobals "power_in" = some (some (.ref (He.ga K "power_in")))),
  decide (PySem.W.nsIn K mainGlobals "read_polynomial" = some (some (.ref (He.ga K "read_polynomial")))),
  decide (PySem.W.nsIn K mainGlobals "_law_at" = some (some (.ref (He.ga K "_law_at")))),
  decide (PySem.W.nsIn K mainGlobals "_law_mixed" = some (some (.ref (He.ga K "_law_mixed")))),
  decide (PySem.W.nsIn K mainGlobals "_law_purse" = some (some (.ref (He.ga K "_law_purse")))),
  decide (PySem.W.nsIn K mainGlobals "_law_draw" = some (some (.ref (He.ga K "_law_draw"))))]
def ck_2 (K : PySem.W.Frag) : List Bool := [decide (PySem.W.nsIn K mainGlobals "_law_class" = some (some (.ref (He.ga K "_law_class")))),
  decide (PySem.W.nsIn K mainGlobals "_law_alike_roots" = some (some (.ref (He.ga K "_law_alike_roots")))),
  decide (PySem.W.nsIn K mainGlobals "_law_fault" = some (some (.ref (He.ga K "_law_fault")))),
  decide (PySem.W.nsIn K mainGlobals "_law_powers" = some (some (.ref (He.ga K "_law_powers")))),
  decide (PySem.W.nsIn K mainGlobals "_law_piece" = some (some (.ref (He.ga K "_law_piece")))),
  decide (PySem.W.nsIn K mainGlobals "_law_read" = some (some (.ref (He.ga K "_law_read")))),
  decide (PySem.W.nsIn K mainGlobals "_law_asked" = some (some (.ref (He.ga K "_law_asked")))),
  decide (PySem.W.nsIn K mainGlobals "_law_list" = some (some (.ref (He.ga K "_law_list")))),
  decide (PySem.W.nsIn K mainGlobals "_law_bent" = some (some (.ref (He.ga K "_law_bent")))),
  decide (PySem.W.nsIn K mainGlobals "law" = some (some (.ref (He.ga K "law")))),
  decide (PySem.W.nsIn K mainGlobals "abs" = some none),
  decide (PySem.W.nsIn K mainGlobals "len" = some none)]
def ck_3 (K : PySem.W.Frag) : List Bool := [decide (PySem.W.nsIn K mainGlobals "range" = some none),
  decide (PySem.W.nsIn K mainGlobals "max" = some none),
  decide (PySem.W.nsIn K mainGlobals "enumerate" = some none),
  decide (PySem.W.nsIn K mainGlobals "isinstance" = some none),
  decide (PySem.W.nsIn K mainGlobals "int" = some none),
  decide (PySem.W.nsIn K mainGlobals "bool" = some none),
  decide (PySem.W.nsIn K mainGlobals "tuple" = some none),
  decide (PySem.W.nsIn K mainGlobals "list" = some none),
  decide (PySem.W.nsIn K mainGlobals "zip" = some none),
  decide (PySem.W.nsIn K mainGlobals "str" = some none),
  decide (PySem.W.nsIn K mainGlobals "all" = some none),
  intB K "MOST" 100,
  intB K "MOST_FIGURES" 1000,
  strB K "FIGURES" "0123456789",
  decide (PySem.W.nsIn K mainGlobals "RootError" = some (some (.ref (He.ga K "RootError"))))]
def ck_4 (K : PySem.W.Frag) : List Bool := [decide (PySem.W.isClsIn K (He.ga K "RootError") = true),
  decide (PySem.W.typeIn K (.ref (He.ga K "RootError")) = some (.type "type")),
  decide (PySem.W.subIn K (.type "NoneType") (.ref (He.ga K "RootError")) = some false),
  decide (PySem.W.nsIn K mainGlobals "NoPoly" = some (some (.ref (He.ga K "NoPoly")))),
  decide (PySem.W.isClsIn K (He.ga K "NoPoly") = true),
  decide (PySem.W.typeIn K (.ref (He.ga K "NoPoly")) = some (.type "type")),
  decide (PySem.W.subIn K (.type "NoneType") (.ref (He.ga K "NoPoly")) = some false),
  decide (PySem.W.nsIn K mainGlobals "NoHouse" = some (some (.ref (He.ga K "NoHouse")))),
  decide (PySem.W.isClsIn K (He.ga K "NoHouse") = true),
  decide (PySem.W.typeIn K (.ref (He.ga K "NoHouse")) = some (.type "type")),
  decide (PySem.W.subIn K (.type "NoneType") (.ref (He.ga K "NoHouse")) = some false),
  decide (PySem.W.nsIn K mainGlobals "NoLetter" = some (some (.ref (He.ga K "NoLetter"))))]
def ck_5 (K : PySem.W.Frag) : List Bool := [decide (PySem.W.isClsIn K (He.ga K "NoLetter") = true),
  decide (PySem.W.typeIn K (.ref (He.ga K "NoLetter")) = some (.type "type")),
  decide (PySem.W.subIn K (.type "NoneType") (.ref (He.ga K "NoLetter")) = some false),
  decide (PySem.W.nsIn K mainGlobals "NoCount" = some (some (.ref (He.ga K "NoCount")))),
  decide (PySem.W.isClsIn K (He.ga K "NoCount") = true),
  decide (PySem.W.typeIn K (.ref (He.ga K "NoCount")) = some (.type "type")),
  decide (PySem.W.subIn K (.type "NoneType") (.ref (He.ga K "NoCount")) = some false),
  decide (PySem.W.nsIn K mainGlobals "NoMove" = some (some (.ref (He.ga K "NoMove")))),
  decide (PySem.W.isClsIn K (He.ga K "NoMove") = true),
  decide (PySem.W.typeIn K (.ref (He.ga K "NoMove")) = some (.type "type")),
  decide (PySem.W.subIn K (.type "NoneType") (.ref (He.ga K "NoMove")) = some false),
  decide (PySem.W.nsIn K mainGlobals "NoWord" = some (some (.ref (He.ga K "NoWord"))))]
def ck_6 (K : PySem.W.Frag) : List Bool := [decide (PySem.W.isClsIn K (He.ga K "NoWord") = true),
  decide (PySem.W.typeIn K (.ref (He.ga K "NoWord")) = some (.type "type")),
  decide (PySem.W.subIn K (.type "NoneType") (.ref (He.ga K "NoWord")) = some false),
  decide (PySem.W.nsIn K mainGlobals "Full" = some (some (.ref (He.ga K "Full")))),
  decide (PySem.W.isClsIn K (He.ga K "Full") = true),
  decide (PySem.W.typeIn K (.ref (He.ga K "Full")) = some (.type "type")),
  decide (PySem.W.subIn K (.type "NoneType") (.ref (He.ga K "Full")) = some false),
  decide (PySem.W.nsIn K mainGlobals "NoDeed" = some (some (.ref (He.ga K "NoDeed")))),
  decide (PySem.W.isClsIn K (He.ga K "NoDeed") = true),
  decide (PySem.W.typeIn K (.ref (He.ga K "NoDeed")) = some (.type "type")),
  decide (PySem.W.subIn K (.type "NoneType") (.ref (He.ga K "NoDeed")) = some false),
  decide (PySem.W.nsIn K mainGlobals "NoText" = some (some (.ref (He.ga K "NoText"))))]
def ck_7 (K : PySem.W.Frag) : List Bool := [decide (PySem.W.isClsIn K (He.ga K "NoText") = true),
  decide (PySem.W.typeIn K (.ref (He.ga K "NoText")) = some (.type "type")),
  decide (PySem.W.subIn K (.type "NoneType") (.ref (He.ga K "NoText")) = some false),
  decide (PySem.W.nsIn K mainGlobals "NoLine" = some (some (.ref (He.ga K "NoLine")))),
  decide (PySem.W.isClsIn K (He.ga K "NoLine") = true),
  decide (PySem.W.typeIn K (.ref (He.ga K "NoLine")) = some (.type "type")),
  decide (PySem.W.subIn K (.type "NoneType") (.ref (He.ga K "NoLine")) = some false),
  decide (PySem.W.nsIn K mainGlobals "NoOver" = some (some (.ref (He.ga K "NoOver")))),
  decide (PySem.W.isClsIn K (He.ga K "NoOver") = true),
  decide (PySem.W.typeIn K (.ref (He.ga K "NoOver")) = some (.type "type")),
  decide (PySem.W.subIn K (.type "NoneType") (.ref (He.ga K "NoOver")) = some false),
  decide (PySem.W.nsIn K mainGlobals "NoName" = some (some (.ref (He.ga K "NoName"))))]
def ck_8 (K : PySem.W.Frag) : List Bool := [decide (PySem.W.isClsIn K (He.ga K "NoName") = true),
  decide (PySem.W.typeIn K (.ref (He.ga K "NoName")) = some (.type "type")),
  decide (PySem.W.subIn K (.type "NoneType") (.ref (He.ga K "NoName")) = some false),
  decide (PySem.W.nsIn K mainGlobals "Twice" = some (some (.ref (He.ga K "Twice")))),
  decide (PySem.W.isClsIn K (He.ga K "Twice") = true),
  decide (PySem.W.typeIn K (.ref (He.ga K "Twice")) = some (.type "type")),
  decide (PySem.W.subIn K (.type "NoneType") (.ref (He.ga K "Twice")) = some false),
  decide (PySem.W.nsIn K mainGlobals "NoNumber" = some (some (.ref (He.ga K "NoNumber")))),
  decide (PySem.W.isClsIn K (He.ga K "NoNumber") = true),
  decide (PySem.W.typeIn K (.ref (He.ga K "NoNumber")) = some (.type "type")),
  decide (PySem.W.subIn K (.type "NoneType") (.ref (He.ga K "NoNumber")) = some false),
  decide (PySem.W.subIn K (.ref (He.ga K "RootError")) (.type "BaseException") = some true)]
def ck_9 (K : PySem.W.Frag) : List Bool := [decide (PySem.W.subIn K (.ref (He.ga K "NoPoly")) (.type "BaseException") = some true),
  decide (PySem.W.subIn K (.ref (He.ga K "NoText")) (.type "BaseException") = some true),
  decide (PySem.W.subIn K (.ref (He.ga K "NoOver")) (.type "BaseException") = some true),
  decide (PySem.W.subIn K (.ref (He.ga K "NoName")) (.type "BaseException") = some true),
  decide (PySem.W.subIn K (.ref (He.ga K "Twice")) (.type "BaseException") = some true),
  decide (PySem.W.subIn K (.ref (He.ga K "NoNumber")) (.type "BaseException") = some true),
  decide (PySem.W.subIn K (.ref (He.ga K "NoPoly")) (.ref (He.ga K "NoPoly")) = some true),
  decide (PySem.W.subIn K (.ref (He.ga K "NoPoly")) (.ref (He.ga K "RootError")) = some true),
  decide ((Value.ref (He.ga K "NoPoly") == Value.ref (He.ga K "RootError")) = false),
  decide (PySem.W.subIn K (.ref (He.ga K "NoPoly")) (.ref (He.ga K "NoHouse")) = some false),
  decide ((Value.ref (He.ga K "NoPoly") == Value.ref (He.ga K "NoHouse")) = false),
  decide (PySem.W.subIn K (.ref (He.ga K "NoPoly")) (.ref (He.ga K "NoLetter")) = some false)]
def ck_10 (K : PySem.W.Frag) : List Bool := [decide ((Value.ref (He.ga K "NoPoly") == Value.ref (He.ga K "NoLetter")) = false),
  decide (PySem.W.subIn K (.ref (He.ga K "NoPoly")) (.ref (He.ga K "NoCount")) = some false),
  decide ((Value.ref (He.ga K "NoPoly") == Value.ref (He.ga K "NoCount")) = false),
  decide (PySem.W.subIn K (.ref (He.ga K "NoPoly")) (.ref (He.ga K "NoMove")) = some false),
  decide ((Value.ref (He.ga K "NoPoly") == Value.ref (He.ga K "NoMove")) = false),
  decide (PySem.W.subIn K (.ref (He.ga K "NoPoly")) (.ref (He.ga K "NoWord")) = some false),
  decide ((Value.ref (He.ga K "NoPoly") == Value.ref (He.ga K "NoWord")) = false),
  decide (PySem.W.subIn K (.ref (He.ga K "NoPoly")) (.ref (He.ga K "Full")) = some false),
  decide ((Value.ref (He.ga K "NoPoly") == Value.ref (He.ga K "Full")) = false),
  decide (PySem.W.subIn K (.ref (He.ga K "NoPoly")) (.ref (He.ga K "NoDeed")) = some false),
  decide ((Value.ref (He.ga K "NoPoly") == Value.ref (He.ga K "NoDeed")) = false),
  decide (PySem.W.subIn K (.ref (He.ga K "NoPoly")) (.ref (He.ga K "NoText")) = some false)]
def ck_11 (K : PySem.W.Frag) : List Bool := [decide ((Value.ref (He.ga K "NoPoly") == Value.ref (He.ga K "NoText")) = false),
  decide (PySem.W.subIn K (.ref (He.ga K "NoPoly")) (.ref (He.ga K "NoLine")) = some false),
  decide ((Value.ref (He.ga K "NoPoly") == Value.ref (He.ga K "NoLine")) = false),
  decide (PySem.W.subIn K (.ref (He.ga K "NoPoly")) (.ref (He.ga K "NoOver")) = some false),
  decide ((Value.ref (He.ga K "NoPoly") == Value.ref (He.ga K "NoOver")) = false),
  decide (PySem.W.subIn K (.ref (He.ga K "NoPoly")) (.ref (He.ga K "NoName")) = some false),
  decide ((Value.ref (He.ga K "NoPoly") == Value.ref (He.ga K "NoName")) = false),
  decide (PySem.W.subIn K (.ref (He.ga K "NoPoly")) (.ref (He.ga K "Twice")) = some false),
  decide ((Value.ref (He.ga K "NoPoly") == Value.ref (He.ga K "Twice")) = false),
  decide (PySem.W.subIn K (.ref (He.ga K "NoPoly")) (.ref (He.ga K "NoNumber")) = some false),
  decide ((Value.ref (He.ga K "NoPoly") == Value.ref (He.ga K "NoNumber")) = false),
  decide (PySem.W.keepIn K (.ref (He.ga K "NoPoly")) = true)]
def ck_12 (K : PySem.W.Frag) : List Bool := [decide (PySem.W.findIn K (.ref (He.ga K "NoPoly")) "__getattribute__" = some (some (.builtin "BaseException.__getattribute__"))),
  decide (PySem.W.findIn K (.ref (He.ga K "NoPoly")) "__getattr__" = some none),
  decide (PySem.W.hasDictIn K (He.ga K "NoPoly") = true),
  decide (PySem.W.findIn K (.ref (He.ga K "NoPoly")) "__class__" = some (some (.builtin "object.__class__"))),
  decide (PySem.W.mroIn K (He.ga K "NoPoly") (.type "object") = some true),
  decide (PySem.W.subIn K (.ref (He.ga K "NoText")) (.ref (He.ga K "RootError")) = some true),
  decide ((Value.ref (He.ga K "NoText") == Value.ref (He.ga K "RootError")) = false),
  decide (PySem.W.subIn K (.ref (He.ga K "NoText")) (.ref (He.ga K "NoPoly")) = some false),
  decide ((Value.ref (He.ga K "NoText") == Value.ref (He.ga K "NoPoly")) = false),
  decide (PySem.W.subIn K (.ref (He.ga K "NoText")) (.ref (He.ga K "NoHouse")) = some false),
  decide ((Value.ref (He.ga K "NoText") == Value.ref (He.ga K "NoHouse")) = false),
  decide (PySem.W.subIn K (.ref (He.ga K "NoText")) (.ref (He.ga K "NoLetter")) = some false)]
def ck_13 (K : PySem.W.Frag) : List Bool := [decide ((Value.ref (He.ga K "NoText") == Value.ref (He.ga K "NoLetter")) = false),
  decide (PySem.W.subIn K (.ref (He.ga K "NoText")) (.ref (He.ga K "NoCount")) = some false),
  decide ((Value.ref (He.ga K "NoText") == Value.ref (He.ga K "NoCount")) = false),
  decide (PySem.W.subIn K (.ref (He.ga K "NoText")) (.ref (He.ga K "NoMove")) = some false),
  decide ((Value.ref (He.ga K "NoText") == Value.ref (He.ga K "NoMove")) = false),
  decide (PySem.W.subIn K (.ref (He.ga K "NoText")) (.ref (He.ga K "NoWord")) = some false),
  decide ((Value.ref (He.ga K "NoText") == Value.ref (He.ga K "NoWord")) = false),
  decide (PySem.W.subIn K (.ref (He.ga K "NoText")) (.ref (He.ga K "Full")) = some false),
  decide ((Value.ref (He.ga K "NoText") == Value.ref (He.ga K "Full")) = false),
  decide (PySem.W.subIn K (.ref (He.ga K "NoText")) (.ref (He.ga K "NoDeed")) = some false),
  decide ((Value.ref (He.ga K "NoText") == Value.ref (He.ga K "NoDeed")) = false),
  decide (PySem.W.subIn K (.ref (He.ga K "NoText")) (.ref (He.ga K "NoLine")) = some false)]
def ck_14 (K : PySem.W.Frag) : List Bool := [decide ((Value.ref (He.ga K "NoText") == Value.ref (He.ga K "NoLine")) = false),
  decide (PySem.W.subIn K (.ref (He.ga K "NoText")) (.ref (He.ga K "NoOver")) = some false),
  decide ((Value.ref (He.ga K "NoText") == Value.ref (He.ga K "NoOver")) = false),
  decide (PySem.W.subIn K (.ref (He.ga K "NoText")) (.ref (He.ga K "NoName")) = some false),
  decide ((Value.ref (He.ga K "NoText") == Value.ref (He.ga K "NoName")) = false),
  decide (PySem.W.subIn K (.ref (He.ga K "NoText")) (.ref (He.ga K "Twice")) = some false),
  decide ((Value.ref (He.ga K "NoText") == Value.ref (He.ga K "Twice")) = false),
  decide (PySem.W.subIn K (.ref (He.ga K "NoText")) (.ref (He.ga K "NoNumber")) = some false),
  decide ((Value.ref (He.ga K "NoText") == Value.ref (He.ga K "NoNumber")) = false),
  decide (PySem.W.excIn K (He.ga K "NoText") [.type "ValueError", .type "Exception", .type "BaseException", .type "object"] "ValueError.__new__" = true),
  decide (PySem.W.keepIn K (.ref (He.ga K "NoText")) = true),
  decide (PySem.W.findIn K (.ref (He.ga K "NoText")) "__getattribute__" = some (some (.builtin "BaseException.__getattribute__")))]
def ck_15 (K : PySem.W.Frag) : List Bool := [decide (PySem.W.findIn K (.ref (He.ga K "NoText")) "__getattr__" = some none),
  decide (PySem.W.hasDictIn K (He.ga K "NoText") = true),
  decide (PySem.W.findIn K (.ref (He.ga K "NoText")) "__class__" = some (some (.builtin "object.__class__"))),
  decide (PySem.W.mroIn K (He.ga K "NoText") (.type "object") = some true),
  clsB K (He.ga K "NoPoly") PySem.HandSPX.refsVE "ValueError.__new__",
  decide (PySem.W.findIn K (.ref (He.ga K "NoPoly")) "__setattr__" = some (some (.builtin "object.__setattr__"))),
  decide (PySem.W.findIn K (.ref (He.ga K "NoPoly")) "at" = some none),
  decide (PySem.W.readsIn (mc := .type "type") K (He.ga K "RootError") = true),
  fcB K (He.ga K "RootError") "__init__" "ValueError.__init__",
  decide (PySem.W.specialIn K (.ref (He.ga K "RootError")) "__getattribute__" = some (some (.builtin "type.__getattribute__"))),
  decide (PySem.W.specialIn K (.builtin "object.__class__") "__get__" = some (some (.builtin "getset_descriptor.__get__"))),
  decide (PySem.W.takesIn K (.builtin "object.__class__") = some true)]
def ck (K : PySem.W.Frag) : Bool := ([(ck_0 K).all id, (ck_1 K).all id, (ck_2 K).all id, (ck_3 K).all id, (ck_4 K).all id, (ck_5 K).all id, (ck_6 K).all id, (ck_7 K).all id, (ck_8 K).all id, (ck_9 K).all id, (ck_10 K).all id, (ck_11 K).all id, (ck_12 K).all id, (ck_13 K).all id, (ck_14 K).all id, (ck_15 K).all id]).all id
def fnL : List He.DefD := [⟨("divisor", none), "divisor", "divisor", defArgs (top 18), defBody (top 18), defScope (top 18), [], []⟩,
  ⟨("lowest", none), "lowest", "lowest", defArgs (top 19), defBody (top 19), defScope (top 19), [], []⟩,
  ⟨("told_by", none), "told_by", "told_by", defArgs (top 20), defBody (top 20), defScope (top 20), [], []⟩,
  ⟨("NoPoly", some "__init__"), "__init__", "NoPoly.__init__", defArgs (inClass (top 2) 0), defBody (inClass (top 2) 0), defScope (inClass (top 2) 0), [.non], []⟩,
  ⟨("must_poly", none), "must_poly", "must_poly", defArgs (top 21), defBody (top 21), defScope (top 21), [], []⟩,
  ⟨("fraction_text", none), "fraction_text", "fraction_text", defArgs (top 23), defBody (top 23), defScope (top 23), [], []⟩,
  ⟨("product_text", none), "product_text", "product_text", defArgs (top 24), defBody (top 24), defScope (top 24), [], []⟩,
  ⟨("share_text", none), "share_text", "share_text", defArgs (top 25), defBody (top 25), defScope (top 25), [], []⟩,
  ⟨("sum_text", none), "sum_text", "sum_text", defArgs (top 26), defBody (top 26), defScope (top 26), [], []⟩,
  ⟨("must", none), "must", "must", defArgs (top 30), defBody (top 30), defScope (top 30), [], []⟩,
  ⟨("whole_in", none), "whole_in", "whole_in", defArgs (top 31), defBody (top 31), defScope (top 31), [], []⟩,
  ⟨("pieces_of", none), "pieces_of", "pieces_of", defArgs (top 32), defBody (top 32), defScope (top 32), [], []⟩,
  ⟨("fraction_in", none), "fraction_in", "fraction_in", defArgs (top 33), defBody (top 33), defScope (top 33), [], []⟩,
  ⟨("parted", none), "parted", "parted", defArgs (top 34), defBody (top 34), defScope (top 34), [], []⟩,
  ⟨("powers_text", none), "powers_text", "powers_text", defArgs (top 35), defBody (top 35), defScope (top 35), [], []⟩,
  ⟨("text_of", none), "text_of", "text_of", defArgs (top 36), defBody (top 36), defScope (top 36), [], []⟩,
  ⟨("power_in", none), "power_in", "power_in", defArgs (top 37), defBody (top 37), defScope (top 37), [], []⟩,
  ⟨("read_polynomial", none), "read_polynomial", "read_polynomial", defArgs (top 38), defBody (top 38), defScope (top 38), [], []⟩,
  ⟨("_law_at", none), "_law_at", "_law_at", defArgs (top 40), defBody (top 40), defScope (top 40), [], []⟩,
  ⟨("_law_mixed", none), "_law_mixed", "_law_mixed", defArgs (top 41), defBody (top 41), defScope (top 41), [], []⟩,
  ⟨("_law_purse", none), "_law_purse", "_law_purse", defArgs (top 42), defBody (top 42), defScope (top 42), [], []⟩,
  ⟨("_law_draw", none), "_law_draw", "_law_draw", defArgs (top 43), defBody (top 43), defScope (top 43), [], []⟩,
  ⟨("_law_class", none), "_law_class", "_law_class", defArgs (top 44), defBody (top 44), defScope (top 44), [], []⟩,
  ⟨("_law_alike_roots", none), "_law_alike_roots", "_law_alike_roots", defArgs (top 48), defBody (top 48), defScope (top 48), [], []⟩,
  ⟨("_law_fault", none), "_law_fault", "_law_fault", defArgs (top 49), defBody (top 49), defScope (top 49), [], []⟩,
  ⟨("_law_powers", none), "_law_powers", "_law_powers", defArgs (top 50), defBody (top 50), defScope (top 50), [], []⟩,
  ⟨("_law_piece", none), "_law_piece", "_law_piece", defArgs (top 51), defBody (top 51), defScope (top 51), [], []⟩,
  ⟨("_law_read", none), "_law_read", "_law_read", defArgs (top 52), defBody (top 52), defScope (top 52), [], []⟩,
  ⟨("_law_asked", none), "_law_asked", "_law_asked", defArgs (top 53), defBody (top 53), defScope (top 53), [], []⟩,
  ⟨("_law_list", none), "_law_list", "_law_list", defArgs (top 54), defBody (top 54), defScope (top 54), [], []⟩,
  ⟨("_law_bent", none), "_law_bent", "_law_bent", defArgs (top 55), defBody (top 55), defScope (top 55), [], []⟩,
  ⟨("law", none), "law", "law", defArgs (top 56), defBody (top 56), defScope (top 56), [], []⟩]
def names : List PySem.Str := (["__name__", "RootError", "NoPoly", "NoMove", "NoName", "Twice", "NoOver", "NoNumber", "NoHouse", "NoLetter", "NoCount", "NoWord", "Full", "NoDeed", "NoText", "NoLine", "MOST", "divisor", "lowest", "told_by", "must_poly", "fraction_text", "product_text", "share_text", "sum_text", "FIGURES", "MOST_FIGURES", "must", "whole_in", "pieces_of"] : List PySem.Str) ++ (["fraction_in", "parted", "powers_text", "text_of", "power_in", "read_polynomial", "_law_at", "_law_mixed", "_law_purse", "_law_draw", "_law_class", "_law_polynomial", "_law_shares", "_law_number", "_law_alike_roots", "_law_fault", "_law_powers", "_law_piece", "_law_read", "_law_asked", "_law_list", "_law_bent"] : List PySem.Str)
def adrs : List Addr := ([3, 6, 4, 24, 45, 65, 85, 106, 119, 132, 145, 157, 169, 181, 193, 205, 217, 229, 238, 245, 252, 259, 266, 273, 280, 287, 294, 299, 306, 313] : List Addr) ++ ([320, 327, 332, 339, 344, 351, 358, 365, 372, 377, 384, 391, 398, 405, 410, 417, 422, 429, 436, 441, 448, 455, 0, 23, 44, 64, 84, 105, 118, 131] : List Addr) ++ ([144, 156, 168, 180, 192, 204, 216, 228, 237, 244, 251, 258, 265, 272, 279, 286, 293, 298, 305, 312, 319, 326, 331, 338, 343, 350, 357, 364, 371, 376] : List Addr) ++ ([383, 390, 397, 404, 409, 416, 421, 428, 435, 440, 447, 454, 22, 25, 42, 43, 62, 63, 82, 83, 86, 103, 104, 107, 117, 120, 130, 133, 143, 155] : List Addr) ++ ([167, 179, 191, 203, 215, 227, 232, 233, 234, 235, 236, 239, 240, 241, 242, 243, 246, 247, 248, 249, 250, 253, 254, 255, 256, 257, 260, 261, 262, 263] : List Addr) ++ ([264, 267, 268, 269, 270, 271, 274, 275, 276, 277, 278, 281, 282, 283, 284, 285, 288, 289, 290, 291, 292, 295, 296, 297, 300, 301, 302, 303, 304, 307] : List Addr) ++ ([308, 309, 310, 311, 314, 315, 316, 317, 318, 321, 322, 323, 324, 325, 328, 329, 330, 333, 334, 335, 336, 337, 340, 341, 342, 345, 346, 347, 348, 349] : List Addr) ++ ([352, 353, 354, 355, 356, 359, 360, 361, 362, 363, 366, 367, 368, 369, 370, 373, 374, 375, 378, 379, 380, 381, 382, 385, 386, 387, 388, 389, 392, 393] : List Addr) ++ ([394, 395, 396, 399, 400, 401, 402, 403, 406, 407, 408, 411, 412, 413, 414, 415, 418, 419, 420, 423, 424, 425, 426, 427, 430, 431, 432, 433, 434, 437] : List Addr) ++ ([438, 439, 442, 443, 444, 445, 446, 449, 450, 451, 452, 453, 41, 35, 61, 55, 81, 75, 102, 96, 36, 37, 38, 39, 40, 56, 57, 58, 59, 60] : List Addr) ++ ([76, 77, 78, 79, 80, 97, 98, 99, 100, 101, 2] : List Addr)
abbrev hk : PySem.W.Hook := hookM adrs ck fnL
def ob (s : PySem.W.SharedT) : AlM := obsMG adrs ck fnL (HandSHeadRun.getT s)
theorem ob_eq (s : PySem.W.SharedT) : ob s = hk.obs s.abs := obsMG_eq (HandSHeadRun.getT_eq s)
set_option maxHeartbeats 0 in
theorem run (w : World) : HandSHeadRun.RunEq (PySem.W.OpenLaw.row PySem.Challenge.rw_rootmoves_k79_polynomials_as_texts) (PySem.W.view (PySem.W.OpenLaw.row PySem.Challenge.rw_rootmoves_k79_polynomials_as_texts).prog [56]) hk ob 20000 names w := by
  intro os
  kernel_rfl
end My
set_option Elab.async false
set_option linter.all false
set_option maxRecDepth 100000
set_option maxHeartbeats 4000000
/-! ### own rules over the hand layer -/
namespace My
open PySem PySem.Spec PyProof.Rows L2
section
variable {X : Cx}
def CFd (_ j : Int) : Prop := j ≠ 0 ∧ j.natAbs.log2 < 9000
theorem op_fdivA : OpR X (binaryOp .FloorDiv) (rI CFd fun i j => .int (i.fdiv j)) := opI fun _ _ _ _ _ _ _ hc q => floordiv_int hc.1 q (.inl (PyProof.noPylong_of_log2 hc.2))
def CPw (i j : Int) : Prop := 0 ≤ j ∧ (Builtin.Int.intBits i : Int) * j ≤ 2 ^ 27
theorem op_powW : OpR X (binaryOp .Pow) (rI CPw fun i j => .int (i ^ j.toNat)) := opI fun _ _ _ _ _ _ _ hc q => pow_int hc.1 hc.2 q
end
section
variable {X : Cx}
theorem ip_fdiv : PIp X .FloorDiv (rI CDivW fun i j => .int (i / j)) := iop_fdivW
theorem ip_mul : PIp X .Mult (rI CMul fun i j => .int (i * j)) := iop_mul
end
theorem ite_tt {A B : Prop} {c : Bool} (hc : c = true) (h : A) : if c = true then A else B := by rw [if_pos hc]; exact h
theorem ite_ff {A B : Prop} {c : Bool} (hc : c = false) (h : B) : if c = true then A else B := by rw [hc, if_neg Bool.false_ne_true]; exact h
/-! ### calls by keywords alone -/
structure KCal (P : Program) (w : World) (K : PySem.W.Frag) (mg : Str → Option Value) (base : Heap) (k : Nat) (x : Str) (sp : Sp) (n : Nat) (ks : List Str) (gV : List V → List V → List V) : Prop where
  ex : ∃ (f : Addr) (fd : FuncData) (ps : List Str) (g : List Value → List Value → List Value), FnOk P w K mg base CX0 k f fd ps sp ∧ mg x = some (.ref f) ∧ PySem.W.keepIn K (.ref f) = true ∧
    (∀ (s : Shared) (us ws : List Value), K.In s.heap → us.length = n → ws.length = ks.length → BindsTo s fd ⟨us, ks.zip ws⟩ (ps.zip (g us ws))) ∧
    (∀ {vs : List V} {us : List Value} {zs : List V} {ws : List Value}, Vals vs us → Vals zs ws → Vals (gV vs zs) (g us ws))
def tCk (sp : Sp) (n m : Nat) (gV : List V → List V → List V) (E : XK) (t tk : TA) : TE := fun σ H Q => t σ H fun vs H1 => tk σ H1 fun zs H2 => vs.length = n ∧ zs.length = m ∧ sp (gV vs zs) H2 Q E
section
variable {X : Cx} {k j n : Nat} {x : Str} {ks : List Str} {sp : Sp} {gV : List V → List V → List V} {p pos : Pos} {e : Expr} {es : List Expr} {kws : List Keyword} {t tk : TA}
theorem run_ck {pins : List (Addr × Obj)} {σ : L2.St} {H : Hp} {s : Shared} {Q : VK} {us ws : List Value} {vs zs : List V} {f : Addr} {fd : FuncData} {ps : List Str} {g : List Value → List Value → List Value}
    (F : FnOk X.prog X.w X.K X.mg X.base CX0 k f fd ps sp) (hr : Room k X.A)
    (to : ∀ (s : Shared) (us ws : List Value), X.K.In s.heap → us.length = n → ws.length = ks.length → BindsTo s fd ⟨us, ks.zip ws⟩ (ps.zip (g us ws)))
    (rel : ∀ {vs : List V} {us : List Value} {zs : List V} {ws : List Value}, Vals vs us → Vals zs ws → Vals (gV vs zs) (g us ws))
    (I : Inv X pins σ H s) (r : Vals vs us) (rz : Vals zs ws) (l1 : vs.length = n) (l2 : zs.length = ks.length) (h : sp (gV vs zs) H Q E0) : wpAny (model X.prog X.w) X.A (call (.ref f) us (ks.zip ws)) (EP X pins σ Q) X.xe s := by
  have r2 := rel r rz
  refine wpAny_call (codeAny_mono (F.run X.A X.stack s H ⟨us, ks.zip ws⟩ (g us ws) (gV vs zs) Q E0 hr I.env0 (to s us ws I.kIn (by rw [← r.length]; exact l1) (by rw [← rz.length]; exact l2)) r2 h) fun r s' hq => ?_)
  cases r with
  | error e => exact hq.elim
  | ok fl =>
    cases fl with
    | ret u => exact I.after hq
    | next => exact False.elim hq
    | brk => exact False.elim hq
    | cont => exact False.elim hq
theorem pe_ck0 (c : KCal X.prog X.w X.K X.mg X.base k x sp 0 ks gV) (hr : Room j X.A) (hk : k ≤ j) (hg : Gl X x) (hkw : PK X kws tk)
    (hall : (backToKw pos (keywordEach kws X.env)).all (·.1.isSome) = true := by rfl) (hks : (backToKw pos (keywordEach kws X.env)).filterMap (·.1) = ks := by rfl) (hdb : (x == ("__debug__" : Str)) = false := by decide)
    (hpl : ((backTo pos (starEach [] X.env)).any (·.1) || (backToKw pos (keywordEach kws X.env)).any (·.1.isNone)) = false := by rfl) :
    PE X (.Call (.Name x p) [] kws pos) (tCk sp 0 ks.length gV E0 tNil tk) := by
  obtain ⟨f, fd, ps, g, F, hm, kp, to, rel⟩ := c.ex
  refine ⟨fun pins s σ H Q I h => ?_⟩
  refine wpAny_Call_Name_kw (ld_glob I hg hm ?_ hdb)
  refine PySem.W.callWith_KW0 (h₀ := X.base) I.ok.mod.kin kp hall ?_ hpl
  refine thn (hkw.run pos pins s σ H _ I h) fun ws s2 ⟨zs, H2, I2, rz, l1, l2, q2⟩ => ⟨I2.kIn, ?_⟩
  rw [hks]
  exact run_ck (us := []) (vs := []) F (hr.mono hk) to rel I2 .nil rz rfl l2 q2
theorem pe_ck (c : KCal X.prog X.w X.K X.mg X.base k x sp n ks gV) (hr : Room j X.A) (hk : k ≤ j) (hg : Gl X x) (ha : PA X (e :: es) t) (hkw : PK X kws tk)
    (hall : (backToKw pos (keywordEach kws X.env)).all (·.1.isSome) = true := by rfl) (hks : (backToKw pos (keywordEach kws X.env)).filterMap (·.1) = ks := by rfl) (hdb : (x == ("__debug__" : Str)) = false := by decide)
    (he : starEach (e :: es) X.env = (false, eval e X.env) :: starEach es X.env := by rfl) (hpl : ((backTo pos (starEach (e :: es) X.env)).any (·.1) || (backToKw pos (keywordEach kws X.env)).any (·.1.isNone)) = false := by rfl) :
    PE X (.Call (.Name x p) (e :: es) kws pos) (tCk sp n ks.length gV E0 t tk) := by
  obtain ⟨f, fd, ps, g, F, hm, kp, to, rel⟩ := c.ex
  refine ⟨fun pins s σ H Q I h => ?_⟩
  refine wpAny_Call_Name_kw (ld_glob I hg hm ?_ hdb)
  refine PySem.W.callWith_KW (h₀ := X.base) I.ok.mod.kin kp hall (thn (ha.run pos pins s σ H _ I h) fun us s1 ⟨vs, H1, I1, r, q⟩ => ?_) hpl he
  refine thn (hkw.run pos pins s1 σ H1 _ I1 q) fun ws s2 ⟨zs, H2, I2, rz, l1, l2, q2⟩ => ⟨I2.kIn, ?_⟩
  rw [hks]
  exact run_ck F (hr.mono hk) to rel I2 r rz l1 l2 q2
end
end My

/-! ### exceptions that are caught and kept -/
namespace My
open PySem PySem.Spec PyProof.Rows L2
/-- a caught exception that is kept: its class, its own dict -/
def ExV (cls : Value) (d : Option Addr) (a : Addr) : HO := .ext fun h => ∃ (o : Obj) (vs : Array Value), h.get? a = some o ∧ o.cls = cls ∧ o.dict = d ∧ o.data = .fields vs
section
variable {X : Cx} {pins : List (Addr × Obj)} {σ : L2.St} {H : Hp} {s : Shared}
theorem track {a : Addr} {cls : Value} {d : Option Addr} {oe : Obj} (I : Inv X pins σ H s) (he : s.heap.get? a = some oe) (hz : Zc cls d oe) (hd : ∃ vs, oe.data = .fields vs) (na : H a = none) (nL : a ≠ X.env.locals)
    (new : X.s_0.heap.get? a = none) (np : ∀ p ∈ X.pn ++ pins, p.1 ≠ a) : Inv X pins σ (upd H a (ExV cls d a)) s := by
  obtain ⟨vs, hv⟩ := hd
  have ne : ∀ {b : Addr} {o : HO}, H b = some o → b ≠ a := fun {b o} q z => by rw [z, na] at q; cases q
  refine ⟨I.ok, I.os, I.bare, ⟨I.base.keep, I.base.slot, fun b o q n hx => ?_, I.base.there, fun b xs q => ?_, fun b o u q => ?_, fun b ps q => ?_⟩, I.loc, I.cell, ?_, fun x c e => ?_, fun p hp => ?_, fun b o q => ?_, I.len⟩
  · have nb : b ≠ a := fun z => by rw [z, new] at q; cases q
    rw [upd_ne nb]
    exact I.base.free b o q n hx
  · have := I.base.tups b xs q
    rw [upd_ne (ne this)]; exact this
  · have := I.base.frzs b o u q
    rw [upd_ne (ne this)]; exact this
  · obtain ⟨m, this⟩ := I.base.tbls b ps q
    exact ⟨m, by rw [upd_ne (ne this)]; exact this⟩
  · rw [upd_ne nL.symm]; exact I.free
  · have nc : c ≠ a := fun z => by
      obtain ⟨v, o, ho, hdt⟩ := I.cell x c e
      rw [z, he] at ho
      cases ho
      rw [hv] at hdt
      cases hdt
    rw [upd_ne nc]; exact I.freeC x c e
  · obtain ⟨p1, p2, p3⟩ := I.pin p hp
    exact ⟨p1, by rw [upd_ne (np p hp)]; exact p2, p3⟩
  · by_cases hb : b = a
    · subst hb
      rw [upd_same] at q
      cases q
      exact ⟨⟨oe, vs, he, hz.1, hz.2, hv⟩, ⟨oe, he⟩, fun h1 h2 ⟨o, vs', e1, e2⟩ k => ⟨o, vs', k _ e1, e2⟩⟩
    · rw [upd_ne hb] at q
      exact (I.hok b o q).stay (fun _ _ _ z => z) (fun c z => by rw [upd_ne (ne z)]; exact z) fun c xs z => by rw [upd_ne (ne z)]; exact z
end
/-- the ends of a suite that keeps its exception: its name goes, the exception stays tracked -/
def DKeep (i : Nat) (a : Addr) (cls : Value) (d : Option Addr) (D : Ends) : Ends :=
  { nx := fun σ' H' => H' a = none → D.nx (σ'.set i none) (upd H' a (ExV cls d a)), rt := fun _ _ => False, bk := fun _ _ => False, ct := fun _ _ => False }
/-- what the clauses «except c as n: suite» wish of an exception, one after the other; n in slot i -/
def wKeep (K : PySem.W.Frag) (i : Nat) (Wout : WX) (D : Ends) : List (Value × (Addr → Value → Option Addr → TS)) → WX
  | [] => Wout
  | (c, ts) :: r => fun cls d σ H => ∃ b, PySem.W.exmOne K cls c = some b ∧ (b = true → ∀ a, H a = none → ts a cls d (DKeep i a cls d D) (σ.set i (some (.ref a))) H) ∧ (b = false → wKeep K i Wout D r cls d σ H)
inductive HdsKeep (X : Cx) (n : Str) : List ExceptHandler → List (Value × (Addr → Value → Option Addr → TS)) → Prop
  | nil : HdsKeep X n [] []
  | cons {x : Str} {c : Value} {ts : Addr → Value → Option Addr → TS} {b₀ : Stmt} {suite : List Stmt} {np pos' : Pos} {hds : List ExceptHandler} {l : List (Value × (Addr → Value → Option Addr → TS))} (hc : Names X x c)
      (hsu : ∀ (a : Addr) (oe : Obj) (cls : Value) (d : Option Addr) (pn : List (Addr × Obj)), PSs (X.suite a ((a, oe) :: pn)) (b₀ :: suite) (ts a cls d)) (r : HdsKeep X n hds l) :
      HdsKeep X n (.ExceptHandler (some (.Name x np)) (some n) (b₀ :: suite) pos' :: hds) ((c, ts) :: l)
section
variable {X : Cx} {n : Str} {i : Nat} {body : List Stmt} {h₀ : ExceptHandler} {hds : List ExceptHandler} {l : List (Value × (Addr → Value → Option Addr → TS))} {pos : Pos} {tb : WX → TS} {Wout : WX}
theorem ps_try_keep (hs : X.stack = X.env :: X.outer) (hf : X.env.frame = some X.env.locals) (hex : X.ex = []) (hN : X.N.Nodup) (hi : X.N[i]? = some n) (hln : X.env.kindOf n = some .local) (tk : Takes X Wout)
    (hb : ∀ (W : WX) (pn : List (Addr × Obj)) (xe : Value → Shared → Prop), Takes (X.tr pn xe) W → PassesOwn (model X.prog X.w) X.A X.env xe → PSs (X.tr pn xe) body (tb W))
    (hh : HdsKeep X n (h₀ :: hds) l) : PS X (.Try body (h₀ :: hds) [] [] pos) (fun D σ H => tb (wKeep X.K i Wout D l) D σ H) := by
  refine ⟨fun pins s σ H D I h => ?_⟩
  have ok := I.ok
  have hfr : X.A.frames = some (X.env :: X.outer) := by rw [ok.frames, hs]
  have hloc : Loc X.env.scope n := .inl hln
  refine wpAny_Try_except ?_
  refine wpAny_mono ((hb (wKeep X.K i Wout D l) (X.pn ++ pins) (fun e s₁ => wpAny (model X.prog X.w) X.A (noteFrame e X.env) (fun _ s₂ => wpAny (model X.prog X.w) X.A (setFlight e none) (fun _ s₃ =>
    wpAny (model X.prog X.w) X.A (handleBy e X.env (h₀ :: hds)) (SP X pins D) X.xe s₃) X.xe s₂) X.xe s₁) (fun u s' xx => ?_) PassesOwn.looking).run [] s σ H D (I.toTry _) h) (fun f s1 hsp => ?_) (fun _ _ z => z)
  · obtain ⟨a, B, sI, pins', σ', H', cls, d, rfl, J', nb, up, sky, na, os, ag, w⟩ := xx
    have J : Inv X pins σ' H' sI := J'.ofTry ok
    have sky' : Sky B (X.env :: X.outer) a (Zc cls d) X.env.locals s'.heap := by rw [← hs]; exact sky
    show wpAny (model X.prog X.w) X.A (noteFrame (.ref a) X.env) _ _ _
    refine Sky.land Zc.steady hfr hf sky' fun h3 fl3 up3 => ?_
    have J3 : Inv X pins σ' H' { s' with heap := h3 } := J.landed nb fl3.1 (up.trans up3) os ag
    obtain ⟨oe3, vs3, he3, hz3, hd3⟩ := fl3.there
    have Ba : B.get? a = none := fl3.2.1
    have nfr : a ∉ frs (X.env :: X.outer) := fun hm => by
      obtain ⟨_, o', e', hnf⟩ := (fl3.2.2.1).mem hm
      rw [he3] at e'; cases e'
      exact hnf _ hd3
    have nL : a ≠ X.env.locals := fun z => nfr (List.mem_filterMap.mpr ⟨X.env, List.mem_cons_self, by rw [hf, z]⟩)
    have nF : a ∉ X.fs := fun hm => by
      obtain ⟨e, he, q⟩ := List.mem_filterMap.mp hm
      exact nfr (List.mem_filterMap.mpr ⟨e, List.mem_cons_of_mem _ he, q⟩)
    have notI : sI.heap.get? a = none := by
      cases e : sI.heap.get? a with
      | none => rfl
      | some o =>
        have := nb a o e (by rw [hs]; exact nfr)
        rw [Ba] at this; cases this
    have new0 : X.s_0.heap.get? a = none := by
      cases e : X.s_0.heap.get? a with
      | none => rfl
      | some o =>
        obtain ⟨o', q⟩ := J.base.there a o e (by rw [hex]; simp)
        rw [notI] at q; cases q
    have np : ∀ p ∈ X.pn ++ pins, p.1 ≠ a := fun p hp z => by
      have q := (J.pin p hp).1
      rw [z, notI] at q; cases q
    have S3 := J3.suite he3 hd3 na nL nF
    have go : ∀ {hds' : List ExceptHandler} {l' : List (Value × (Addr → Value → Option Addr → TS))}, HdsKeep X n hds' l' → wKeep X.K i Wout D l' cls d σ' H' →
        wpAny (model X.prog X.w) X.A (handleBy (.ref a) X.env hds') (SP X pins D) X.xe { s' with heap := h3 } := by
      intro hds' l' hk
      induction hk with
      | nil =>
        intro w
        refine wpAny_handleBy_nil ?_
        obtain ⟨k1, k2, k3, oe, vs, T, oT, ts', he, hz, hd, h1, hr⟩ := id fl3
        unfold PySem.passOn
        refine wpAny_bind (wpAny_field he hd h1 ?_)
        rw [if_neg (show ¬ ((Value.ref T == Value.none) = true) from by simp)]
        have fin : wpAny (model X.prog X.w) X.A (setFlight (.ref a) X.env.frame) (fun _ s4 => wpAny (model X.prog X.w) X.A (throw (.ref a) : Sem Flow) (SP X pins D) X.xe s4) X.xe { s' with heap := h3 } := by
          rw [hf]
          refine HandSPX.setFlight_upZ fl3 fun h4 hh4 up4 => wpAny_throw (tk _ _ ?_)
          exact ⟨a, B, sI, pins, σ', H', cls, d, rfl, J, nb, (up.trans up3).trans up4, .inr (.inr (by rw [hs]; exact hh4)), na, os, ag, w⟩
        first
          | exact wpAny_bind (wpAny_pure (wpAny_bind fin))
          | exact wpAny_bind fin
      | @cons x c ts b₀ suite np' pos' hds2 l2 hc hsu r ih =>
        intro w
        obtain ⟨b, hb1, hyes, hno⟩ := w
        refine wpAny_handleBy_cons (codeAny_handlers_test ?_) (by intro q; cases q)
        have LT : PySem.W.Looks (model X.prog X.w) h3 (typeOf (.ref a)) cls := fun A Q E s k q => wpAny_typeOf_ref (k _ _ he3) (by rw [hz3.1]; exact q)
        have LM := PySem.W.exm_one (M := model X.prog X.w) (J3.kIn) LT hb1
        have test : ∀ {Q : Value → Shared → Prop} {E : Value → Shared → Prop}, Q c { s' with heap := h3 } → wpAny (model X.prog X.w) (X.A.mark (some (.ref a))) (eval (.Name x np') X.env) Q E { s' with heap := h3 } := fun {Q E} q => by
          obtain ⟨hg, hdbg, hm | ⟨hm, hv, hnn⟩⟩ := hc
          · exact ld_glob (X := X.suite a ((a, oe3) :: (X.pn ++ pins))) S3 hg hm q hdbg
          · exact ld_blt (X := X.suite a ((a, oe3) :: (X.pn ++ pins))) S3 hg hm hv q hnn hdbg
        refine test (LM.here ?_)
        cases b with
        | true =>
          refine codeAny_handlers_suite_as ?_
          refine HandSPX.lands_againZ fl3 fun h4 fl4 up4 => ?_
          have J4 : Inv X pins σ' H' { s' with heap := h4 } := J.landed nb fl4.1 ((up.trans up3).trans up4) os ag
          obtain ⟨oe4, vs4, he4, hz4, hd4⟩ := fl4.there
          have S4 := J4.suite he4 hd4 na nL nF
          refine store_ok (X := X.suite a ((a, oe4) :: (X.pn ++ pins))) (v := .ref a) S4 hN hi hloc rfl (fun s5 S5 => ?_) (.inr hln)
          refine wpAny_mono ((hsu a oe4 cls d (X.pn ++ pins)).run [] s5 _ H' _ S5 (hyes rfl a na)) (fun f s6 hsp => ?_) (fun _ _ z => False.elim z)
          cases f with
          | next =>
            obtain ⟨σ6, H6, S6, q6⟩ := hsp
            obtain ⟨pa, pb, _⟩ := S6.pin (a, oe4) (List.mem_append_left _ List.mem_cons_self)
            exact gone_ok (track (S6.unsuite ok) pa hz4 ⟨_, hd4⟩ pb nL new0 np) hN hi hln fun s7 J7 => ⟨_, _, J7, q6 pb⟩
          | brk =>
            obtain ⟨σ6, H6, S6, q6⟩ := hsp
            exact False.elim q6
          | cont =>
            obtain ⟨σ6, H6, S6, q6⟩ := hsp
            exact False.elim q6
          | ret u =>
            obtain ⟨v6, σ6, H6, S6, r6, q6⟩ := hsp
            exact False.elim q6
        | false =>
          show wpAny _ X.A (handleBy (.ref a) X.env hds2) _ _ _
          exact ih (hno rfl)
    exact go hh w
  · cases f with
    | next =>
      obtain ⟨σ', H', J', q⟩ := hsp
      exact wpAny_execs_nil ⟨σ', H', J'.ofTry ok, q⟩
    | brk =>
      obtain ⟨σ', H', J', q⟩ := hsp
      exact ⟨σ', H', J'.ofTry ok, q⟩
    | cont =>
      obtain ⟨σ', H', J', q⟩ := hsp
      exact ⟨σ', H', J'.ofTry ok, q⟩
    | ret u =>
      obtain ⟨v, σ', H', J', r, q⟩ := hsp
      exact ⟨v, σ', H', J'.ofTry ok, r, q⟩
end
end My

/-! ### isinstance of a kept exception, its field -/
namespace My
open PySem PySem.Spec PySem.Calls PyProof.Rows
open PySem.W in
theorem kept_class {prog : Program} {w : World} {A : Around} {E : Value → Shared → Prop} {s : Shared} {K : Frag} {x D : Addr} {ox : Obj} {od : Option Obj} {Q : Option Value → Shared → Prop} (hga : findIn K (.ref D) "__getattribute__" = some (some (.builtin "BaseException.__getattribute__"))) (hgt : findIn K (.ref D) "__getattr__" = some none)
    (hsub : subIn K (.ref D) (.type "BaseException") = some true) (hdct : hasDictIn K D = true) (ha : findIn K (.ref D) "__class__" = some (some (.builtin "object.__class__"))) (hn : specialIn K (.builtin "object.__class__") "__get__" = some (some (.builtin "getset_descriptor.__get__")))
    (htk : takesIn K (.builtin "object.__class__") = some true) (hm : mroIn K D (.type "object") = some true) (X : K.In s.heap) (I : InstAt s.heap x ox D od) (h : Q (some (.ref D)) { s with toks := s.toks + 1 }) : wpAny (model prog w) A (getAttr? (.ref x) "__class__") Q E s := by
  have hf : findObj K D od "__class__" = some (.bind (.builtin "getset_descriptor.__get__") (.builtin "object.__class__")) := by
    obtain ⟨cd, hc, _⟩ := any_some hdct
    unfold findObj
    rw [hc, Option.bind_some, ha, Option.bind_some]
    simp [hn, htk]
  obtain ⟨hp, g, d, t, os⟩ := s
  have L0 := I.type (M := model prog w)
  have L1 := looks_findIn (M := model prog w) X hga
  have L2 := looks_findIn (M := model prog w) X hgt
  have L3 := looks_find (M := model prog w) X I hf
  have sub : Looks (model prog w) hp (isInstance (.ref x) (.type "BaseException")) true := L0.andThen (looks_subIn X hsub)
  have hx0 : (false && onTheHeap (Value.builtin "BaseException.__getattribute__")) = false := rfl
  have hx2 : (Value.builtin "BaseException.__getattribute__" == Value.builtin "object.__getattribute__") = false := by decide +kernel
  have hx1 : (onTheHeap (Value.ref D) && Value.builtin "BaseException.__getattribute__" == Value.builtin "object.__getattribute__") = false := by rw [hx2]; rfl
  unfold getAttr? getAttrBy? getAttrBy
  refine wpAny_bind (wpAny_mkText (wpAny_bind (wpAny_attempt (wpAny_holding (wpAny_bind (L0.at (wpAny_bind (L1.at ?_))))))))
  show wpAny _ _ (if (onTheHeap (Value.ref D) && Value.builtin "BaseException.__getattribute__" == Value.builtin "object.__getattribute__") = true then _ else _) _ _ _
  rw [hx1, if_neg Bool.false_ne_true]
  unfold getAttrByItsOwn hookBefore
  refine wpAny_bind ?_
  rw [if_pos (show onTheHeap (Value.ref D) = true from rfl)]
  refine L2.at ?_
  refine wpAny_bind (wpAny_attempt (wpAny_holding ?_))
  unfold callGetattribute
  rw [hx0, if_neg Bool.false_ne_true]
  unfold boundAndCalled
  rw [PySem.F.excAttr_ValueError.ga.bind (.ref x)]
  refine wpAny_bind (wpAny_pure ?_)
  show wpAny _ _ (call (.builtin "BaseException.__getattribute__") [.ref x, .str "__class__" t]) _ _ _
  refine wpAny_call (codeAny_call_builtin PySem.F.excAttr_ValueError.ga.plain PySem.F.entry_bexc_ga ?_)
  refine @check_slot (model prog w) _ _ ⟨hp, g, d, t + 1, os⟩ "BaseException.__getattribute__" "BaseException" "__getattribute__" (.ref x) [.str "__class__" t] [] _ (by decide +kernel) (by decide +kernel) sub (PySem.F.args_bexc_ga (.ref x) (.str "__class__" t)) ?_
  unfold Builtin.«object.__getattribute__»
  refine wpAny_bind (wpAny_of_eq (a := ((Value.ref x : Value), [Value.str "__class__" t])) (by first | rfl | (simp only [slotArgs]; rfl)) ?_)
  refine wpAny_bind (wpAny_pure (wpAny_bind (L0.at (wpAny_bind (L3.at ?_)))))
  show wpAny _ _ (holding [Value.builtin "object.__class__"] (call (.builtin "getset_descriptor.__get__") [.builtin "object.__class__", .ref x, .ref D]) >>= ret) _ _ _
  refine wpAny_bind (wpAny_holding (wpAny_call (class_get (s := ⟨hp, g, d, t + 1, os⟩) (ox := ox) (od := od) X I hm ?_)))
  refine wpAny_pure ?_
  show wpAny _ _ (handedOut (.ref D)) _ _ _
  rw [handedOut_of (v := .ref D) rfl]
  first
    | exact wpAny_pure (wpAny_pure h)
    | exact wpAny_pure h
    | exact wpAny_pure (wpAny_bind (wpAny_pure (wpAny_pure h)))
open PySem.W in
theorem kept_kit {K : Frag} {x D : Addr} {ox : Obj} {od : Option Obj} (hga : findIn K (.ref D) "__getattribute__" = some (some (.builtin "BaseException.__getattribute__"))) (hgt : findIn K (.ref D) "__getattr__" = some none) (hsub : subIn K (.ref D) (.type "BaseException") = some true) (hdct : hasDictIn K D = true)
    (ha : findIn K (.ref D) "__class__" = some (some (.builtin "object.__class__"))) (hn : specialIn K (.builtin "object.__class__") "__get__" = some (some (.builtin "getset_descriptor.__get__"))) (htk : takesIn K (.builtin "object.__class__") = some true) (hm : mroIn K D (.type "object") = some true) :
    KitX K (.ref x) (.ref D) (fun h => InstAt h x ox D od) where
  ty := fun _ _ _ I => I.type
  it := fun _ _ X _ => by
    obtain ⟨cdD, hcD, _⟩ := any_some hdct
    unfold clsIn at hcD
    split at hcD
    · rename_i c' d' cd' sl' ho
      intro A' Q' E' s' k q
      unfold isType loadHead
      exact wpAny_bind (wpAny_loadPart (k _ _ (X _ _ ho)) (wpAny_pure q))
    · cases hcD
  ne := fun h tp dd its n sl X htp => by
    obtain ⟨cdD, hcD, _⟩ := any_some hdct
    refine Bool.eq_false_iff.mpr fun q => ?_
    have e : D = tp := Value.ref.inj (beq_iff_eq.mp q)
    subst e
    unfold clsIn at hcD
    split at hcD
    · rename_i c' d' cd' sl' ho
      have z := (X _ _ ho).symm.trans htp
      cases z
    · cases hcD
  ca := fun X I k => kept_class hga hgt hsub hdct ha hn htk hm X I k
open L2
/-- a kept exception of the class at D; its dict, if it has one, is tracked -/
def Kept (H : Hp) (a D : Addr) (d : Option Addr) : Prop := H a = some (ExV (.ref D) d a) ∧ (d = none ∨ ∃ dd fs, d = some dd ∧ H dd = some (.xd fs))
section
variable {X : Cx} {pins : List (Addr × Obj)} {σ : L2.St} {H : Hp} {s : Shared}
theorem Kept.inst {a D : Addr} {d : Option Addr} (h : Kept H a D d) (I : Inv X pins σ H s) : ∃ ox od, PySem.W.InstAt s.heap a ox D od ∧ ox.dict = d := by
  obtain ⟨hk, hd⟩ := h
  obtain ⟨⟨o, vs, ho, hc, hdict, hdat⟩, _⟩ := (show ObjOk X.prog X.w H s.heap a (ExV (.ref D) d a) from I.hok a _ hk)
  obtain ⟨oc, ood, oda, osl⟩ := o
  dsimp only at hc hdict hdat
  subst hc hdict hdat
  rcases hd with rfl | ⟨dd, fs, rfl, hdd⟩
  · exact ⟨_, none, ⟨ho, rfl, rfl, trivial⟩, rfl⟩
  · obtain ⟨mA, hns, _⟩ := (show ObjOk X.prog X.w H s.heap dd (.xd fs) from I.hok dd _ hdd)
    obtain ⟨od, ho2, _⟩ := lookIn_ns hns
    exact ⟨_, some od, ⟨ho, rfl, rfl, ho2⟩, rfl⟩
end
/-- isinstance(e, c), e kept -/
def rIsK (K : PySem.W.Frag) : List V → Hp → VK → Prop := fun xs H Q => ∃ (a D : Addr) (d : Option Addr) (c : V) (u : Value) (b : Bool), xs = [.ref a, c] ∧ Kept H a D d ∧ ExcC K D ∧ ClsV c u ∧ PySem.W.kitOne K (.ref D) u = some b ∧ Q (.bl b) H
theorem call_isK {X : Cx} : CallR X (.builtin "isinstance") (rIsK X.K) := by
  intro pins s σ H xs us Q I r h
  obtain ⟨a, D, d, c, u, b, rfl, hk, C, hc, e, q⟩ := h
  obtain ⟨u1, u2, rfl, r1, r2⟩ := vals2 r
  have e2 := hc.eq r2
  subst e2
  obtain rfl : u1 = Value.ref a := r1
  obtain ⟨ox, od, J, _⟩ := hk.inst I
  exact PySem.W.kia_one (kept_kit C.hg C.hk C.hs C.hd C.ha C.hn C.ht C.hm) I.kIn J e (fun z => nomatch z) fun tk => ⟨.bl b, H, I.tok tk, rfl, q⟩
/-- isinstance(x, c), x a value of the layer or a kept exception -/
theorem call_isA {X : Cx} : CallR X (.builtin "isinstance") (fun xs H Q => rIsi X.K xs H Q ∨ rIsK X.K xs H Q) := CallR.or call_isi call_isK
/-- e.f, e kept -/
def tKFld (K : PySem.W.Frag) (te : TE) (f : Str) : TE := fun σ H Q => te σ H fun x H1 => ∃ (a D dd : Addr) (fs : List (Str × V)) (v : V), x = .ref a ∧ H1 a = some (ExV (.ref D) (some dd) a) ∧ H1 dd = some (.xd fs) ∧ ExcC K D ∧ PySem.W.findIn K (.ref D) f = some none ∧ fs.lookup f = some v ∧ Q v H1
theorem pe_kf {X : Cx} {e : Expr} {te : TE} {f : Str} {pos : Pos} (he : PE X e te) (hb : attributeBase e f X.env (eval e X.env) = eval e X.env := by rfl) : PE X (.Attribute e f pos) (tKFld X.K te f) := by
  refine ⟨fun pins s σ H Q I h => ?_⟩
  refine attr_of hb (thn (he.run pins s σ H _ I h) fun u s1 hh => ?_)
  obtain ⟨x, H1, I1, rx, a, D, dd, fs, v, rfl, ha, hdd, C, hno, hl, q⟩ := hh
  obtain rfl : u = Value.ref a := rx
  obtain ⟨ox, od, J, hdict⟩ := Kept.inst (D := D) (d := some dd) ⟨ha, .inr ⟨dd, fs, rfl, hdd⟩⟩ I1
  have hx : ObjOk X.prog X.w H1 s1.heap dd (.xd fs) := I1.hok dd _ hdd
  obtain ⟨mA, hns, hr⟩ := hx
  obtain ⟨od2, ho2, hlk⟩ := lookIn_ns hns
  obtain ⟨w', hu, ru⟩ := RelO.some_of (v := v) (o := mA f) (by rw [← hl]; exact hr f)
  have J2 : PySem.W.InstAt s1.heap a ox D (some od2) := ⟨J.at_, J.cls, J.no, by rw [hdict]; exact ho2⟩
  exact HandSPX.exc_get I1.kIn J2 C.hg C.hk C.hs (PySem.W.findObj_own C.hd hno rfl (by rw [hlk, hu])) (handed_of ru) ⟨v, H1, I1.tok _, ru, q⟩
end My

/-! ### calls of defs that may raise -/
namespace My
open PySem PySem.Spec PyProof.Rows L2
structure CalX (P : Program) (w : World) (K : PySem.W.Frag) (mg : Str → Option Value) (base : Heap) (k : Nat) (x : Str) (sp : Sp) : Prop where
  ex : ∃ (f : Addr) (fd : FuncData) (ps : List Str), FnOk P w K mg base (L2.CX P w) k f fd ps sp ∧ mg x = some (.ref f) ∧ PySem.W.keepIn K (.ref f) = true ∧ Binds K fd ps []
structure KCalX (P : Program) (w : World) (K : PySem.W.Frag) (mg : Str → Option Value) (base : Heap) (k : Nat) (x : Str) (sp : Sp) (n : Nat) (ks : List Str) (gV : List V → List V → List V) : Prop where
  ex : ∃ (f : Addr) (fd : FuncData) (ps : List Str) (g : List Value → List Value → List Value), FnOk P w K mg base (L2.CX P w) k f fd ps sp ∧ mg x = some (.ref f) ∧ PySem.W.keepIn K (.ref f) = true ∧
    (∀ (s : Shared) (us ws : List Value), K.In s.heap → us.length = n → ws.length = ks.length → BindsTo s fd ⟨us, ks.zip ws⟩ (ps.zip (g us ws))) ∧
    (∀ {vs : List V} {us : List Value} {zs : List V} {ws : List Value}, Vals vs us → Vals zs ws → Vals (gV vs zs) (g us ws))
section
variable {X : Cx} {k j n : Nat} {x : Str} {ks : List Str} {sp : Sp} {E : L2.St → XK} {gV : List V → List V → List V} {p pos : Pos} {e : Expr} {es : List Expr} {kws : List Keyword} {t tk : TA}
/-- it raises nothing here -/
theorem pe_cX (c : CalX X.prog X.w X.K X.mg X.base k x sp) (hr : Room j X.A) (hk : k ≤ j) (hg : Gl X x) (ha : PA X (e :: es) t)
    (hdb : (x == ("__debug__" : Str)) = false := by decide) (he : starEach (e :: es) X.env = (false, eval e X.env) :: starEach es X.env := by rfl) (hpl : (backTo pos (starEach es X.env)).any (·.1) = false := by rfl) :
    PE X (.Call (.Name x p) (e :: es) [] pos) (tCall sp [] E0 t) := by
  obtain ⟨f, fd, ps, F, hm, kp, b⟩ := c.ex
  exact pe_call F (hr.mono hk) hg hm kp b .nil passL ha hdb he hpl
/-- within a try's body -/
theorem pe_cS (c : CalX X.prog X.w X.K X.mg X.base k x sp) (hr : Room j X.A) (hk : k ≤ j) (hg : Gl X x) (hx : ∀ σ, PassesAt (L2.CX X.prog X.w) X σ (E σ)) (ha : PA X (e :: es) t)
    (hdb : (x == ("__debug__" : Str)) = false := by decide) (he : starEach (e :: es) X.env = (false, eval e X.env) :: starEach es X.env := by rfl) (hpl : (backTo pos (starEach es X.env)).any (·.1) = false := by rfl) :
    PE X (.Call (.Name x p) (e :: es) [] pos) (tCallS sp E t) := by
  obtain ⟨f, fd, ps, F, hm, kp, b⟩ := c.ex
  exact pe_callS F (hr.mono hk) hg hm kp b hx ha hdb he hpl
def tCkS (sp : Sp) (n m : Nat) (gV : List V → List V → List V) (E : L2.St → XK) (t tk : TA) : TE := fun σ H Q => t σ H fun vs H1 => tk σ H1 fun zs H2 => vs.length = n ∧ zs.length = m ∧ sp (gV vs zs) H2 Q (E σ)
theorem run_ckS {pins : List (Addr × Obj)} {σ : L2.St} {H : Hp} {s : Shared} {Q : VK} {us ws : List Value} {vs zs : List V} {f : Addr} {fd : FuncData} {ps : List Str} {g : List Value → List Value → List Value} {E1 : XK}
    (F : FnOk X.prog X.w X.K X.mg X.base (L2.CX X.prog X.w) k f fd ps sp) (hr : Room k X.A)
    (to : ∀ (s : Shared) (us ws : List Value), X.K.In s.heap → us.length = n → ws.length = ks.length → BindsTo s fd ⟨us, ks.zip ws⟩ (ps.zip (g us ws)))
    (rel : ∀ {vs : List V} {us : List Value} {zs : List V} {ws : List Value}, Vals vs us → Vals zs ws → Vals (gV vs zs) (g us ws)) (hx : PassesAt (L2.CX X.prog X.w) X σ E1)
    (I : Inv X pins σ H s) (r : Vals vs us) (rz : Vals zs ws) (l1 : vs.length = n) (l2 : zs.length = ks.length) (h : sp (gV vs zs) H Q E1) : wpAny (model X.prog X.w) X.A (call (.ref f) us (ks.zip ws)) (EP X pins σ Q) X.xe s := by
  have r2 := rel r rz
  refine wpAny_call (codeAny_mono (F.run X.A X.stack s H ⟨us, ks.zip ws⟩ (g us ws) (gV vs zs) Q E1 hr I.env0 (to s us ws I.kIn (by rw [← r.length]; exact l1) (by rw [← rz.length]; exact l2)) r2 h) fun r s' hq => ?_)
  cases r with
  | error e => exact hx pins H s e s' I hq
  | ok fl =>
    cases fl with
    | ret u => exact I.after hq
    | next => exact False.elim hq
    | brk => exact False.elim hq
    | cont => exact False.elim hq
theorem pe_ck0S (c : KCalX X.prog X.w X.K X.mg X.base k x sp 0 ks gV) (hr : Room j X.A) (hk : k ≤ j) (hg : Gl X x) (hx : ∀ σ, PassesAt (L2.CX X.prog X.w) X σ (E σ)) (hkw : PK X kws tk)
    (hall : (backToKw pos (keywordEach kws X.env)).all (·.1.isSome) = true := by rfl) (hks : (backToKw pos (keywordEach kws X.env)).filterMap (·.1) = ks := by rfl) (hdb : (x == ("__debug__" : Str)) = false := by decide)
    (hpl : ((backTo pos (starEach [] X.env)).any (·.1) || (backToKw pos (keywordEach kws X.env)).any (·.1.isNone)) = false := by rfl) :
    PE X (.Call (.Name x p) [] kws pos) (tCkS sp 0 ks.length gV E tNil tk) := by
  obtain ⟨f, fd, ps, g, F, hm, kp, to, rel⟩ := c.ex
  refine ⟨fun pins s σ H Q I h => ?_⟩
  refine wpAny_Call_Name_kw (ld_glob I hg hm ?_ hdb)
  refine PySem.W.callWith_KW0 (h₀ := X.base) I.ok.mod.kin kp hall ?_ hpl
  refine thn (hkw.run pos pins s σ H _ I h) fun ws s2 ⟨zs, H2, I2, rz, l1, l2, q2⟩ => ⟨I2.kIn, ?_⟩
  rw [hks]
  exact run_ckS (us := []) (vs := []) F (hr.mono hk) to rel (hx σ) I2 .nil rz rfl l2 q2
theorem pe_ck0X (c : KCalX X.prog X.w X.K X.mg X.base k x sp 0 ks gV) (hr : Room j X.A) (hk : k ≤ j) (hg : Gl X x) (hkw : PK X kws tk)
    (hall : (backToKw pos (keywordEach kws X.env)).all (·.1.isSome) = true := by rfl) (hks : (backToKw pos (keywordEach kws X.env)).filterMap (·.1) = ks := by rfl) (hdb : (x == ("__debug__" : Str)) = false := by decide)
    (hpl : ((backTo pos (starEach [] X.env)).any (·.1) || (backToKw pos (keywordEach kws X.env)).any (·.1.isNone)) = false := by rfl) :
    PE X (.Call (.Name x p) [] kws pos) (tCkS sp 0 ks.length gV (fun _ => E0) tNil tk) := by
  exact pe_ck0S c hr hk hg (fun σ pins H s e s' I h => passL pins σ H s e s' I h) hkw hall hks hdb hpl
end
/-! ### classes of errors: what the top has written of them -/
/-- a class that stands in an except clause or behind isinstance -/
structure ClsF (K : PySem.W.Frag) (C : Addr) : Prop where
  i : PySem.W.isClsIn K C = true
  t : PySem.W.typeIn K (.ref C) = some (.type "type")
theorem kit_of_sub {K : PySem.W.Frag} {t : Value} {C : Addr} {b : Bool} (c : ClsF K C) (s : PySem.W.subIn K t (.ref C) = some b) (n : (t == Value.ref C) = false) : PySem.W.kitOne K t (.ref C) = some b := by
  have e2 : ((PySem.W.clsIn K C).isSome && PySem.W.typeIn K (.ref C) == some (.type "type")) = true := by
    rw [show (PySem.W.clsIn K C).isSome = true from c.i, c.t] <;> rfl
  show (if (t == Value.ref C) = true then some true else if ((PySem.W.clsIn K C).isSome && PySem.W.typeIn K (.ref C) == some (.type "type")) = true then PySem.W.subIn K t (.ref C) else none) = some b
  rw [if_neg (by rw [n]; exact Bool.false_ne_true), if_pos e2]
  exact s
theorem kit_self {K : PySem.W.Frag} {C : Addr} : PySem.W.kitOne K (.ref C) (.ref C) = some true := by
  show (if (Value.ref C == Value.ref C) = true then some true else _) = some true
  rw [if_pos (by simp)]
theorem kit_none {K : PySem.W.Frag} {C : Addr} (c : ClsF K C) (s : PySem.W.subIn K (.type "NoneType") (.ref C) = some false) : PySem.W.kitOne K (.type "NoneType") (.ref C) = some false := kit_of_sub c s rfl
theorem exm_of_sub {K : PySem.W.Frag} {t : Value} {C : Addr} {b : Bool} (c : ClsF K C) (be : PySem.W.subIn K (.ref C) (.type "BaseException") = some true) (s : PySem.W.subIn K t (.ref C) = some b) : PySem.W.exmOne K t (.ref C) = some b := by
  have e2 : ((PySem.W.clsIn K C).isSome && PySem.W.typeIn K (.ref C) == some (.type "type")) = true := by
    rw [show (PySem.W.clsIn K C).isSome = true from c.i, c.t] <;> rfl
  have e1 : (PySem.W.subIn K (.ref C) (.type "BaseException") == some true) = true := by rw [be] <;> rfl
  show (if (PySem.W.subIn K (.ref C) (.type "BaseException") == some true) = true then (if ((PySem.W.clsIn K C).isSome && PySem.W.typeIn K (.ref C) == some (.type "type")) = true then PySem.W.subIn K t (.ref C) else none) else none) = some b
  rw [if_pos e1, if_pos e2]
  exact s
end My

/-! ### own exception classes with an __init__: made by a keyword -/
namespace My
open PySem PySem.W PySem.Calls PyProof.Rows PySem.HandSPX
section
variable {M : Model} {A : Around} {E : Value → Shared → Prop} {h : Heap} {g : Array GenState} {d : Drawn} {t : Nat} {os : OsState}
variable {nm q : Str} {C N : Addr} {bs bm bmB : List Value} {hdct : Bool} {sn : List Str} {sub : List Value} {ab : Bool} {col : Option Bool} {dd : Option Addr} {k0 k1 k2 k3 k5 : Option Value} {B newId initId : String} {kn : Str} {kv : Value}
theorem check_new_ownK (F : ExcBaseFacts B newId initId bmB) (hT : ∀ X : String, bm.contains (.type X) = bmB.contains (.type X)) {rest : List Value} {Q : Unit → Shared → Prop}
    (hC : h.get? C = some (excClassObj nm q C N bs bm hdct sn sub ab col dd k0 k1 k2 k3 k5 newId)) (hq : Q () ⟨h, g, d, t, os⟩) : wpAny M A (checkBuiltinCall newId ⟨.ref C :: rest, [(kn, kv)]⟩) Q E ⟨h, g, d, t, os⟩ := by
  have hcont : (Value.ref C :: bm).contains (.type B) = true := by rw [List.contains_cons, hT, F.hasB, Bool.or_true]
  have hstar := F.noStar
  simp only [checkBuiltinCall, F.newKind, F.newSplit, F.newRow]
  repeat (first | refine wpAny_loadPart_at hC ?_ | (refine wpAny_isSubtype_exc hC ?_; rw [hcont]) | refine wpAny_staticBase_exc hC ?_ | refine wpAny_madeBy_exc hC ?_ | simp only [bne_self_eq_false, Bool.false_eq_true, if_false] | wp_step)
  exact hq
end
section
variable {prog : Program} {w : World} {A : Around} {E : Value → Shared → Prop} {R : Result → Shared → Prop} {h : Heap} {g : Array GenState} {d : Drawn} {t : Nat} {os : OsState}
variable {nm q : Str} {C N : Addr} {bs bm bmB : List Value} {hdct : Bool} {sn : List Str} {sub : List Value} {ab : Bool} {col : Option Bool} {dd : Option Addr} {k0 k1 k2 k3 k5 : Option Value} {B newId initId : String} {kn : Str} {kv : Value}
theorem new_ownK (F : ExcBaseFacts B newId initId bmB) (hT : ∀ X : String, bm.contains (.type X) = bmB.contains (.type X)) {rest : List Value}
    (hC : h.get? C = some (excClassObj nm q C N bs bm hdct sn sub ab col dd k0 k1 k2 k3 k5 newId))
    (hq : R (.ok (.ret (.ref (h.objs.size + 1)))) ⟨(h.push { cls := .type "tuple", data := .seq rest.toArray }).push
      { cls := .ref C, data := .fields #[.ref h.objs.size, .none, .none, .none, .bool false, .none] }, g, d, t, os⟩) (hrest : rest.length ≤ sizeLine) :
    codeAny (model prog w) A (.builtin newId ⟨.ref C :: rest, [(kn, kv)]⟩) R ⟨h, g, d, t, os⟩ := by
  have hends := F.ends
  have hcB : (Value.ref C :: bm).contains (.type B) = true := by rw [List.contains_cons, hT, F.hasB, Bool.or_true]
  have hcA : (Value.ref C :: bm).contains (.type "AttributeError") = false := by rw [List.contains_cons, hT, F.noAttr]; rfl
  have hcN : (Value.ref C :: bm).contains (.type "NameError") = false := by rw [List.contains_cons, hT, F.noName]; rfl
  refine codeAny_builtinAt F.entry ?_
  unfold Builtin.«BaseException.__new__»
  refine PySem.wpAt_bind ?_
  show PySem.wpAt _ _ _ (stack >>= _) _ _ _
  refine PySem.wpAt_bind (PySem.wpAt_stack fun p below => PySem.wpAt_of_wpAny ?_)
  wp_walk
  refine PySem.wpAt_of_wpAny ?_
  rw [F.owner]
  repeat (first | with_reducible refine wpAny_madeHere_exc F.canon hC ?_ | with_reducible refine wpAny_loadPart_at hC ?_ | (with_reducible refine wpAny_isSubtype_exc hC ?_; first | rw [hcB] | rw [hcA] | rw [hcN]) | wp_step)
  show R _ _
  rw [Heap.size_push]
  exact hq
theorem type_call_ownK (F : ExcBaseFacts B newId initId bmB) (hT : ∀ X : String, bm.contains (.type X) = bmB.contains (.type X)) {rest : List Value} {fI : Addr} {Q : Fin → Shared → Prop}
    (hC : h.get? C = some (excClassObj nm q C N bs bm hdct sn sub ab col dd k0 k1 k2 k3 k5 newId))
    (hi : W.Looks (model prog w) h (typeLookup (.ref C) "__init__") (some (.ref fI))) (hb : ∀ self, W.Looks (model prog w) h (bindSpecial (.ref fI) self) (.ref fI, [self])) (hrest : rest.length ≤ sizeLine)
    (hq : codeAny (model prog w) A (.call (.ref fI) ⟨.ref (h.objs.size + 1) :: rest, [(kn, kv)]⟩)
      (fun r s' => match r with | .ok (.ret v) => v = .none ∧ Q (.done (.ret (.ref (h.objs.size + 1)))) s' | .ok _ => False | .error e => E e s')
      ⟨(h.push (W.kdv_tup rest)).push (excO C h.objs.size), g, d, t, os⟩) :
    wpAny (model prog w) A (Builtin.«type.__call__» ⟨.ref C :: rest, [(kn, kv)]⟩) Q E ⟨h, g, d, t, os⟩ := by
  repeat (first | with_reducible refine wpAny_loadPart_at hC ?_ | with_reducible refine wpAny_madeBy_exc hC ?_ | wp_step)
  refine codeAny_call_builtin_code (Code.quiet_builtin _ F.quiet) (check_new_ownK F hT hC ?_)
  refine new_ownK F hT hC ?_ hrest
  show wpAny _ _ _ _ _ _
  have k : ∀ b o, h.get? b = some o → ((h.push (W.kdv_tup rest)).push (excO C h.objs.size)).get? b = some o := fun b o e => Heap.get?_push_of_some _ (Heap.get?_push_of_some _ e)
  have hC₁ := k _ _ hC
  have hget : ((h.push (W.kdv_tup rest)).push (excO C h.objs.size)).get? (h.objs.size + 1) = some (excO C h.objs.size) := by heap_get
  have hcC : (Value.ref C :: bm).contains (.ref C) = true := by simp
  have i1 := hi.keeps k
  have b1 := (hb (.ref (h.objs.size + 1))).keeps k
  unfold isInstance
  repeat (first | with_reducible refine wpAny_loadPart_at hget ?_ | (with_reducible refine wpAny_isSubtype_exc hC₁ ?_; rw [hcC]) | wp_step)
  show wpAny _ _ (typeLookup (.ref C) _) _ _ _
  refine i1.at ?_
  refine wpAny_holding (wpAny_bind (b1.at ?_))
  refine wpAny_bind (wpAny_call (codeAny_mono hq fun r s' z => ?_))
  rcases r with e | (v | _ | _ | _) <;> first | exact z | exact z.elim | skip
  obtain ⟨rfl, z⟩ := z
  first
    | exact wpAny_pure (wpAny_pure z)
    | (wp_walk; exact z)
theorem check_type_call_subK {M : Model} {rest : List Value} {E : Value → Shared → Prop} {Q : Unit → Shared → Prop} (hC : h.get? C = some (excClassObj nm q C N bs bm hdct sn sub ab col dd k0 k1 k2 k3 k5 newId))
    (hq : Q () ⟨h, g, d, t, os⟩) : wpAny M A (checkBuiltinCall "type.__call__" ⟨.ref C :: rest, [(kn, kv)]⟩) Q E ⟨h, g, d, t, os⟩ := by
  have f3 := tc_sub
  have hT : (⟨h, g, d, t, os⟩ : Shared).TypeIs (.ref C) "type" := ⟨_, hC, rfl⟩
  simp only [checkBuiltinCall, tc_kind, tc_split]
  repeat (any_goals (first | assumption | with_reducible refine wpAny_loadPart_at hC ?_ | with_reducible refine wpAny_onRaise ?_ | with_reducible refine wpAny_map ?_ | wp_step))
theorem call_ownK (F : ExcBaseFacts B newId initId bmB) (hT : ∀ X : String, bm.contains (.type X) = bmB.contains (.type X)) {rest : List Value} {fI : Addr}
    (hC : h.get? C = some (excClassObj nm q C N bs bm hdct sn sub ab col dd k0 k1 k2 k3 k5 newId))
    (hi : W.Looks (model prog w) h (typeLookup (.ref C) "__init__") (some (.ref fI))) (hb : ∀ self, W.Looks (model prog w) h (bindSpecial (.ref fI) self) (.ref fI, [self])) (hrest : rest.length ≤ sizeLine)
    (hq : codeAny (model prog w) (A.under (.builtin "type.__call__" ⟨.ref C :: rest, [(kn, kv)]⟩)) (.call (.ref fI) ⟨.ref (h.objs.size + 1) :: rest, [(kn, kv)]⟩) (W.InitBack (h.objs.size + 1) R)
      ⟨(h.push (W.kdv_tup rest)).push (excO C h.objs.size), g, d, t, os⟩) :
    codeAny (model prog w) A (.call (.ref C) ⟨rest, [(kn, kv)]⟩) R ⟨h, g, d, t, os⟩ := by
  have f1 := tc_lookup
  have f2 := tc_bind (.ref C)
  have hTy : (⟨h, g, d, t, os⟩ : Shared).TypeIs (.ref C) "type" := ⟨_, hC, rfl⟩
  refine codeAny_of_tree ?_
  show wpAny _ _ (callAny (.ref C) _) _ _ _
  repeat (any_goals (first | assumption | with_reducible refine wpAny_loadPart_at hC ?_ | wp_step))
  refine ⟨rfl, ?_⟩
  refine codeAny_call_builtin_at (Code.quiet_builtin _ (by decide +kernel)) entry_typeCall (check_type_call_subK hC (type_call_ownK F hT hC hi hb hrest ?_))
  refine codeAny_mono hq fun r s' z => ?_
  rcases r with e | (v | _ | _ | _) <;> exact z
end
end My

namespace My
open PySem PySem.Spec PyProof.Rows L2
/-- K(self, ..) of an own class whose __init__ is a builtin's -/
structure Ini (K : PySem.W.Frag) (R : Addr) : Prop where
  r : PySem.W.readsIn (mc := .type "type") K R = true
  f : PySem.W.findCls K (.ref R) (.type "type") "__init__" = some (.val (.builtin "ValueError.__init__"))
  g : PySem.W.specialIn K (.ref R) "__getattribute__" = some (some (.builtin "type.__getattribute__"))
section
variable {X : Cx} {e : Expr} {es : List Expr} {ta : TA} {x : Str} {p p' p1 p2 pos : Pos}
theorem pe_reinit {R : Addr} {pl : Sem Bool} (hg : Gl X x) (hm : X.mg x = some (.ref R)) (hi : Ini X.K R) (ha : PA X (e :: es) ta)
    (hc : eval (.Call (.Attribute (.Name x p1) "__init__" p2) (e :: es) [] pos) X.env = (do
      let ov ← eval (.Name x p1) X.env
      standAt p2.atName
      let (f, first) ← holding [ov] (getMethod ov "__init__" pl)
      callWith pos f first (backTo pos (starEach (e :: es) X.env)) (backToKw pos (keywordEach [] X.env))) := by rfl)
    (hdb : (x == ("__debug__" : Str)) = false := by decide)
    (he : starEach (e :: es) X.env = (false, eval e X.env) :: starEach es X.env := by rfl) (hpl : (backTo pos (starEach es X.env)).any (·.1) = false := by rfl) :
    PE X (.Call (.Attribute (.Name x p1) "__init__" p2) (e :: es) [] pos) (tVeI X.K ta) := by
  refine ⟨fun pins s σ H Q I h => ?_⟩
  refine PySem.W.methodCall_KW (ld_glob I hg hm ?_ hdb) hc
  refine PySem.W.method_cls I.kIn hi.g ?_
  refine PySem.W.cls_value I.kIn hi.r hi.f (by decide +kernel) ?_
  show wpAny _ _ (callWith pos (Value.builtin "ValueError.__init__") [] (backTo pos (starEach (e :: es) X.env)) []) _ _ _
  refine PyProof.Rows.callWith_method1 (thn (ha.run pos pins _ σ H _ (I.tok _) h) fun us s1 ⟨vs, H1, I1, r1, a, C, ws, ev, hl, T, ea, q⟩ => ?_) he hpl
  subst ev
  cases r1 with
  | @cons _ u0 _ ur ra rw' =>
    obtain rfl : u0 = Value.ref a := ra
    have hlen : ur.length ≤ sizeLine := by
      rw [← Paired.length rw', sizeLine_eq]
      omega
    exact oinit_ok T I1 ea hlen fun s' J => ⟨.non, H1, J, rfl, q⟩
/-- what is left of C(..), C's own __init__ kept sp: all from sp's answer on -/
def MkEnd (C : Addr) (H1 : Hp) (a : Addr) (Q : XK) : VK := fun v H2 => v = .non ∧ ∃ (d : Addr) (fs : List (Str × V)), H2 a = some (exo a C (some d)) ∧ H2 d = some (exd d fs) ∧ H1 d = none ∧ Q (.ref C) (some d) (upd (del H2 a) d (.xd fs))
theorem pmk_oex0 {CX : CXT} {x : Str} {C fI : Addr} {k : Nat} {fd : FuncData} {ps : List Str} {sp : Sp} {ds : List Value} {dvs : List V} (T : OexC X.K C) (iC : PySem.W.findIn X.K (.ref C) "__init__" = some (some (.ref fI))) (tI : PySem.W.typeIn X.K (.ref fI) = some (.type "function"))
    (F1 : FnOk X.prog X.w X.K X.mg X.base CX k fI fd ps sp) (hr : Room (k + 1) X.A) (hb : Binds X.K fd ps ds) (hd : Vals dvs ds) (hx : Passes CX X (fun _ _ _ => False)) (hg : Gl X x) (hm : X.mg x = some (.ref C))
    (hdb : (x == ("__debug__" : Str)) = false := by decide) :
    PMk X (.Call (.Name x p) [] [] pos) (fun _ H1 Q => ∀ a, H1 a = none → sp (.ref a :: dvs) (upd H1 a (exo a C none)) (MkEnd C H1 a Q) (fun _ _ _ => False)) := by
  intro pins s σ H1 Q I1 q1
  obtain ⟨nm, q, N, bs, bm, sn, sub, ab, col, dd, k0, k1, k2, k3, k5, hC, hbm⟩ := T.cls
  refine wpAny_Call_Name_kw (ld_glob I1 hg hm ?_ hdb)
  refine PySem.W.callWith_K0 I1.kIn T.kC ?_
  show wpAny _ _ (call (.ref C) []) _ _ _
  obtain ⟨hp, g, dr, tk, os⟩ := s
  have hsz : hp.objs.size ≤ hp.objs.size + 1 := Nat.le_succ _
  have hn : H1 (hp.objs.size + 1) = none := I1.hok.fresh hsz
  have hq := q1 (hp.objs.size + 1) hn
  have kk : ∀ b o, hp.get? b = some o → ((hp.push (PySem.W.kdv_tup [])).push (PySem.HandSPX.excO C hp.objs.size)).get? b = some o := fun b o e => Heap.get?_push_of_some _ (Heap.get?_push_of_some _ e)
  have hget : ((hp.push (PySem.W.kdv_tup [])).push (PySem.HandSPX.excO C hp.objs.size)).get? (hp.objs.size + 1) = some (PySem.HandSPX.excO C hp.objs.size) := by heap_get
  have I2 : Inv X pins σ (upd H1 (hp.objs.size + 1) (exo (hp.objs.size + 1) C none)) ⟨(hp.push (PySem.W.kdv_tup [])).push (PySem.HandSPX.excO C hp.objs.size), g, dr, tk, os⟩ :=
    I1.laid (t' := tk) (a := hp.objs.size + 1) (o := exo (hp.objs.size + 1) C none) (h' := (hp.push (PySem.W.kdv_tup [])).push (PySem.HandSPX.excO C hp.objs.size)) kk hsz (exo_ok hget)
  have r2 : Vals (V.ref (hp.objs.size + 1) :: dvs) (Value.ref (hp.objs.size + 1) :: ds) := .cons rfl hd
  have hl : (Value.ref (hp.objs.size + 1) :: [] ++ ds).length = ps.length := by
    have e := r2.length
    rw [F1.len _ _ _ _ hq] at e
    exact e.symm
  refine wpAny_call (PySem.HandSPX.call_own F.excBase_ValueError (fun Y => PySem.HandSPX.refsVE_contains Y bm hbm) (I1.kIn _ _ hC) (PySem.W.looks_findIn I1.kIn iC) (fun self => PySem.W.bind_fn I1.kIn self tI) (Nat.zero_le _)
    (codeAny_mono (F1.run _ X.stack _ _ ⟨[Value.ref (hp.objs.size + 1)], []⟩ (Value.ref (hp.objs.size + 1) :: ds) _ _ (fun _ _ _ => False) (hr.make C [] []) (I2.env0.make C [] []) (hb _ [Value.ref (hp.objs.size + 1)] I2.kIn hl) r2 hq) fun r s' hq' => ?_))
  cases r with
  | error er => exact hx pins σ _ _ er s' I2 hq'
  | ok fl =>
    cases fl with
    | ret u =>
      obtain ⟨v, H2, os2, bare2, un2, hok2, rv, ev, d, fs, ea, ed, hd1, q2⟩ := hq'
      subst ev
      obtain ⟨h2, g2, d2, t2, os'⟩ := s'
      exact ⟨rv, mk_end (raises_own T.exC T.tyC) I1 hsz kk un2 hok2 os2 bare2 ea ed hd1 q2⟩
    | next => exact False.elim hq'
    | brk => exact False.elim hq'
    | cont => exact False.elim hq'
theorem pmk_oexK {CX : CXT} {x kn : Str} {C fI : Addr} {k : Nat} {fd : FuncData} {ps : List Str} {sp : Sp} {kws : List Keyword} {tk : TA} {R : V → Hp → XK → Prop} (T : OexC X.K C) (iC : PySem.W.findIn X.K (.ref C) "__init__" = some (some (.ref fI))) (tI : PySem.W.typeIn X.K (.ref fI) = some (.type "function"))
    (F1 : FnOk X.prog X.w X.K X.mg X.base CX k fI fd ps sp) (hr : Room (k + 1) X.A) (hb : ∀ (s : Shared) (u v : Value), X.K.In s.heap → BindsTo s fd ⟨[u], [(kn, v)]⟩ (ps.zip [u, v])) (hx : Passes CX X (fun _ _ _ => False)) (hR : ∀ z H1 Q, R z H1 Q → ∀ a, H1 a = none → sp [.ref a, z] (upd H1 a (exo a C none)) (MkEnd C H1 a Q) (fun _ _ _ => False)) (hg : Gl X x) (hm : X.mg x = some (.ref C))
    (hkw : PK X kws tk) (hall : (backToKw pos (keywordEach kws X.env)).all (·.1.isSome) = true := by rfl) (hks : (backToKw pos (keywordEach kws X.env)).filterMap (·.1) = [kn] := by rfl) (hdb : (x == ("__debug__" : Str)) = false := by decide)
    (hpl : ((backTo pos (starEach [] X.env)).any (·.1) || (backToKw pos (keywordEach kws X.env)).any (·.1.isNone)) = false := by rfl) :
    PMk X (.Call (.Name x p) [] kws pos) (fun σ H Q => tk σ H fun zs H1 => ∃ z, zs = [z] ∧ R z H1 Q) := by
  intro pins s0 σ H0 Q I0 q0
  obtain ⟨nm, q, N, bs, bm, sn, sub, ab, col, dd, k0, k1, k2, k3, k5, hC, hbm⟩ := T.cls
  refine wpAny_Call_Name_kw (ld_glob I0 hg hm ?_ hdb)
  refine PySem.W.callWith_KW0 (h₀ := X.base) I0.ok.mod.kin T.kC hall ?_ hpl
  refine thn (hkw.run pos pins s0 σ H0 _ I0 q0) fun ws s ⟨zs, H1, I1, rz, z, ez, q1⟩ => ⟨I1.kIn, ?_⟩
  subst ez
  have q1 := hR z H1 Q q1
  cases rz with
  | @cons _ u _ ur ru rn =>
  cases rn
  rw [hks]
  show wpAny _ _ (call (.ref C) [] [(kn, u)]) _ _ _
  obtain ⟨hp, g, dr, tk, os⟩ := s
  have hsz : hp.objs.size ≤ hp.objs.size + 1 := Nat.le_succ _
  have hn : H1 (hp.objs.size + 1) = none := I1.hok.fresh hsz
  have hq := q1 (hp.objs.size + 1) hn
  have kk : ∀ b o, hp.get? b = some o → ((hp.push (PySem.W.kdv_tup [])).push (PySem.HandSPX.excO C hp.objs.size)).get? b = some o := fun b o e => Heap.get?_push_of_some _ (Heap.get?_push_of_some _ e)
  have hget : ((hp.push (PySem.W.kdv_tup [])).push (PySem.HandSPX.excO C hp.objs.size)).get? (hp.objs.size + 1) = some (PySem.HandSPX.excO C hp.objs.size) := by heap_get
  have I2 : Inv X pins σ (upd H1 (hp.objs.size + 1) (exo (hp.objs.size + 1) C none)) ⟨(hp.push (PySem.W.kdv_tup [])).push (PySem.HandSPX.excO C hp.objs.size), g, dr, tk, os⟩ :=
    I1.laid (t' := tk) (a := hp.objs.size + 1) (o := exo (hp.objs.size + 1) C none) (h' := (hp.push (PySem.W.kdv_tup [])).push (PySem.HandSPX.excO C hp.objs.size)) kk hsz (exo_ok hget)
  have r2 : Vals [V.ref (hp.objs.size + 1), z] [Value.ref (hp.objs.size + 1), u] := .cons rfl (.cons ru .nil)
  refine wpAny_call (call_ownK F.excBase_ValueError (fun Y => PySem.HandSPX.refsVE_contains Y bm hbm) (I1.kIn _ _ hC) (PySem.W.looks_findIn I1.kIn iC) (fun self => PySem.W.bind_fn I1.kIn self tI) (Nat.zero_le _)
    (codeAny_mono (F1.run _ X.stack _ _ ⟨[Value.ref (hp.objs.size + 1)], [(kn, u)]⟩ [Value.ref (hp.objs.size + 1), u] _ _ (fun _ _ _ => False) (hr.make C [] [(kn, u)]) (I2.env0.make C [] [(kn, u)]) (hb _ _ _ I2.kIn) r2 hq) fun r s' hq' => ?_))
  cases r with
  | error er => exact hx pins σ _ _ er s' I2 hq'
  | ok fl =>
    cases fl with
    | ret u =>
      obtain ⟨v, H2, os2, bare2, un2, hok2, rv, ev, d, fs, ea, ed, hd1, q2⟩ := hq'
      subst ev
      obtain ⟨h2, g2, d2, t2, os'⟩ := s'
      exact ⟨rv, mk_end (raises_own T.exC T.tyC) I1 hsz kk un2 hok2 os2 bare2 ea ed hd1 q2⟩
    | next => exact False.elim hq'
    | brk => exact False.elim hq'
    | cont => exact False.elim hq'
end
end My

namespace My
open PySem PySem.Spec PyProof.Rows L2
/-- C.__init__(self, v): the base's __init__, self.kn = v -/
def sp_Ini (K : PySem.W.Frag) (kn : Str) : Sp := fun vs H Q _ => ∃ (a C : Addr) (v : V), vs = [.ref a, v] ∧ OexC K C ∧ PySem.W.findIn K (.ref C) kn = some none ∧ H a = some (exo a C none) ∧
  ∀ dx, H dx = none → dx ≠ a → Q .non (upd (upd H dx (exd dx [(kn, v)])) a (exo a C (some dx)))
structure IniCal (P : Program) (w : World) (K : PySem.W.Frag) (mg : Str → Option Value) (base : Heap) (k : Nat) (x : Str) (C : Addr) (kn : Str) (dv : V) : Prop where
  oex : OexC K C
  hm : mg x = some (.ref C)
  no : PySem.W.findIn K (.ref C) kn = some none
  ex : ∃ (fI : Addr) (fd : FuncData) (ps : List Str) (ds : List Value), FnOk P w K mg base CX0 k fI fd ps (sp_Ini K kn) ∧ PySem.W.findIn K (.ref C) "__init__" = some (some (.ref fI)) ∧ PySem.W.typeIn K (.ref fI) = some (.type "function") ∧ Binds K fd ps ds ∧ Vals [dv] ds ∧
    ∀ (s : Shared) (u v : Value), K.In s.heap → BindsTo s fd ⟨[u], [(kn, v)]⟩ (ps.zip [u, v])
section
variable {X : Cx} {x kn : Str} {C : Addr} {k j : Nat} {dv : V} {kws : List Keyword} {tk : TA} {p pos : Pos}
theorem ini_end {K : PySem.W.Frag} {H1 : Hp} {a : Addr} {z : V} {Q : XK} {E : XK} (o : OexC K C) (no : PySem.W.findIn K (.ref C) kn = some none) (ha : H1 a = none) (q : ∀ d H', Same H1 H' → H1 d = none → H' d = some (.xd [(kn, z)]) → Q (.ref C) (some d) H') :
    sp_Ini K kn [.ref a, z] (upd H1 a (exo a C none)) (MkEnd C H1 a Q) E := by
  refine ⟨a, C, z, rfl, o, no, upd_same, fun dx n ne => ⟨rfl, dx, [(kn, z)], upd_same, ?_, ?_, ?_⟩⟩
  · rw [upd_ne ne, upd_same]
  · rw [upd_ne ne] at n; exact n
  · rw [upd_ne ne] at n
    refine q dx _ (fun b u hb => ?_) n upd_same
    rw [upd_ne (ne_of_none hb n), del_ne (ne_of_none hb ha), upd_ne (ne_of_none hb ha), upd_ne (ne_of_none hb n), upd_ne (ne_of_none hb ha)]
    exact hb
/-- C() -/
theorem pmk_np0 (c : IniCal X.prog X.w X.K X.mg X.base k x C kn dv) (hr : Room j X.A) (hk : k + 1 ≤ j) (hg : Gl X x) (hdb : (x == ("__debug__" : Str)) = false := by decide) :
    PMk X (.Call (.Name x p) [] [] pos) (fun _ H Q => ∀ d H', Same H H' → H d = none → H' d = some (.xd [(kn, dv)]) → Q (.ref C) (some d) H') := by
  obtain ⟨fI, fd, ps, ds, F, i, t, b, v, _⟩ := c.ex
  intro pins s σ H Q I q
  exact pmk_oex0 c.oex i t F (hr.mono hk) b v pass0 hg c.hm hdb pins s σ H Q I fun a ha => ini_end c.oex c.no ha q
/-- C(kn=e) -/
theorem pmk_npK (c : IniCal X.prog X.w X.K X.mg X.base k x C kn dv) (hr : Room j X.A) (hk : k + 1 ≤ j) (hg : Gl X x) (hkw : PK X kws tk)
    (hall : (backToKw pos (keywordEach kws X.env)).all (·.1.isSome) = true := by rfl) (hks : (backToKw pos (keywordEach kws X.env)).filterMap (·.1) = [kn] := by rfl) (hdb : (x == ("__debug__" : Str)) = false := by decide)
    (hpl : ((backTo pos (starEach [] X.env)).any (·.1) || (backToKw pos (keywordEach kws X.env)).any (·.1.isNone)) = false := by rfl) :
    PMk X (.Call (.Name x p) [] kws pos) (fun σ H Q => tk σ H fun zs H1 => ∃ z, zs = [z] ∧ ∀ d H', Same H1 H' → H1 d = none → H' d = some (.xd [(kn, z)]) → Q (.ref C) (some d) H') := by
  obtain ⟨fI, fd, ps, ds, F, i, t, b, v, bk⟩ := c.ex
  exact pmk_oexK c.oex i t F (hr.mono hk) bk pass0 (fun z H1 Q q a ha => ini_end c.oex c.no ha q) hg c.hm hkw hall hks hdb hpl
end
end My

/-! ### fractions, in plain Lean -/
namespace My
/-- the lowest form of a fraction: what its top and its bottom become -/
def sg (b : Int) : Int := if b < 0 then -1 else 1
def shr (t b : Int) : Int := sg b * (Int.gcd t b : Nat)
def lowT (t b : Int) : Int := t.fdiv (shr t b)
def lowB (t b : Int) : Int := b.fdiv (shr t b)
theorem gcd_pos {t b : Int} (hb : b ≠ 0) : 0 < Int.gcd t b := Int.gcd_pos_of_ne_zero_right t hb
theorem sg_sq (b : Int) : sg b * sg b = 1 := by unfold sg; split <;> rfl
theorem shr_ne {t b : Int} (hb : b ≠ 0) : shr t b ≠ 0 := by
  have h := gcd_pos (t := t) hb
  unfold shr sg
  split <;> omega
theorem shr_dvd_t (t b : Int) : shr t b ∣ t := by
  unfold shr sg
  split
  · rw [Int.neg_mul, Int.one_mul, Int.neg_dvd]; exact Int.gcd_dvd_left t b
  · rw [Int.one_mul]; exact Int.gcd_dvd_left t b
theorem shr_dvd_b (t b : Int) : shr t b ∣ b := by
  unfold shr sg
  split
  · rw [Int.neg_mul, Int.one_mul, Int.neg_dvd]; exact Int.gcd_dvd_right t b
  · rw [Int.one_mul]; exact Int.gcd_dvd_right t b
theorem low_t {t b : Int} (hb : b ≠ 0) : lowT t b * shr t b = t := by
  unfold lowT
  rw [Int.fdiv_eq_ediv_of_dvd (shr_dvd_t t b)]
  exact Int.ediv_mul_cancel (shr_dvd_t t b)
theorem low_b {t b : Int} (hb : b ≠ 0) : lowB t b * shr t b = b := by
  unfold lowB
  rw [Int.fdiv_eq_ediv_of_dvd (shr_dvd_b t b)]
  exact Int.ediv_mul_cancel (shr_dvd_b t b)
theorem shr_abs {t b : Int} : (shr t b).natAbs = Int.gcd t b := by
  unfold shr sg
  split <;> simp
theorem lowB_pos {t b : Int} (hb : b ≠ 0) : 0 < lowB t b := by
  have h := low_b (t := t) hb
  have g := gcd_pos (t := t) hb
  unfold shr sg at h
  split at h
  · rename_i hneg
    rcases Int.lt_trichotomy 0 (lowB t b) with h1 | h1 | h1
    · exact h1
    · rw [← h1] at h; simp at h; omega
    · exfalso
      have : 0 < lowB t b * (-1 * (Int.gcd t b : Int)) := by
        rw [Int.neg_mul, Int.one_mul]
        exact Int.mul_pos_of_neg_of_neg h1 (by omega)
      omega
  · rename_i hpos
    rcases Int.lt_trichotomy 0 (lowB t b) with h1 | h1 | h1
    · exact h1
    · rw [← h1] at h; simp at h; omega
    · exfalso
      have : lowB t b * (1 * (Int.gcd t b : Int)) < 0 := by
        rw [Int.one_mul]
        exact Int.mul_neg_of_neg_of_pos h1 (by omega)
      omega
theorem lowT_abs {t b : Int} (hb : b ≠ 0) : (lowT t b).natAbs ≤ t.natAbs := by
  have h := congrArg Int.natAbs (low_t (t := t) hb)
  rw [Int.natAbs_mul, shr_abs] at h
  have g := gcd_pos (t := t) hb
  rw [← h]
  exact Nat.le_mul_of_pos_right _ g
theorem lowB_abs {t b : Int} (hb : b ≠ 0) : (lowB t b).natAbs ≤ b.natAbs := by
  have h := congrArg Int.natAbs (low_b (t := t) hb)
  rw [Int.natAbs_mul, shr_abs] at h
  have g := gcd_pos (t := t) hb
  rw [← h]
  exact Nat.le_mul_of_pos_right _ g
theorem low_coprime {t b : Int} (hb : b ≠ 0) : Int.gcd (lowT t b) (lowB t b) = 1 := by
  have g := gcd_pos (t := t) hb
  have h : Int.gcd (lowT t b * shr t b) (lowB t b * shr t b) = Int.gcd t b := by rw [low_t hb, low_b hb]
  rw [Int.gcd_mul_right, shr_abs] at h
  exact Nat.eq_of_mul_eq_mul_right g (by omega)
theorem dvd_of_mul {a b d : Int} (g : Int.gcd a b = 1) (h : b ∣ a * d) : b ∣ d := by
  have h1 : b.natAbs ∣ a.natAbs * d.natAbs := by rw [← Int.natAbs_mul]; exact Int.natAbs_dvd_natAbs.mpr h
  have c : Nat.Coprime b.natAbs a.natAbs := by
    have g' : Nat.gcd a.natAbs b.natAbs = 1 := g
    show Nat.gcd b.natAbs a.natAbs = 1
    rw [Nat.gcd_comm]; exact g'
  exact Int.natAbs_dvd_natAbs.mp (c.dvd_of_dvd_mul_left h1)
/-- a lowest form is told by its worth -/
theorem lowest_eq {a b c d : Int} (hb : 0 < b) (hd : 0 < d) (g1 : Int.gcd a b = 1) (g2 : Int.gcd c d = 1) (h : a * d = c * b) : a = c ∧ b = d := by
  have e1 : b ∣ d := by
    have : b ∣ a * d := by rw [h]; exact Int.dvd_mul_left c b
    exact dvd_of_mul g1 this
  have e2 : d ∣ b := by
    have : d ∣ c * b := by rw [← h]; exact Int.dvd_mul_left a d
    exact dvd_of_mul g2 this
  have e : b = d := Int.dvd_antisymm (by omega) (by omega) e1 e2
  subst e
  exact ⟨Int.eq_of_mul_eq_mul_right (by omega) h, rfl⟩
theorem low_unique {t b c d : Int} (hb : b ≠ 0) (hd : 0 < d) (g : Int.gcd c d = 1) (h : t * d = c * b) : lowT t b = c ∧ lowB t b = d := by
  refine lowest_eq (lowB_pos hb) hd (low_coprime hb) g ?_
  have n := shr_ne (t := t) hb
  have h1 := low_t (t := t) hb
  have h2 := low_b (t := t) hb
  apply Int.eq_of_mul_eq_mul_right n
  calc lowT t b * d * shr t b = (lowT t b * shr t b) * d := by rw [Int.mul_right_comm]
    _ = t * d := by rw [h1]
    _ = c * b := h
    _ = c * (lowB t b * shr t b) := by rw [h2]
    _ = c * lowB t b * shr t b := by rw [Int.mul_assoc]
theorem low_congr {t b c d : Int} (hb : b ≠ 0) (hd : d ≠ 0) (h : t * d = c * b) : lowT t b = lowT c d ∧ lowB t b = lowB c d := by
  refine low_unique hb (lowB_pos hd) (low_coprime hd) ?_
  have n := shr_ne (t := c) hd
  apply Int.eq_of_mul_eq_mul_right n
  have h1 := low_t (t := c) hd
  have h2 := low_b (t := c) hd
  calc t * lowB c d * shr c d = t * (lowB c d * shr c d) := Int.mul_assoc _ _ _
    _ = t * d := by rw [h2]
    _ = c * b := h
    _ = (lowT c d * shr c d) * b := by rw [h1]
    _ = lowT c d * b * shr c d := by rw [Int.mul_right_comm]
theorem low_id {t b : Int} (hb : 0 < b) (g : Int.gcd t b = 1) : lowT t b = t ∧ lowB t b = b := low_unique (by omega) hb g (by rw [])
end My

/-! ### bare parts and whole roots, in plain Lean -/
namespace My
/-- no square of 2 and more divides d -/
def SF (d : Nat) : Prop := ∀ p, 2 ≤ p → ¬ p * p ∣ d
def NoDiv (f r : Nat) : Prop := ∀ p, 2 ≤ p → p < f → ¬ p ∣ r
theorem sf_one : SF 1 := fun p hp h => by
  have := Nat.le_of_dvd (by decide) h
  have : 4 ≤ p * p := Nat.mul_le_mul hp hp
  omega
theorem sq_dvd_parts {p a b : Nat} (c : Nat.Coprime a b) (h : p * p ∣ a * b) : ∃ g k, p = g * k ∧ g * g ∣ a ∧ k * k ∣ b := by
  have h1 : p ∣ a * b := Nat.dvd_trans (Nat.dvd_mul_right p p) h
  have e : p = Nat.gcd p a * Nat.gcd p b := by
    rw [← Nat.Coprime.gcd_mul p c]
    exact (Nat.gcd_eq_left h1).symm
  refine ⟨Nat.gcd p a, Nat.gcd p b, e, ?_, ?_⟩
  · have c1 : Nat.Coprime (Nat.gcd p a * Nat.gcd p a) b := by
      have : Nat.Coprime (Nat.gcd p a) b := Nat.Coprime.coprime_dvd_left (Nat.gcd_dvd_right p a) c
      exact Nat.Coprime.mul_left this this
    have d1 : Nat.gcd p a * Nat.gcd p a ∣ a * b := Nat.dvd_trans (Nat.mul_dvd_mul (Nat.gcd_dvd_left p a) (Nat.gcd_dvd_left p a)) h
    exact c1.dvd_of_dvd_mul_right d1
  · have c1 : Nat.Coprime (Nat.gcd p b * Nat.gcd p b) a := by
      have : Nat.Coprime (Nat.gcd p b) a := Nat.Coprime.coprime_dvd_left (Nat.gcd_dvd_right p b) c.symm
      exact Nat.Coprime.mul_left this this
    have d1 : Nat.gcd p b * Nat.gcd p b ∣ a * b := Nat.dvd_trans (Nat.mul_dvd_mul (Nat.gcd_dvd_left p b) (Nat.gcd_dvd_left p b)) h
    exact c1.dvd_of_dvd_mul_left d1
theorem sf_mul {a b : Nat} (c : Nat.Coprime a b) (ha : SF a) (hb : SF b) : SF (a * b) := fun p hp h => by
  obtain ⟨g, k, e, hg, hk⟩ := sq_dvd_parts c h
  have g2 : g < 2 := Nat.lt_of_not_le fun z => ha g z hg
  have k2 : k < 2 := Nat.lt_of_not_le fun z => hb k z hk
  have : g * k ≤ 1 * 1 := Nat.mul_le_mul (by omega) (by omega)
  omega
/-- the state of the search: all below f is taken out of n -/
structure BI (n f found rest : Nat) : Prop where
  eq : ∃ k, n = found * rest * (k * k)
  sf : SF found
  co : Nat.Coprime found rest
  nd : NoDiv f rest
  r0 : 0 < rest
theorem bi_start {n : Nat} (h : 0 < n) : BI n 2 1 n := ⟨⟨1, by simp⟩, sf_one, Nat.coprime_one_left n, fun p h1 h2 => by omega, h⟩
theorem bi_sq {n f found rest : Nat} (hf : 2 ≤ f) (h : BI n f found rest) (d : f * f ∣ rest) : BI n f found (rest / (f * f)) := by
  obtain ⟨q, rfl⟩ := d
  have f0 : 0 < f * f := Nat.mul_pos (by omega) (by omega)
  rw [Nat.mul_div_cancel_left q f0]
  obtain ⟨k, hk⟩ := h.eq
  refine ⟨⟨k * f, ?_⟩, h.sf, Nat.Coprime.coprime_dvd_right (Nat.dvd_mul_left q (f * f)) h.co, fun p h1 h2 z => h.nd p h1 h2 (Nat.dvd_trans z (Nat.dvd_mul_left q (f * f))), ?_⟩
  · rw [hk]
    simp only [Nat.mul_assoc, Nat.mul_left_comm, Nat.mul_comm]
  · have := h.r0
    exact Nat.pos_of_mul_pos_left this
theorem nodiv_up {f r : Nat} (h : NoDiv f r) (d : ¬ f ∣ r) : NoDiv (f + 1) r := fun p h1 h2 => by
  by_cases e : p = f
  · rw [e]; exact d
  · exact h p h1 (by omega)
/-- what divides nothing below it has no square within -/
theorem sf_of_nodiv {f r : Nat} (_hf : 2 ≤ f) (h : NoDiv f r) (d : f ∣ r) : SF f := fun p hp z => by
  have p1 : p ∣ f := Nat.dvd_trans (Nat.dvd_mul_right p p) z
  have f0 : 0 < f := by omega
  have le : p * p ≤ f := Nat.le_of_dvd f0 z
  have lt : p < f := by
    have : p * 2 ≤ p * p := Nat.mul_le_mul_left p hp
    omega
  exact h p hp lt (Nat.dvd_trans p1 d)
theorem co_of_nodiv {f r q : Nat} (h : NoDiv f r) (hr : f ∣ r) (d : ¬ f ∣ q) (f0 : 0 < f) : Nat.Coprime f q := by
  have g1 : Nat.gcd f q ∣ f := Nat.gcd_dvd_left f q
  have g2 : Nat.gcd f q ∣ q := Nat.gcd_dvd_right f q
  have gp : 0 < Nat.gcd f q := Nat.gcd_pos_of_pos_left q f0
  show Nat.gcd f q = 1
  rcases Nat.lt_or_ge (Nat.gcd f q) 2 with l | l
  · omega
  · exfalso
    have le := Nat.le_of_dvd f0 g1
    rcases Nat.lt_or_ge (Nat.gcd f q) f with l2 | l2
    · exact h _ l l2 (Nat.dvd_trans g1 hr)
    · have : Nat.gcd f q = f := by omega
      exact d (this ▸ g2)
theorem bi_one {n f found rest : Nat} (hf : 2 ≤ f) (h : BI n f found rest) (d2 : ¬ f * f ∣ rest) (d : f ∣ rest) : BI n (f + 1) (found * f) (rest / f) := by
  obtain ⟨q, rfl⟩ := d
  have f0 : 0 < f := by omega
  rw [Nat.mul_div_cancel_left q f0]
  have nq : ¬ f ∣ q := fun z => d2 (Nat.mul_dvd_mul (Nat.dvd_refl f) z)
  obtain ⟨k, hk⟩ := h.eq
  have ndq : NoDiv f q := fun p h1 h2 z => h.nd p h1 h2 (Nat.dvd_trans z (Nat.dvd_mul_left q f))
  have cf : Nat.Coprime found f := Nat.Coprime.coprime_dvd_right (Nat.dvd_mul_right f q) h.co
  have cq : Nat.Coprime found q := Nat.Coprime.coprime_dvd_right (Nat.dvd_mul_left q f) h.co
  refine ⟨⟨k, ?_⟩, sf_mul cf h.sf (sf_of_nodiv hf h.nd (Nat.dvd_mul_right f q)), Nat.Coprime.mul_left cq (co_of_nodiv h.nd (Nat.dvd_mul_right f q) nq f0), nodiv_up ndq nq, ?_⟩
  · rw [hk]
    simp only [Nat.mul_assoc]
  · have := h.r0
    exact Nat.pos_of_mul_pos_left this
theorem bi_none {n f found rest : Nat} (h : BI n f found rest) (d : ¬ f ∣ rest) : BI n (f + 1) found rest := ⟨h.eq, h.sf, h.co, nodiv_up h.nd d, h.r0⟩
/-- the law's way: f is taken out one by one -/
structure BL (n f found many size : Nat) : Prop where
  eq : ∃ k, n = found * (if many % 2 = 1 then f else 1) * size * (k * k)
  sf : SF found
  co : Nat.Coprime found size
  nd : NoDiv f size
  r0 : 0 < size
  up : 0 < many → Nat.Coprime found f ∧ ∃ r, NoDiv f r ∧ f ∣ r
theorem bl_start {n f found rest : Nat} (h : BI n f found rest) : BL n f found 0 rest := by
  obtain ⟨k, hk⟩ := h.eq
  exact ⟨⟨k, by simpa using hk⟩, h.sf, h.co, h.nd, h.r0, fun z => absurd z (by decide)⟩
theorem bl_step {n f found many size : Nat} (hf : 2 ≤ f) (h : BL n f found many size) (d : f ∣ size) : BL n f found (many + 1) (size / f) := by
  obtain ⟨q, rfl⟩ := d
  have f0 : 0 < f := by omega
  rw [Nat.mul_div_cancel_left q f0]
  obtain ⟨k, hk⟩ := h.eq
  refine ⟨?_, h.sf, Nat.Coprime.coprime_dvd_right (Nat.dvd_mul_left q f) h.co, fun p h1 h2 z => h.nd p h1 h2 (Nat.dvd_trans z (Nat.dvd_mul_left q f)), Nat.pos_of_mul_pos_left h.r0, fun _ => ⟨Nat.Coprime.coprime_dvd_right (Nat.dvd_mul_right f q) h.co, f * q, h.nd, Nat.dvd_mul_right f q⟩⟩
  by_cases e : many % 2 = 1
  · refine ⟨k * f, ?_⟩
    rw [if_neg (by omega)]
    rw [if_pos e] at hk
    rw [hk]
    simp only [Nat.mul_assoc, Nat.mul_left_comm, Nat.mul_comm, Nat.mul_one, Nat.one_mul]
  · refine ⟨k, ?_⟩
    rw [if_pos (by omega)]
    rw [if_neg e] at hk
    rw [hk]
    simp only [Nat.mul_assoc, Nat.mul_one, Nat.one_mul]
theorem bl_end {n f found many size : Nat} (hf : 2 ≤ f) (h : BL n f found many size) (d : ¬ f ∣ size) : BI n (f + 1) (if many % 2 = 1 then found * f else found) size := by
  obtain ⟨k, hk⟩ := h.eq
  by_cases e : many % 2 = 1
  · rw [if_pos e]
    rw [if_pos e] at hk
    obtain ⟨cf, r, hr, hd⟩ := h.up (by omega)
    exact ⟨⟨k, hk⟩, sf_mul cf h.sf (sf_of_nodiv hf hr hd), Nat.Coprime.mul_left h.co (co_of_nodiv hr hd d (by omega)), nodiv_up h.nd d, h.r0⟩
  · rw [if_neg e]
    rw [if_neg e, Nat.mul_one] at hk
    exact ⟨⟨k, hk⟩, h.sf, h.co, nodiv_up h.nd d, h.r0⟩
theorem sf_rest {f r : Nat} (hf : 2 ≤ f) (nd : NoDiv f r) (r0 : 0 < r) (big : r < f * f * f) (ns : ¬ ∃ m, r = m * m) : SF r := fun p hp ⟨q, hq⟩ => by
  have p1 : p ∣ r := ⟨p * q, by rw [hq, Nat.mul_assoc]⟩
  have pf : f ≤ p := Nat.le_of_not_lt fun z => nd p hp z p1
  have q0 : 0 < q := by
    rcases Nat.eq_zero_or_pos q with z | z
    · rw [z] at hq; omega
    · exact z
  have qf : q < f := by
    refine Nat.lt_of_not_le fun z => ?_
    have a1 : f * f ≤ p * p := Nat.mul_le_mul pf pf
    have a2 : f * f * f ≤ p * p * q := Nat.mul_le_mul a1 z
    omega
  have q1 : q = 1 := by
    rcases Nat.lt_or_ge q 2 with l | l
    · omega
    · exact absurd ⟨p * p, by rw [hq, Nat.mul_comm]⟩ (nd q l qf)
  exact ns ⟨p, by rw [hq, q1, Nat.mul_one]⟩
/-- b is the bare part of n -/
def Bare (b n : Int) : Prop := b ≠ 0 ∧ SF b.natAbs ∧ ∃ k : Int, n = b * (k * k)
theorem bare_abs {n f found rest : Nat} (hf : 2 ≤ f) (h : BI n f found rest) (big : rest < f * f * f) : (∀ m, rest = m * m → SF found ∧ ∃ k, n = found * (k * k)) ∧ ((¬ ∃ m, rest = m * m) → SF (found * rest) ∧ ∃ k, n = found * rest * (k * k)) := by
  obtain ⟨k, hk⟩ := h.eq
  refine ⟨fun m hm => ⟨h.sf, m * k, ?_⟩, fun ns => ⟨sf_mul h.co h.sf (sf_rest hf h.nd h.r0 big ns), k, hk⟩⟩
  rw [hk, hm]
  simp only [Nat.mul_assoc, Nat.mul_left_comm, Nat.mul_comm]
theorem sq_abs (k : Int) : (k * k).natAbs = k.natAbs * k.natAbs := Int.natAbs_mul k k
theorem bare_unique {b c n : Int} (hn : n ≠ 0) (hb : Bare b n) (hc : Bare c n) : b = c := by
  obtain ⟨b0, sb, k, ek⟩ := hb
  obtain ⟨c0, sc, m, em⟩ := hc
  have hk : k ≠ 0 := fun z => hn (by rw [ek, z]; simp)
  have hm : m ≠ 0 := fun z => hn (by rw [em, z]; simp)
  have e : b.natAbs * (k.natAbs * k.natAbs) = c.natAbs * (m.natAbs * m.natAbs) := by
    rw [← sq_abs, ← sq_abs, ← Int.natAbs_mul, ← Int.natAbs_mul, ← ek, ← em]
  have abs_eq : b.natAbs = c.natAbs := by
    have g0 : 0 < Nat.gcd k.natAbs m.natAbs := Nat.gcd_pos_of_pos_left _ (Int.natAbs_pos.mpr hk)
    obtain ⟨k', m', co, e1, e2⟩ : ∃ k' m', Nat.Coprime k' m' ∧ k.natAbs = k' * Nat.gcd k.natAbs m.natAbs ∧ m.natAbs = m' * Nat.gcd k.natAbs m.natAbs :=
      ⟨k.natAbs / Nat.gcd k.natAbs m.natAbs, m.natAbs / Nat.gcd k.natAbs m.natAbs, Nat.coprime_div_gcd_div_gcd g0, (Nat.div_mul_cancel (Nat.gcd_dvd_left _ _)).symm, (Nat.div_mul_cancel (Nat.gcd_dvd_right _ _)).symm⟩
    generalize Nat.gcd k.natAbs m.natAbs = g at *
    rw [e1, e2] at e
    have e3 : b.natAbs * (k' * k') = c.natAbs * (m' * m') := by
      apply Nat.eq_of_mul_eq_mul_right (Nat.mul_pos g0 g0)
      calc b.natAbs * (k' * k') * (g * g) = b.natAbs * (k' * g * (k' * g)) := by simp only [Nat.mul_assoc, Nat.mul_left_comm, Nat.mul_comm]
        _ = c.natAbs * (m' * g * (m' * g)) := e
        _ = c.natAbs * (m' * m') * (g * g) := by simp only [Nat.mul_assoc, Nat.mul_left_comm, Nat.mul_comm]
    have cc : Nat.Coprime (k' * k') (m' * m') := Nat.Coprime.mul_left (Nat.Coprime.mul_right co co) (Nat.Coprime.mul_right co co)
    have d1 : k' * k' ∣ c.natAbs := cc.dvd_of_dvd_mul_right ⟨b.natAbs, by rw [← e3, Nat.mul_comm]⟩
    have d2 : m' * m' ∣ b.natAbs := cc.symm.dvd_of_dvd_mul_right ⟨c.natAbs, by rw [e3, Nat.mul_comm]⟩
    have k1 : k' < 2 := Nat.lt_of_not_le fun z => sc k' z d1
    have m1 : m' < 2 := Nat.lt_of_not_le fun z => sb m' z d2
    have k0 : k' ≠ 0 := fun z => by rw [z, Nat.zero_mul] at e1; omega
    have m0 : m' ≠ 0 := fun z => by rw [z, Nat.zero_mul] at e2; omega
    have : k' = 1 := by omega
    have : m' = 1 := by omega
    subst k' m'
    simpa using e3
  -- the signs
  have pk : 0 < k * k := by
    rcases Int.lt_or_gt_of_ne hk with z | z
    · exact Int.mul_pos_of_neg_of_neg z z
    · exact Int.mul_pos z z
  have pm : 0 < m * m := by
    rcases Int.lt_or_gt_of_ne hm with z | z
    · exact Int.mul_pos_of_neg_of_neg z z
    · exact Int.mul_pos z z
  rcases Int.lt_or_gt_of_ne b0 with zb | zb
  · rcases Int.lt_or_gt_of_ne c0 with zc | zc
    · omega
    · have h1 : n < 0 := by rw [ek]; exact Int.mul_neg_of_neg_of_pos zb pk
      have h2 : 0 < n := by rw [em]; exact Int.mul_pos zc pm
      omega
  · rcases Int.lt_or_gt_of_ne c0 with zc | zc
    · have h1 : 0 < n := by rw [ek]; exact Int.mul_pos zb pk
      have h2 : n < 0 := by rw [em]; exact Int.mul_neg_of_neg_of_pos zc pm
      omega
    · omega
theorem bare_self {b n : Int} (h : Bare b n) : Bare b b := ⟨h.1, h.2.1, 1, by simp⟩
theorem bare_nine {b n : Int} (h : Bare b n) : Bare b (b * 9) := ⟨h.1, h.2.1, 3, by simp⟩
theorem sq_add (x t : Nat) : (2 * x + t) * (2 * x + t) = 4 * (x * x) + 4 * (x * t) + t * t := by
  have a : 2 * x * (2 * x) = 4 * (x * x) := Nat.mul_mul_mul_comm 2 x 2 x
  have b : 2 * x * t = 2 * (x * t) := Nat.mul_assoc 2 x t
  have c : t * (2 * x) = 2 * (x * t) := by rw [Nat.mul_left_comm, Nat.mul_comm t x]
  rw [Nat.mul_add, Nat.add_mul, Nat.add_mul]
  omega
/-! Newton's way to a whole root, from above -/
theorem newton {n x : Nat} (hx : 0 < x) : n < ((x + n / x) / 2 + 1) * ((x + n / x) / 2 + 1) := by
  have h1 : n < x * (n / x + 1) := by
    have := Nat.lt_mul_div_succ n hx
    simpa [Nat.mul_comm] using this
  generalize n / x = q at *
  have h2 : x + q + 1 ≤ 2 * ((x + q) / 2 + 1) := by omega
  generalize (x + q) / 2 + 1 = y at *
  have h3 : (x + q + 1) * (x + q + 1) ≤ (2 * y) * (2 * y) := Nat.mul_le_mul h2 h2
  have h4 : 4 * (x * (q + 1)) ≤ (x + q + 1) * (x + q + 1) := by
    rcases Nat.le_total x (q + 1) with l | l
    · obtain ⟨t, ht⟩ := Nat.exists_eq_add_of_le l
      have : x + q + 1 = 2 * x + t := by omega
      rw [this, ht]
      have := sq_add x t
      have e2 : x * (x + t) = x * x + x * t := Nat.mul_add x x t
      omega
    · obtain ⟨t, ht⟩ := Nat.exists_eq_add_of_le l
      have e1 : x + q + 1 = 2 * (q + 1) + t := by omega
      rw [e1, ht]
      generalize q + 1 = z
      have := sq_add z t
      have e2 : (z + t) * z = z * z + z * t := by rw [Nat.add_mul, Nat.mul_comm t z]
      omega
  have h5 : (2 * y) * (2 * y) = 4 * (y * y) := by
    have := Nat.mul_mul_mul_comm 2 y 2 y
    omega
  omega
theorem newton_less {n x : Nat} (hx : 0 < x) (h : n < x * x) : (x + n / x) / 2 < x := by
  have : n / x < x := Nat.div_lt_of_lt_mul h
  omega
theorem root_is {n x m : Nat} (h1 : x * x ≤ n) (h2 : n < (x + 1) * (x + 1)) (e : n = m * m) : x = m := by
  subst e
  rcases Nat.lt_trichotomy x m with l | l | l
  · exfalso
    have : (x + 1) * (x + 1) ≤ m * m := Nat.mul_le_mul l l
    omega
  · exact l
  · exfalso
    have : (m + 1) * (m + 1) ≤ x * x := Nat.mul_le_mul l l
    have : m * m < (m + 1) * (m + 1) := Nat.mul_lt_mul_of_lt_of_le (by omega) (by omega) (by omega)
    omega
end My

/-! ### len(set(xs)), whole numbers -/
namespace My
open PySem PySem.Spec PyProof.Rows L2
def tLenSetD (K : PySem.W.Frag) (ta : TE) : TE := fun σ H Q => ta σ H fun x H1 => ∃ (l : Addr) (ns : List Int), x = .ref l ∧ SqL K H1 l (ns.map V.int) ∧ ns.length ≤ 4000 ∧ Q (.int ((PyProof.Rows.firstMet (fun i => ns.getD i 0) ns.length).length : Nat)) H1
theorem pe_lenSetD {X : Cx} {a : Expr} {ta : TE} {p p2 q pos : Pos} (hg : Gl X "len") (hm : X.mg "len" = none) (hg2 : Gl X "set") (hm2 : X.mg "set" = none) (ha : PE X a ta) (hc : X.calm = true := by rfl)
    (na : starEach [a] X.env = (false, eval a X.env) :: starEach [] X.env := by rfl) : PE X (.Call (.Name "len" p) [.Call (.Name "set" p2) [a] [] q] [] pos) (tLenSetD X.K ta) := by
  refine ⟨fun pins s σ H Q I h => ?_⟩
  refine Call_ (ld_blt I hg hm boot_len ?_)
  refine PyProof.Rows.callWith_builtin1 (PyProof.Rows.args_cons ?_ rfl) rfl rfl
  refine Call_ (ld_blt I hg2 hm2 boot_set ?_)
  refine PyProof.Rows.callWith_type1 (PyProof.Rows.args_cons (thn (ha.run pins s σ H _ I h) fun v s1 ⟨x, H1, I1, r1, q1⟩ => PyProof.Rows.args_nil ?_) na) na rfl
  obtain ⟨l, ns, rfl, hq, hl, q1⟩ := q1
  cases r1
  obtain ⟨its, r, pl, hz⟩ := I1.list hq
  have hlen : its.toArray.size = ns.length := by rw [List.size_toArray, ← r.length, List.length_map]
  have hfm := PyProof.Rows.firstMet_length_le (fun i => ns.getD i 0) ns.length
  refine call_set_list (I1.ok.hd hc) pl.isList (by simpa using RZ.intsAre_vals r) (by rw [hlen]; unfold scanBound; omega) fun h' tk hS hk => ?_
  refine PyProof.Rows.args_nil ?_
  rw [hlen] at hS
  obtain ⟨o, es, ep, t, ho, hex, hd, _, _, _, hf, hn⟩ := hS
  have I2 : Inv X pins σ H1 { s1 with heap := h', toks := tk } := I1.kept fun b o e => hk b o (Heap.lt_size e) e
  exact call_len_set ho hex hd hf (by rw [hn]; omega) ⟨.int _, H1, I2.tok _, ⟨_, by rw [hn]⟩, q1⟩
theorem fm0 : (PyProof.Rows.firstMet (fun i => ([] : List Int).getD i 0) 0).length = 0 := rfl
theorem fm1 (p : Int) : (PyProof.Rows.firstMet (fun i => [p].getD i 0) 1).length = 1 := rfl
theorem fm2 (p q : Int) : (PyProof.Rows.firstMet (fun i => [p, q].getD i 0) 2).length = if p = q then 1 else 2 := by
  rw [PyProof.Rows.firstMet_succ, PyProof.Rows.firstMet_succ, PyProof.Rows.firstMet_zero]
  show (if [p].any (· == q) = true then [p] else [p] ++ [q]).length = _
  by_cases e : p = q
  · subst e
    simp
  · have : ([p].any (· == q)) = false := by simpa using e
    rw [this, if_neg e]; rfl
end My

namespace My
open PySem PySem.Spec PyProof.Rows L2
open C8 (Cal pe_c pe_gc)
/-- a written fraction, its two whole numbers -/
def frV (q : Int × Int) : List V := [.int q.1, .int q.2]
def FrAt (K : PySem.W.Frag) (H : Hp) (v : V) (q : Int × Int) : Prop := ∃ p, v = .ref p ∧ H p = some (.tup (frV q))
def low (q : Int × Int) : Int × Int := (lowT q.1 q.2, lowB q.1 q.2)
def addQ (q r : Int × Int) : Int × Int := low (q.1 * r.2 + r.1 * q.2, q.2 * r.2)
def mulQ (q r : Int × Int) : Int × Int := low (q.1 * r.1, q.2 * r.2)
/-- sizes: below 2 ^ n -/
def Sz (n : Nat) (x : Int) : Prop := x.natAbs < 2 ^ n
theorem Sz.mono {n m : Nat} {x : Int} (h : Sz n x) (l : n ≤ m) : Sz m x := Nat.lt_of_lt_of_le h (Nat.pow_le_pow_right (by decide) l)
theorem Sz.mul {n m : Nat} {x y : Int} (h : Sz n x) (l : Sz m y) : Sz (n + m) (x * y) := wide_lt h l
theorem Sz.add {n : Nat} {x y : Int} (h : Sz n x) (l : Sz n y) : Sz (n + 1) (x + y) := by
  unfold Sz at *
  have : (x + y).natAbs ≤ x.natAbs + y.natAbs := Int.natAbs_add_le x y
  rw [Nat.pow_succ]
  omega
theorem Sz.le {n : Nat} {x y : Int} (h : Sz n x) (l : y.natAbs ≤ x.natAbs) : Sz n y := Nat.lt_of_le_of_lt l h
theorem Sz.cmul {n m : Nat} {x y : Int} (h : Sz n x) (l : Sz m y) (hn : 0 < n) (hm : 0 < m) (b : n + m ≤ 1000000) : CMulW x y := wide_mul h l hn hm b
theorem Sz.log {n : Nat} {x : Int} (h : Sz n x) (hn : 0 < n) (b : n ≤ 9000) : x.natAbs.log2 < 9000 := Nat.lt_of_lt_of_le (PySem.Flt.log2_lt_of hn h) b
theorem cmul_small {x y : Int} (h : x.natAbs < 2 ^ 60) (l : y.natAbs < 2 ^ 60) : CMulW x y := wide_mul h l (by decide) (by decide) (by decide)
/-- a lowest form: bottom above 0, sizes -/
structure OkQ (n : Nat) (q : Int × Int) : Prop where
  pos : 0 < q.2
  t : Sz n q.1
  b : Sz n q.2
theorem OkQ.mono {n m : Nat} {q : Int × Int} (h : OkQ n q) (l : n ≤ m) : OkQ m q := ⟨h.pos, h.t.mono l, h.b.mono l⟩
theorem low_ok {n : Nat} {q : Int × Int} (hb : q.2 ≠ 0) (ht : Sz n q.1) (hB : Sz n q.2) : OkQ n (low q) := ⟨lowB_pos hb, ht.le (lowT_abs hb), hB.le (lowB_abs hb)⟩
theorem add_ok {n m : Nat} {q r : Int × Int} (h : OkQ n q) (l : OkQ m r) : OkQ (n + m + 1) (addQ q r) := by
  refine low_ok ?_ ?_ ?_
  · exact Int.ne_of_gt (Int.mul_pos h.pos l.pos)
  · refine Sz.add (h.t.mul l.b) ?_
    have := l.t.mul h.b
    rwa [Nat.add_comm] at this
  · exact (h.b.mul l.b).mono (by omega)
theorem mul_ok {n m : Nat} {q r : Int × Int} (h : OkQ n q) (l : OkQ m r) : OkQ (n + m) (mulQ q r) := low_ok (Int.ne_of_gt (Int.mul_pos h.pos l.pos)) (h.t.mul l.t) (h.b.mul l.b)

theorem sz2 {a b : V} : [a, b].length ≤ sizeLine := by show 2 ≤ sizeLine; decide
theorem sz4 {a b c d : V} : [a, b, c, d].length ≤ sizeLine := by show 4 ≤ sizeLine; decide
theorem sz5 {a b c d e : V} : [a, b, c, d, e].length ≤ sizeLine := by show 5 ≤ sizeLine; decide
theorem sz3 {a b c : V} : [a, b, c].length ≤ sizeLine := by show 3 ≤ sizeLine; decide
/-- small whole numbers -/
def Bd (n : Nat) (x : Int) : Prop := x.natAbs ≤ n
theorem Bd.mul {n m : Nat} {x y : Int} (h : Bd n x) (l : Bd m y) : Bd (n * m) (x * y) := by
  unfold Bd at *
  rw [Int.natAbs_mul]
  exact Nat.mul_le_mul h l
theorem Bd.add {n m : Nat} {x y : Int} (h : Bd n x) (l : Bd m y) : Bd (n + m) (x + y) := by
  unfold Bd at *
  omega
theorem Bd.sub {n m : Nat} {x y : Int} (h : Bd n x) (l : Bd m y) : Bd (n + m) (x - y) := by
  unfold Bd at *
  omega
theorem Bd.cm {n m : Nat} {x y : Int} (h : Bd n x) (l : Bd m y) (hn : n < 2 ^ 60 := by decide) (hm : m < 2 ^ 60 := by decide) : CMulW x y := cmul_small (Nat.lt_of_le_of_lt h hn) (Nat.lt_of_le_of_lt l hm)
theorem bd_lit {n : Nat} {x : Int} (h : x.natAbs ≤ n := by decide) : Bd n x := h
/-- what tells by being 0 that two roots are alike -/
def toldOf : List Int → Int
  | [_, _] => 1
  | [c, b, _] => b * b - 4 * c
  | [c, b, a, _] => 18 * a * b * c - 4 * a * a * a * c + a * a * b * b - 4 * b * b * b - 27 * c * c
  | [c, _, a, _, _] => c * (a * a - 4 * c)
  | _ => 0
/-- a polynomial that is good -/
structure GoodP (ns : List Int) : Prop where
  l2 : 2 ≤ ns.length
  l5 : ns.length ≤ 5
  sm : ∀ x ∈ ns, Bd 100 x
  last : atI ns (-1) = some 1
  mid1 : ns.length = 5 → ns[1]? = some 0
  mid3 : ns.length = 5 → ns[3]? = some 0
  told : toldOf ns ≠ 0
theorem gcd_fmod (x y : Int) : Int.gcd y (x.fmod y) = Int.gcd x y := by
  have : x.fmod y = x - y * x.fdiv y := Int.fmod_def x y
  rw [this, Int.gcd_comm x y]
  have e : x - y * x.fdiv y = x + y * (- x.fdiv y) := by rw [Int.mul_neg]; rfl
  rw [e, Int.gcd_add_mul_left_right]
theorem fmod_lt {x y : Int} (hy : y ≠ 0) : (x.fmod y).natAbs < y.natAbs := by
  rcases Int.lt_or_gt_of_ne hy with h | h
  · have h1 : x.fmod y = -((-x).fmod (-y)) := by rw [Int.neg_fmod_neg]; simp
    have a := Int.fmod_nonneg_of_pos (-x) (show 0 < -y by omega)
    have b := Int.fmod_lt_of_pos (-x) (show 0 < -y by omega)
    omega
  · have a := Int.fmod_nonneg_of_pos x h
    have b := Int.fmod_lt_of_pos x h
    omega
theorem same_new {H : Hp} {p : Addr} {o : HO} (hp : H p = none) : Same H (upd H p o) := fun b u q => by rw [upd_ne (ne_of_none q hp)]; exact q
theorem item_of {ns : List Int} {i : Nat} {y : V} (hi : (ns.map V.int)[i]? = some y) : ∃ z, ns[i]? = some z ∧ y = V.int z := by
  rw [List.getElem?_map] at hi
  cases e : ns[i]? with
  | none => rw [e] at hi; cases hi
  | some z => rw [e] at hi; exact ⟨z, rfl, (Option.some.inj hi).symm⟩
theorem atI_map {ns : List Int} {i : Int} {z : Int} (h : atI ns i = some z) : atI (ns.map V.int) i = some (V.int z) := by
  unfold atI at *
  rw [List.length_map]
  cases e : ixN ns.length i with
  | none => rw [e] at h; cases h
  | some j =>
    rw [e] at h
    show (ns.map V.int)[j]? = _
    have h' : ns[j]? = some z := h
    rw [List.getElem?_map, h']
    rfl
theorem Same.seqT {K : PySem.W.Frag} {H H' : Hp} {a : Addr} {xs : List V} (e : Same H H') (h : SqT K H a xs) : SqT K H' a xs := by
  rcases h with (h | ⟨o, h⟩) | h
  · exact .inl (.inl (e _ _ h))
  · exact .inl (.inr ⟨o, e _ _ h⟩)
  · exact .inr h
theorem FrAt.mono {K : PySem.W.Frag} {H H' : Hp} {v : V} {q : Int × Int} (h : FrAt K H v q) (e : Same H H') : FrAt K H' v q := by
  obtain ⟨p, rfl, hp⟩ := h
  exact ⟨p, rfl, e _ _ hp⟩
theorem FrAt.new {K : PySem.W.Frag} {H : Hp} {p : Addr} {q : Int × Int} (h : H p = some (.tup (frV q))) : FrAt K H (.ref p) q := ⟨p, rfl, h⟩
theorem take_more {α : Type} : ∀ {l : List α} {i : Nat} {x : α}, l[i]? = some x → l.take (i + 1) = l.take i ++ [x]
  | [], i, x, h => by simp at h
  | a :: l, 0, x, h => by
    have e : a = x := Option.some.inj h
    subst e
    rfl
  | a :: l, i + 1, x, h => by
    have ih := take_more (l := l) (i := i) (x := x) h
    show a :: l.take (i + 1) = a :: l.take i ++ [x]
    rw [ih]
    rfl
theorem ok_01 : OkQ 1 (0, 1) := ⟨by decide, (by decide : (0 : Int).natAbs < 2 ^ 1), (by decide : (1 : Int).natAbs < 2 ^ 1)⟩
theorem ok_n1 {n : Int} {b : Nat} (h : Bd 100 n) (hb : 10 ≤ b) : OkQ b (n, 1) := OkQ.mono (n := 10) ⟨(by decide : (0 : Int) < 1), (by unfold Sz; unfold Bd at h; show n.natAbs < 2 ^ 10; omega), (by show (1 : Int).natAbs < 2 ^ 10; decide)⟩ hb
theorem abs_int (x : Int) : (if x < 0 then -x else x) = (x.natAbs : Int) := by split <;> omega
end My

/-! ### own exceptions whose context is known to be None; raised anew in an except suite, from None -/
namespace My
open PySem PySem.Spec PyProof.Rows L2
section
variable {X : Cx}
theorem mk_endN {pins : List (Addr × Obj)} {σ : L2.St} {H1 H2 : Hp} {Q : XK} {hp hp2 h2 : Heap} {g1 g2 : Array GenState} {d1 d2 : Drawn} {t1 t2 : Nat} {os1 os2 : OsState} {a C d : Addr} {fs : List (Str × V)} (T : Raises X (.ref C)) (I1 : Inv X pins σ H1 ⟨hp, g1, d1, t1, os1⟩)
    (ha : hp.objs.size ≤ a) (k : ∀ b o, hp.get? b = some o → hp2.get? b = some o) (un : Un (frs X.stack) [] (upd H1 a (exo a C none)) H2 hp2 h2) (hok : HOk X.prog X.w H2 h2) (ho : os2 = os1) (hb : AllBare g2)
    (ea : H2 a = some (exo a C (some d))) (ed : H2 d = some (exd d fs)) (hd1 : H1 d = none) (q : Q (.ref C) (some d) (upd (del H2 a) d (.xd fs))) : L2N.MkP X pins σ Q (.ref a) ⟨h2, g2, d2, t2, os2⟩ := by
  obtain ⟨t0, G, J, kG, ge, hoe, na⟩ := mk_end0 (d2 := d2) (t2 := t2) I1 ha k un hok ho hb ea ed hd1
  exact ⟨a, _, _, ⟨G, g2, d2, t2, os2⟩, _, .ref C, some d, rfl, J, kG, ge, hoe, ⟨rfl, rfl, fun vs e => by cases e; rfl⟩, rfl, rfl, na, rfl, hb, T, q⟩
end
section
variable {X : Cx} {e : Expr} {es : List Expr} {ta : TA} {x : Str} {p p' p1 p2 pos : Pos}
theorem pmk_oex0N {CX : CXT} {x : Str} {C fI : Addr} {k : Nat} {fd : FuncData} {ps : List Str} {sp : Sp} {ds : List Value} {dvs : List V} (T : OexC X.K C) (iC : PySem.W.findIn X.K (.ref C) "__init__" = some (some (.ref fI))) (tI : PySem.W.typeIn X.K (.ref fI) = some (.type "function"))
    (F1 : FnOk X.prog X.w X.K X.mg X.base CX k fI fd ps sp) (hr : Room (k + 1) X.A) (hb : Binds X.K fd ps ds) (hd : Vals dvs ds) (hx : Passes CX X (fun _ _ _ => False)) (hg : Gl X x) (hm : X.mg x = some (.ref C))
    (hdb : (x == ("__debug__" : Str)) = false := by decide) :
    L2N.PMk X (.Call (.Name x p) [] [] pos) (fun _ H1 Q => ∀ a, H1 a = none → sp (.ref a :: dvs) (upd H1 a (exo a C none)) (MkEnd C H1 a Q) (fun _ _ _ => False)) := by
  intro pins s σ H1 Q I1 q1
  obtain ⟨nm, q, N, bs, bm, sn, sub, ab, col, dd, k0, k1, k2, k3, k5, hC, hbm⟩ := T.cls
  refine wpAny_Call_Name_kw (ld_glob I1 hg hm ?_ hdb)
  refine PySem.W.callWith_K0 I1.kIn T.kC ?_
  show wpAny _ _ (call (.ref C) []) _ _ _
  obtain ⟨hp, g, dr, tk, os⟩ := s
  have hsz : hp.objs.size ≤ hp.objs.size + 1 := Nat.le_succ _
  have hn : H1 (hp.objs.size + 1) = none := I1.hok.fresh hsz
  have hq := q1 (hp.objs.size + 1) hn
  have kk : ∀ b o, hp.get? b = some o → ((hp.push (PySem.W.kdv_tup [])).push (PySem.HandSPX.excO C hp.objs.size)).get? b = some o := fun b o e => Heap.get?_push_of_some _ (Heap.get?_push_of_some _ e)
  have hget : ((hp.push (PySem.W.kdv_tup [])).push (PySem.HandSPX.excO C hp.objs.size)).get? (hp.objs.size + 1) = some (PySem.HandSPX.excO C hp.objs.size) := by heap_get
  have I2 : Inv X pins σ (upd H1 (hp.objs.size + 1) (exo (hp.objs.size + 1) C none)) ⟨(hp.push (PySem.W.kdv_tup [])).push (PySem.HandSPX.excO C hp.objs.size), g, dr, tk, os⟩ :=
    I1.laid (t' := tk) (a := hp.objs.size + 1) (o := exo (hp.objs.size + 1) C none) (h' := (hp.push (PySem.W.kdv_tup [])).push (PySem.HandSPX.excO C hp.objs.size)) kk hsz (exo_ok hget)
  have r2 : Vals (V.ref (hp.objs.size + 1) :: dvs) (Value.ref (hp.objs.size + 1) :: ds) := .cons rfl hd
  have hl : (Value.ref (hp.objs.size + 1) :: [] ++ ds).length = ps.length := by
    have e := r2.length
    rw [F1.len _ _ _ _ hq] at e
    exact e.symm
  refine wpAny_call (PySem.HandSPX.call_own F.excBase_ValueError (fun Y => PySem.HandSPX.refsVE_contains Y bm hbm) (I1.kIn _ _ hC) (PySem.W.looks_findIn I1.kIn iC) (fun self => PySem.W.bind_fn I1.kIn self tI) (Nat.zero_le _)
    (codeAny_mono (F1.run _ X.stack _ _ ⟨[Value.ref (hp.objs.size + 1)], []⟩ (Value.ref (hp.objs.size + 1) :: ds) _ _ (fun _ _ _ => False) (hr.make C [] []) (I2.env0.make C [] []) (hb _ [Value.ref (hp.objs.size + 1)] I2.kIn hl) r2 hq) fun r s' hq' => ?_))
  cases r with
  | error er => exact hx pins σ _ _ er s' I2 hq'
  | ok fl =>
    cases fl with
    | ret u =>
      obtain ⟨v, H2, os2, bare2, un2, hok2, rv, ev, d, fs, ea, ed, hd1, q2⟩ := hq'
      subst ev
      obtain ⟨h2, g2, d2, t2, os'⟩ := s'
      exact ⟨rv, mk_endN (raises_own T.exC T.tyC) I1 hsz kk un2 hok2 os2 bare2 ea ed hd1 q2⟩
    | next => exact False.elim hq'
    | brk => exact False.elim hq'
    | cont => exact False.elim hq'
theorem pmk_oexKN {CX : CXT} {x kn : Str} {C fI : Addr} {k : Nat} {fd : FuncData} {ps : List Str} {sp : Sp} {kws : List Keyword} {tk : TA} {R : V → Hp → XK → Prop} (T : OexC X.K C) (iC : PySem.W.findIn X.K (.ref C) "__init__" = some (some (.ref fI))) (tI : PySem.W.typeIn X.K (.ref fI) = some (.type "function"))
    (F1 : FnOk X.prog X.w X.K X.mg X.base CX k fI fd ps sp) (hr : Room (k + 1) X.A) (hb : ∀ (s : Shared) (u v : Value), X.K.In s.heap → BindsTo s fd ⟨[u], [(kn, v)]⟩ (ps.zip [u, v])) (hx : Passes CX X (fun _ _ _ => False)) (hR : ∀ z H1 Q, R z H1 Q → ∀ a, H1 a = none → sp [.ref a, z] (upd H1 a (exo a C none)) (MkEnd C H1 a Q) (fun _ _ _ => False)) (hg : Gl X x) (hm : X.mg x = some (.ref C))
    (hkw : PK X kws tk) (hall : (backToKw pos (keywordEach kws X.env)).all (·.1.isSome) = true := by rfl) (hks : (backToKw pos (keywordEach kws X.env)).filterMap (·.1) = [kn] := by rfl) (hdb : (x == ("__debug__" : Str)) = false := by decide)
    (hpl : ((backTo pos (starEach [] X.env)).any (·.1) || (backToKw pos (keywordEach kws X.env)).any (·.1.isNone)) = false := by rfl) :
    L2N.PMk X (.Call (.Name x p) [] kws pos) (fun σ H Q => tk σ H fun zs H1 => ∃ z, zs = [z] ∧ R z H1 Q) := by
  intro pins s0 σ H0 Q I0 q0
  obtain ⟨nm, q, N, bs, bm, sn, sub, ab, col, dd, k0, k1, k2, k3, k5, hC, hbm⟩ := T.cls
  refine wpAny_Call_Name_kw (ld_glob I0 hg hm ?_ hdb)
  refine PySem.W.callWith_KW0 (h₀ := X.base) I0.ok.mod.kin T.kC hall ?_ hpl
  refine thn (hkw.run pos pins s0 σ H0 _ I0 q0) fun ws s ⟨zs, H1, I1, rz, z, ez, q1⟩ => ⟨I1.kIn, ?_⟩
  subst ez
  have q1 := hR z H1 Q q1
  cases rz with
  | @cons _ u _ ur ru rn =>
  cases rn
  rw [hks]
  show wpAny _ _ (call (.ref C) [] [(kn, u)]) _ _ _
  obtain ⟨hp, g, dr, tk, os⟩ := s
  have hsz : hp.objs.size ≤ hp.objs.size + 1 := Nat.le_succ _
  have hn : H1 (hp.objs.size + 1) = none := I1.hok.fresh hsz
  have hq := q1 (hp.objs.size + 1) hn
  have kk : ∀ b o, hp.get? b = some o → ((hp.push (PySem.W.kdv_tup [])).push (PySem.HandSPX.excO C hp.objs.size)).get? b = some o := fun b o e => Heap.get?_push_of_some _ (Heap.get?_push_of_some _ e)
  have hget : ((hp.push (PySem.W.kdv_tup [])).push (PySem.HandSPX.excO C hp.objs.size)).get? (hp.objs.size + 1) = some (PySem.HandSPX.excO C hp.objs.size) := by heap_get
  have I2 : Inv X pins σ (upd H1 (hp.objs.size + 1) (exo (hp.objs.size + 1) C none)) ⟨(hp.push (PySem.W.kdv_tup [])).push (PySem.HandSPX.excO C hp.objs.size), g, dr, tk, os⟩ :=
    I1.laid (t' := tk) (a := hp.objs.size + 1) (o := exo (hp.objs.size + 1) C none) (h' := (hp.push (PySem.W.kdv_tup [])).push (PySem.HandSPX.excO C hp.objs.size)) kk hsz (exo_ok hget)
  have r2 : Vals [V.ref (hp.objs.size + 1), z] [Value.ref (hp.objs.size + 1), u] := .cons rfl (.cons ru .nil)
  refine wpAny_call (call_ownK F.excBase_ValueError (fun Y => PySem.HandSPX.refsVE_contains Y bm hbm) (I1.kIn _ _ hC) (PySem.W.looks_findIn I1.kIn iC) (fun self => PySem.W.bind_fn I1.kIn self tI) (Nat.zero_le _)
    (codeAny_mono (F1.run _ X.stack _ _ ⟨[Value.ref (hp.objs.size + 1)], [(kn, u)]⟩ [Value.ref (hp.objs.size + 1), u] _ _ (fun _ _ _ => False) (hr.make C [] [(kn, u)]) (I2.env0.make C [] [(kn, u)]) (hb _ _ _ I2.kIn) r2 hq) fun r s' hq' => ?_))
  cases r with
  | error er => exact hx pins σ _ _ er s' I2 hq'
  | ok fl =>
    cases fl with
    | ret u =>
      obtain ⟨v, H2, os2, bare2, un2, hok2, rv, ev, d, fs, ea, ed, hd1, q2⟩ := hq'
      subst ev
      obtain ⟨h2, g2, d2, t2, os'⟩ := s'
      exact ⟨rv, mk_endN (raises_own T.exC T.tyC) I1 hsz kk un2 hok2 os2 bare2 ea ed hd1 q2⟩
    | next => exact False.elim hq'
    | brk => exact False.elim hq'
    | cont => exact False.elim hq'
end
section
variable {X : Cx} {x kn : Str} {C : Addr} {k j : Nat} {dv : V} {kws : List Keyword} {tk : TA} {p pos : Pos}
/-- C() -/
theorem pmk_np0N (c : IniCal X.prog X.w X.K X.mg X.base k x C kn dv) (hr : Room j X.A) (hk : k + 1 ≤ j) (hg : Gl X x) (hdb : (x == ("__debug__" : Str)) = false := by decide) :
    L2N.PMk X (.Call (.Name x p) [] [] pos) (fun _ H Q => ∀ d H', Same H H' → H d = none → H' d = some (.xd [(kn, dv)]) → Q (.ref C) (some d) H') := by
  obtain ⟨fI, fd, ps, ds, F, i, t, b, v, _⟩ := c.ex
  intro pins s σ H Q I q
  exact pmk_oex0N c.oex i t F (hr.mono hk) b v pass0 hg c.hm hdb pins s σ H Q I fun a ha => ini_end c.oex c.no ha q
/-- C(kn=e) -/
theorem pmk_npKN (c : IniCal X.prog X.w X.K X.mg X.base k x C kn dv) (hr : Room j X.A) (hk : k + 1 ≤ j) (hg : Gl X x) (hkw : PK X kws tk)
    (hall : (backToKw pos (keywordEach kws X.env)).all (·.1.isSome) = true := by rfl) (hks : (backToKw pos (keywordEach kws X.env)).filterMap (·.1) = [kn] := by rfl) (hdb : (x == ("__debug__" : Str)) = false := by decide)
    (hpl : ((backTo pos (starEach [] X.env)).any (·.1) || (backToKw pos (keywordEach kws X.env)).any (·.1.isNone)) = false := by rfl) :
    L2N.PMk X (.Call (.Name x p) [] kws pos) (fun σ H Q => tk σ H fun zs H1 => ∃ z, zs = [z] ∧ ∀ d H', Same H1 H' → H1 d = none → H' d = some (.xd [(kn, z)]) → Q (.ref C) (some d) H') := by
  obtain ⟨fI, fd, ps, ds, F, i, t, b, v, bk⟩ := c.ex
  exact pmk_oexKN c.oex i t F (hr.mono hk) bk pass0 (fun z H1 Q q a ha => ini_end c.oex c.no ha q) hg c.hm hkw hall hks hdb hpl
end
section
variable {P : Program} {w : World} {K : PySem.W.Frag} {mg : Str → Option Value} {base : Heap}
/-- a def whose exceptions have the context None -/
structure CalN (P : Program) (w : World) (K : PySem.W.Frag) (mg : Str → Option Value) (base : Heap) (k : Nat) (x : Str) (sp : Sp) : Prop where
  ex : ∃ (f : Addr) (fd : FuncData) (ps : List Str), FnOk P w K mg base (L2N.CX P w) k f fd ps sp ∧ mg x = some (.ref f) ∧ PySem.W.keepIn K (.ref f) = true ∧ Binds K fd ps []
theorem cx_of_n {outer : List Env} {H : Hp} {s s' : Shared} {E : XK} {u : Value} (h : L2N.CX P w outer H s E u s') : L2.CX P w outer H s E u s' := by
  obtain ⟨a, B, H', cls, d, rfl, fl, r⟩ := h
  exact ⟨a, B, H', cls, d, rfl, L2H.flyingZ_imp (fun o z => z.zc) fl, r⟩
theorem fn_of_n {k : Nat} {f : Addr} {fd : FuncData} {ps : List Str} {sp : Sp} (F : FnOk P w K mg base (L2N.CX P w) k f fd ps sp) : FnOk P w K mg base (L2.CX P w) k f fd ps sp :=
  ⟨F.len, fun A st s H args us vs Q E r e b v z => codeAny_mono (F.run A st s H args us vs Q E r e b v z) fun r s' h => by
    cases r with
    | ok fl => cases fl <;> exact h
    | error e => exact cx_of_n h⟩
theorem CalN.x {k : Nat} {x : Str} {sp : Sp} (c : CalN P w K mg base k x sp) : CalX P w K mg base k x sp := by
  obtain ⟨f, fd, ps, F, q⟩ := c.ex
  exact ⟨f, fd, ps, fn_of_n F, q⟩
theorem CalN.imp {k : Nat} {x : Str} {sp sp' : Sp} (c : CalN P w K mg base k x sp) (h : ∀ vs H Q E, sp' vs H Q E → sp vs H Q E) : CalN P w K mg base k x sp' := by
  obtain ⟨f, fd, ps, F, q⟩ := c.ex
  exact ⟨f, fd, ps, ⟨fun vs H Q E z => F.len vs H Q E (h _ _ _ _ z), fun A st s H args us vs Q E r e b v z => F.run A st s H args us vs Q E r e b v (h _ _ _ _ z)⟩, q⟩
theorem okXN0 {x qual : Str} {st : Stmt} {f : Addr} {fd : FuncData} {N ps : List Str} {k : Nat} {sp : Sp} (F : Fun K x qual st f fd) (S : FnScope N ps (defScope st)) (len : ∀ vs H Q E, sp vs H Q E → vs.length = ps.length)
    (hbody : ∀ (cdv : Value) (A : Around) (outer : List Env) (s : Shared) (H : Hp) (vs : List V) (Q : VK) (E : XK), Room k (A.deeper (envOfC qual (defScope st) s.heap.objs.size f cdv)) → sp vs H Q E →
      ∃ t, PSs (cxOf (L2N.CX P w) P w K mg base N qual (defScope st) f cdv A outer s H E) (defBody st) t ∧ t { nx := fun _ H' => Q .non H', rt := Q } (start N vs) H) : FnOk P w K mg base (L2N.CX P w) (k + 1) f fd ps sp := by
  obtain ⟨oc, od, kV, doc, pm, an, cdv, ct, osl, rfl, lk, hcd⟩ := F.ex
  exact fn_of lk hcd S len fun A outer s H vs Q E hr hsp => hbody cdv A outer s H vs Q E hr hsp
end
section
variable {X : Cx} {k j : Nat} {x : Str} {sp : Sp} {E : L2.St → XK} {p pos : Pos} {e : Expr} {es : List Expr} {t : TA}
theorem pe_cSN (c : CalN X.prog X.w X.K X.mg X.base k x sp) (hr : Room j X.A) (hk : k ≤ j) (hg : Gl X x) (hx : ∀ σ, PassesAt (L2N.CX X.prog X.w) X σ (E σ)) (ha : PA X (e :: es) t)
    (hdb : (x == ("__debug__" : Str)) = false := by decide) (he : starEach (e :: es) X.env = (false, eval e X.env) :: starEach es X.env := by rfl) (hpl : (backTo pos (starEach es X.env)).any (·.1) = false := by rfl) :
    PE X (.Call (.Name x p) (e :: es) [] pos) (tCallS sp E t) := by
  obtain ⟨f, fd, ps, F, hm, kp, b⟩ := c.ex
  exact pe_callS F (hr.mono hk) hg hm kp b hx ha hdb he hpl
theorem pmk5_own {m : Str} {i : Nat} {q2 : Pos} {C : Addr} {B newId initId : String} {bmB : List Value} (F : ExcBaseFacts B newId initId bmB) (q : PySem.W.excIn X.K C bmB newId = true) (gC : X.mg x = some (.ref C)) (kC : PySem.W.keepIn X.K (.ref C) = true) (r : Raises X (.ref C)) (hg : Gl X x)
    (hdb : (x == ("__debug__" : Str)) = false := by decide) : L2H.PMk5 X (.Call (.Name x p) [.Constant (.str m) i q2] [] pos) (fun _ H Q => Q (.ref C) none H) := by
  intro pins s σ H Q I h
  refine wpAny_Call_Name_kw (ld_glob I hg gC ?_ hdb)
  refine PySem.W.callWith_K (h₀ := X.base) I.ok.mod.kin kC (thn ((pa_cons (pe_str (x := m) (j := i) (pos := q2)) pa_nil).run pos pins s σ H (fun vs H1 => vs = [V.str m] ∧ H = H1) I ⟨rfl, rfl⟩) fun us s1 ⟨vs, H1, I1, r1, ev, eH⟩ => ?_)
  subst ev eH
  refine ⟨I1.kIn, ?_⟩
  obtain ⟨u, eu, _⟩ := vals1 r1
  subst eu
  show wpAny _ _ (call (.ref C) [u]) _ _ _
  obtain ⟨bm, N, nm, qn, bs, hdct, sn, sub, ab, col, dd, k0, k1, k2, k3, k5, mN, hC, hN, hni, T⟩ := exc_obj I1.kIn q
  exact wpAny_call_exc_subT F T hC hN hni (fun h' e hm => L2H.mk_of5 I1 hm r h (I1.hok.gone hm.new)) (by show 1 ≤ sizeLine; rw [sizeLine_eq]; omega)
end
end My

namespace My
open PySem PySem.Spec PyProof.Rows L2
/-- where the classes of errors stand -/
structure Cs where
  RootError : Addr
  NoPoly : Addr
  NoHouse : Addr
  NoLetter : Addr
  NoCount : Addr
  NoMove : Addr
  NoWord : Addr
  Full : Addr
  NoDeed : Addr
  NoText : Addr
  NoLine : Addr
  NoOver : Addr
  NoName : Addr
  Twice : Addr
  NoNumber : Addr
/-- which class an error is of: j its number among the sorts -/
structure Row (K : PySem.W.Frag) (c : Cs) (t : Value) (j : Option Nat) : Prop where
  k_NoPoly : PySem.W.kitOne K t (.ref c.NoPoly) = some (j == some 0)
  k_NoHouse : PySem.W.kitOne K t (.ref c.NoHouse) = some (j == some 1)
  k_NoLetter : PySem.W.kitOne K t (.ref c.NoLetter) = some (j == some 2)
  k_NoCount : PySem.W.kitOne K t (.ref c.NoCount) = some (j == some 3)
  k_NoMove : PySem.W.kitOne K t (.ref c.NoMove) = some (j == some 4)
  k_NoWord : PySem.W.kitOne K t (.ref c.NoWord) = some (j == some 5)
  k_Full : PySem.W.kitOne K t (.ref c.Full) = some (j == some 6)
  k_NoDeed : PySem.W.kitOne K t (.ref c.NoDeed) = some (j == some 7)
  k_NoText : PySem.W.kitOne K t (.ref c.NoText) = some (j == some 8)
  k_NoLine : PySem.W.kitOne K t (.ref c.NoLine) = some (j == some 9)
  k_NoOver : PySem.W.kitOne K t (.ref c.NoOver) = some (j == some 10)
  k_NoName : PySem.W.kitOne K t (.ref c.NoName) = some (j == some 11)
  k_Twice : PySem.W.kitOne K t (.ref c.Twice) = some (j == some 12)
  k_NoNumber : PySem.W.kitOne K t (.ref c.NoNumber) = some (j == some 13)
  k_RootError : PySem.W.kitOne K t (.ref c.RootError) = some (j.any fun i => decide (i < 10))
structure Txt (K : PySem.W.Frag) (mg : Str → Option Value) (c : Cs) : Prop where
  z_abs : mg "abs" = none
  z_len : mg "len" = none
  z_range : mg "range" = none
  z_max : mg "max" = none
  z_enumerate : mg "enumerate" = none
  z_isinstance : mg "isinstance" = none
  z_int : mg "int" = none
  z_bool : mg "bool" = none
  z_tuple : mg "tuple" = none
  z_list : mg "list" = none
  z_zip : mg "zip" = none
  z_str : mg "str" = none
  z_all : mg "all" = none
  mg_MOST : ∃ u, mg "MOST" = some u ∧ RelV (.int 100) u
  mg_MOST_FIGURES : ∃ u, mg "MOST_FIGURES" = some u ∧ RelV (.int 1000) u
  mg_FIGURES : ∃ u, mg "FIGURES" = some u ∧ RelV (.str "0123456789") u
  g_RootError : mg "RootError" = some (.ref c.RootError)
  g_NoPoly : mg "NoPoly" = some (.ref c.NoPoly)
  g_NoHouse : mg "NoHouse" = some (.ref c.NoHouse)
  g_NoLetter : mg "NoLetter" = some (.ref c.NoLetter)
  g_NoCount : mg "NoCount" = some (.ref c.NoCount)
  g_NoMove : mg "NoMove" = some (.ref c.NoMove)
  g_NoWord : mg "NoWord" = some (.ref c.NoWord)
  g_Full : mg "Full" = some (.ref c.Full)
  g_NoDeed : mg "NoDeed" = some (.ref c.NoDeed)
  g_NoText : mg "NoText" = some (.ref c.NoText)
  g_NoLine : mg "NoLine" = some (.ref c.NoLine)
  g_NoOver : mg "NoOver" = some (.ref c.NoOver)
  g_NoName : mg "NoName" = some (.ref c.NoName)
  g_Twice : mg "Twice" = some (.ref c.Twice)
  g_NoNumber : mg "NoNumber" = some (.ref c.NoNumber)
  row_none : Row K c (.type "NoneType") none
  row_NoPoly : Row K c (.ref c.NoPoly) (some 0)
  exc_NoPoly : ExcC K c.NoPoly
  exm_NoPoly_RootError : PySem.W.exmOne K (.ref c.NoPoly) (.ref c.RootError) = some true
  exm_NoPoly_NoPoly : PySem.W.exmOne K (.ref c.NoPoly) (.ref c.NoPoly) = some true
  exm_NoPoly_NoOver : PySem.W.exmOne K (.ref c.NoPoly) (.ref c.NoOver) = some false
  exm_NoPoly_NoName : PySem.W.exmOne K (.ref c.NoPoly) (.ref c.NoName) = some false
  exm_NoPoly_Twice : PySem.W.exmOne K (.ref c.NoPoly) (.ref c.Twice) = some false
  exm_NoPoly_NoNumber : PySem.W.exmOne K (.ref c.NoPoly) (.ref c.NoNumber) = some false
  row_NoText : Row K c (.ref c.NoText) (some 8)
  exc_NoText : ExcC K c.NoText
  exm_NoText_RootError : PySem.W.exmOne K (.ref c.NoText) (.ref c.RootError) = some true
  exm_NoText_NoPoly : PySem.W.exmOne K (.ref c.NoText) (.ref c.NoPoly) = some false
  exm_NoText_NoOver : PySem.W.exmOne K (.ref c.NoText) (.ref c.NoOver) = some false
  exm_NoText_NoName : PySem.W.exmOne K (.ref c.NoText) (.ref c.NoName) = some false
  exm_NoText_Twice : PySem.W.exmOne K (.ref c.NoText) (.ref c.Twice) = some false
  exm_NoText_NoNumber : PySem.W.exmOne K (.ref c.NoText) (.ref c.NoNumber) = some false
  x_NoText : PySem.W.excIn K c.NoText [.type "ValueError", .type "Exception", .type "BaseException", .type "object"] "ValueError.__new__" = true
  k_NoText : PySem.W.keepIn K (.ref c.NoText) = true
  b_NoText : PySem.W.subIn K (.ref c.NoText) (.type "BaseException") = some true
  t_NoText : PySem.W.typeIn K (.ref c.NoText) = some (.type "type")
  ini_RootError : Ini K c.RootError
  oex_NoPoly : OexC K c.NoPoly
  no_NoPoly : PySem.W.findIn K (.ref c.NoPoly) "at" = some none
end My
namespace My
open PySem PySem.Spec PyProof.Rows L2
open C8 (Cal pe_c pe_gc)
/-- all but a stand as they stood -/
def Xt (a : Addr) (H H' : Hp) : Prop := ∀ b o, b ≠ a → H b = some o → H' b = some o
theorem Xt.refl (a : Addr) (H : Hp) : Xt a H H := fun _ _ _ h => h
theorem Xt.trans {a : Addr} {H H1 H2 : Hp} (x : Xt a H H1) (y : Xt a H1 H2) : Xt a H H2 := fun b o n h => y b o n (x b o n h)
theorem Xt.of {a : Addr} {H H' : Hp} (x : Same H H') : Xt a H H' := fun b o _ h => x b o h
theorem Xt.upd {a : Addr} {H : Hp} {o : HO} : Xt a H (upd H a o) := fun b u n h => by rw [upd_ne n]; exact h
/-- a purse at a, drawn from less than m times -/
def Pur (H : Hp) (a : Addr) (m : Nat) : Prop := ∃ d c k : Int, H a = some (.lst [.int d, .int c, .int k]) ∧ 0 ≤ d ∧ 0 ≤ c ∧ c < 2147483647 ∧ 0 ≤ k ∧ k ≤ m
theorem Pur.mono {H : Hp} {a : Addr} {m n : Nat} (h : Pur H a m) (l : m ≤ n) : Pur H a n := by
  obtain ⟨d, c, k, h1, h2, h3, h4, h5, h6⟩ := h
  exact ⟨d, c, k, h1, h2, h3, h4, h5, by omega⟩
theorem Pur.same {H H' : Hp} {a : Addr} {m : Nat} (h : Pur H a m) (s : Same H H') : Pur H' a m := by
  obtain ⟨d, c, k, h1, h2⟩ := h
  exact ⟨d, c, k, s _ _ h1, h2⟩
theorem Pur.at {H : Hp} {a : Addr} {m : Nat} (h : Pur H a m) : ∃ o, H a = some o := by
  obtain ⟨d, c, k, h1, h2⟩ := h
  exact ⟨_, h1⟩
theorem Xt.same1 {a : Addr} {H H1 H2 : Hp} (x : Xt a H H1) (y : Same H1 H2) : Xt a H H2 := x.trans (Xt.of y)
theorem Xt.updNew {a D : Addr} {H H1 : Hp} {o : HO} (x : Xt a H H1) (h : H D = none) : Xt a H (L2.upd H1 D o) := fun b u nb hb => by
  rw [upd_ne (ne_of_none hb h)]
  exact x b u nb hb
theorem Xt.free {a D : Addr} {H H1 : Hp} (x : Xt a H H1) (n : D ≠ a) (h : H1 D = none) : H D = none := by
  cases e : H D with
  | none => rfl
  | some o => rw [x D o n e] at h; cases h
theorem Xt.back {a : Addr} {H H1 H2 : Hp} (s : Same H H1) (x : Xt a H1 H2) (h : H a = none) : Same H H2 := fun b o hb => x b o (ne_of_none hb h) (s b o hb)
theorem Pur.updNe {H : Hp} {a D : Addr} {m : Nat} {o : HO} (p : Pur H a m) (h : D ≠ a) : Pur (L2.upd H D o) a m := by
  obtain ⟨d, c, k, h1, h2⟩ := p
  exact ⟨d, c, k, by rw [upd_ne h.symm]; exact h1, h2⟩
theorem fmod_bd {x j : Int} (h : 0 < j) : 0 ≤ x.fmod j ∧ x.fmod j < j := ⟨Int.fmod_nonneg_of_pos x h, Int.fmod_lt_of_pos x h⟩
section
variable {c : Cs} {P : Program} {w : World} {K : PySem.W.Frag} {mg : Str → Option Value} {base : Heap}

abbrev s_Lat : Stmt := top 40
abbrev N_Lat : List Str := ["_law_script", "_law_k"]
abbrev P_Lat : List Str := ["_law_script", "_law_k"]
theorem sc_Lat : FnScope N_Lat ["_law_script", "_law_k"] (defScope s_Lat) := ⟨rfl, rfl, rfl, by decide +kernel, rfl, by decide +kernel, by decide +kernel⟩

def sp_Lat (K : PySem.W.Frag) : Sp := fun vs H Q _ => ∃ (a : Addr) (ns : List Int) (j : Nat), vs = [.ref a, .int (j : Nat)] ∧ SqL K H a (ns.map V.int) ∧ ∀ z : Int, Q (.int z) H
theorem ok_Lat (T : Txt K mg c) {f : Addr} {fd : FuncData} (F : L2.Fun K "_law_at" "_law_at" s_Lat f fd) : FnOk P w K mg base CX0 1 f fd P_Lat (sp_Lat K) := by
  refine F.ok sc_Lat (fun vs H Q E h => ?_) (fun cdv A outer s H vs Q E hr h => ?_)
  · obtain ⟨a, ns, j, rfl, _⟩ := h
    rfl
  · obtain ⟨a, ns, j, rfl, hS, k⟩ := h
    refine ⟨_, (pss_cons (ps_if (pt_cmpR op_lt (pv 1) (pe_callB call_len_seq (by rfl) T.z_len (by decide +kernel) (pa_cons (pv 0) pa_nil)) (nomark _)) (pss_one (ps_ret (pe_ix ix_list (pv 0) (pv 1) (fun _ _ => rfl)))) pss_nil)
      (pss_one (ps_ret pe_int))), ?_⟩
    refine ⟨_, rfl, _, rfl, a, _, rfl, .inl hS, _, _, rfl, rfl, _, rfl, ?_⟩
    refine ite2 (fun hc => ?_) (fun hc => ?_)
    · have hj : j < ns.length := by
        have := of_decide_eq_true hc
        rw [List.length_map] at this
        omega
      refine ⟨_, rfl, _, rfl, a, _, _, _, rfl, rfl, hS, atI_map (atI_nat (List.getElem?_eq_getElem hj)), k _⟩
    · exact k _

abbrev s_Lmixed : Stmt := top 41
abbrev N_Lmixed : List Str := ["_law_cell", "_law_k", "_law_number_here"]
abbrev P_Lmixed : List Str := ["_law_cell", "_law_k"]
theorem sc_Lmixed : FnScope N_Lmixed ["_law_cell", "_law_k"] (defScope s_Lmixed) := ⟨rfl, rfl, rfl, by decide +kernel, rfl, by decide +kernel, by decide +kernel⟩

def sp_Lmixed : Sp := fun vs H Q _ => ∃ c k : Int, vs = [.int c, .int k] ∧ Bd (2 ^ 31) c ∧ Bd (2 ^ 40) k ∧ ∀ z : Int, 0 ≤ z → z < 2147483587 → Q (.int z) H
theorem ok_Lmixed (T : Txt K mg c) {f : Addr} {fd : FuncData} (F : L2.Fun K "_law_mixed" "_law_mixed" s_Lmixed f fd) : FnOk P w K mg base CX0 1 f fd P_Lmixed sp_Lmixed := by
  refine F.ok sc_Lmixed (fun vs H Q E h => ?_) (fun cdv A outer s H vs Q E hr h => ?_)
  · obtain ⟨c, k, rfl, _⟩ := h
    rfl
  · obtain ⟨c, k, rfl, hc, hk, q⟩ := h
    refine ⟨_, (pss_cons (ps_set (i := 2) sc_Lmixed.nd rfl (by first | exact Or.inl rfl | exact Or.inr rfl) (pe_op op_modN (pe_op op_add (pe_op op_add (pe_op op_add (pe_op op_mulW (pv 0) pe_int) (pe_op op_mulW (pe_op op_mulW pe_int (pv 1)) (pv 1))) (pv 1)) pe_int) pe_int))
      (pss_cons (ps_set (i := 2) sc_Lmixed.nd rfl (by first | exact Or.inl rfl | exact Or.inr rfl) (pe_op op_modN (pe_op op_add (pe_op op_mulW (pv 2) (pv 2)) pe_int) pe_int))
      (pss_one (ps_ret (pe_op op_modN (pe_op op_mulW (pv 2) pe_int) pe_int))))), ?_⟩
    have m1 : ∀ x : Int, Bd 2147483647 (x.fmod 2147483647) := fun x => by
      have := fmod_bd (x := x) (j := 2147483647) (by decide)
      unfold Bd; omega
    have m2 : ∀ x : Int, Bd 2147483629 (x.fmod 2147483629) := fun x => by
      have := fmod_bd (x := x) (j := 2147483629) (by decide)
      unfold Bd; omega
    refine ⟨_, rfl, _, _, rfl, rfl, hc.cm (bd_lit (n := 1103515245)), _, rfl, _, _, rfl, rfl, (bd_lit (n := 7919)).cm hk, _, rfl, _, _, rfl, rfl, ((bd_lit (n := 7919)).mul hk).cm hk, _, _, rfl, rfl, _, rfl, _, _, rfl, rfl, _, _, rfl, rfl, _, _, rfl, rfl, (show (2147483647 : Int) ≠ 0 by decide), ?_⟩
    refine ⟨_, rfl, _, rfl, _, _, rfl, rfl, (m1 _).cm (m1 _), _, _, rfl, rfl, _, _, rfl, rfl, (show (2147483629 : Int) ≠ 0 by decide), ?_⟩
    refine ⟨_, rfl, _, _, rfl, rfl, (m2 _).cm (bd_lit (n := 48271)), _, _, rfl, rfl, (show (2147483587 : Int) ≠ 0 by decide), ?_⟩
    have := fmod_bd (x := (Int.fmod (Int.fmod (c * 1103515245 + 7919 * k * k + k + 1) 2147483647 * Int.fmod (c * 1103515245 + 7919 * k * k + k + 1) 2147483647 + 69621) 2147483629) * 48271) (j := 2147483587) (by decide)
    exact q _ this.1 this.2

abbrev s_Lpurse : Stmt := top 42
abbrev N_Lpurse : List Str := ["_law_script", "_law_at_here", "_law_cell"]
abbrev P_Lpurse : List Str := ["_law_script", "_law_at_here"]
theorem sc_Lpurse : FnScope N_Lpurse ["_law_script", "_law_at_here"] (defScope s_Lpurse) := ⟨rfl, rfl, rfl, by decide +kernel, rfl, by decide +kernel, by decide +kernel⟩

def sp_Lpurse (K : PySem.W.Frag) : Sp := fun vs H Q _ => ∃ (a : Addr) (ns : List Int) (j : Nat), vs = [.ref a, .int (j : Nat)] ∧ SqL K H a (ns.map V.int) ∧ j ≤ 100 ∧
  ∀ H' p, Same H H' → H p = none → Pur H' p (1000 * j) → Q (.ref p) H'
theorem ok_Lpurse (T : Txt K mg c) {f : Addr} {fd : FuncData} (F : L2.Fun K "_law_purse" "_law_purse" s_Lpurse f fd) (h_Lat : Cal P w K mg base 1 "_law_at" (sp_Lat K) []) : FnOk P w K mg base CX0 2 f fd P_Lpurse (sp_Lpurse K) := by
  refine F.ok sc_Lpurse (fun vs H Q E h => ?_) (fun cdv A outer s H vs Q E hr h => ?_)
  · obtain ⟨a, ns, j, rfl, _⟩ := h
    rfl
  · obtain ⟨a, ns, j, rfl, hS, hj, k⟩ := h
    refine ⟨_, (pss_cons (ps_set (i := 2) sc_Lpurse.nd rfl (by first | exact Or.inl rfl | exact Or.inr rfl) (pe_c h_Lat hr (by decide) rfl (pa_cons (pv 0) (pa_cons (pv 1) pa_nil))))
      (pss_one (ps_ret (pe_lst (pa_cons (pe_op op_modN (pe_callB (call_max2 rfl) (by rfl) T.z_max (by decide +kernel) (pa_cons (pe_op op_sub (pv 2) (pe_op op_powW pe_int pe_int)) (pa_cons pe_int pa_nil))) (pe_op op_powW (pe_op op_powW pe_int pe_int) pe_int)) (pa_cons (pe_op op_modN (pv 2) pe_int) (pa_cons (pe_op op_mulW pe_int (pv 1)) pa_nil))))))), ?_⟩
    refine ⟨_, rfl, _, rfl, a, ns, j, rfl, hS, fun z => ?_⟩
    have bj : Bd 100 (j : Int) := by unfold Bd; omega
    refine ⟨_, rfl, _, _, rfl, rfl, ⟨by decide, by decide +kernel⟩, _, _, rfl, rfl, _, _, rfl, _, _, rfl, rfl, ⟨by decide, by decide +kernel⟩, _, _, rfl, rfl, ⟨by decide, by decide +kernel⟩, _, _, rfl, rfl, (show ((10 : Int) ^ (60 : Int).toNat) ^ (40 : Int).toNat ≠ 0 by decide +kernel), _, rfl, _, _, rfl, rfl, (show (2147483647 : Int) ≠ 0 by decide), _, rfl, _, _, rfl, rfl, (bd_lit (n := 1000)).cm bj, sz3, fun p hp => ?_⟩
    refine k _ p (same_new hp) hp ⟨_, _, _, upd_same, ?_, ?_, ?_, ?_, ?_⟩
    · exact (fmod_bd (by decide +kernel)).1
    · exact (fmod_bd (j := 2147483647) (by decide)).1
    · exact (fmod_bd (j := 2147483647) (by decide)).2
    · omega
    · omega

abbrev s_Ldraw : Stmt := top 43
abbrev N_Ldraw : List Str := ["_law_purse_here", "_law_out_of", "_law_number_here", "_law_k", "_law_drawn"]
abbrev P_Ldraw : List Str := ["_law_purse_here", "_law_out_of"]
theorem sc_Ldraw : FnScope N_Ldraw ["_law_purse_here", "_law_out_of"] (defScope s_Ldraw) := ⟨rfl, rfl, rfl, by decide +kernel, rfl, by decide +kernel, by decide +kernel⟩

def sp_Ldraw : Sp := fun vs H Q _ => ∃ (a : Addr) (n : Int) (m : Nat), vs = [.ref a, .int n] ∧ 0 < n ∧ n < 2 ^ 200 ∧ Pur H a m ∧ m ≤ 2 ^ 30 ∧
  ∀ H' (z : Int), Xt a H H' → Pur H' a (m + 20) → 0 ≤ z → z < n → Q (.int z) H'
theorem bits_le {n : Int} (h0 : 0 < n) (h : n < 2 ^ 200) : Builtin.Int.intBits n ≤ 200 := by
  have h1 : n.natAbs < 2 ^ 200 := by
    have : (n.natAbs : Int) < ((2 ^ 200 : Nat) : Int) := by
      have e : ((2 ^ 200 : Nat) : Int) = 2 ^ 200 := by decide
      rw [e]; omega
    exact Int.ofNat_lt.mp this
  have h2 := PySem.Flt.log2_lt_of (by decide : 0 < 200) h1
  unfold Builtin.Int.intBits
  split <;> omega
theorem ok_Ldraw (T : Txt K mg c) {f : Addr} {fd : FuncData} (F : L2.Fun K "_law_draw" "_law_draw" s_Ldraw f fd) (h_Lmixed : Cal P w K mg base 1 "_law_mixed" sp_Lmixed []) : FnOk P w K mg base CX0 2 f fd P_Ldraw sp_Ldraw := by
  refine F.ok sc_Ldraw (fun vs H Q E h => ?_) (fun cdv A outer s H vs Q E hr h => ?_)
  · obtain ⟨a, n, m, rfl, _⟩ := h
    rfl
  · obtain ⟨a, n, m, rfl, hn, hn2, ⟨d, c, k0, ha, hd, hc, hc2, hk, hk2⟩, hm, k⟩ := h
    refine ⟨_, (pss_cons (ps_if (pt_cmpR op_gt (pe_ix ix_list (pv 0) pe_int (fun _ _ => rfl)) pe_int (nomark _)) (pss_cons (ps_set (i := 4) sc_Ldraw.nd rfl (by first | exact Or.inl rfl | exact Or.inr rfl) (pe_op op_modN (pe_ix ix_list (pv 0) pe_int (fun _ _ => rfl)) (pv 1)))
      (pss_cons (ps_asg (pe_op op_fdivA (pe_ix ix_list (pv 0) pe_int (fun _ _ => rfl)) (pv 1)) (pg_sub (pv 0) pe_int set_list))
      (pss_one (ps_ret (pv 4))))) pss_nil)
      (pss_cons (ps_set (i := 2) sc_Ldraw.nd rfl (by first | exact Or.inl rfl | exact Or.inr rfl) pe_int)
      (pss_cons (ps_for PassesOwn.never rfl (pi_range1 rfl T.z_range (pa_cons (pe_op op_add pe_int (pe_op op_fdivA (pe_bits (pv 1)) pe_int)) pa_nil)) (pg_name (i := 3) sc_Ldraw.nd rfl (by first | exact Or.inl rfl | exact Or.inr rfl)) (pss_cons (ps_asg (pe_op op_add (pe_ix ix_list (pv 0) pe_int (fun _ _ => rfl)) pe_int) (pg_sub (pv 0) pe_int set_list))
      (pss_one (ps_set (i := 2) sc_Ldraw.nd rfl (by first | exact Or.inl rfl | exact Or.inr rfl) (pe_op op_add (pe_op op_mulW (pv 2) pe_int) (pe_c h_Lmixed hr (by decide) rfl (pa_cons (pe_ix ix_list (pv 0) pe_int (fun _ _ => rfl)) (pa_cons (pe_ix ix_list (pv 0) pe_int (fun _ _ => rfl)) pa_nil))))))))
      (pss_one (ps_ret (pe_op op_modN (pv 2) (pv 1))))))), ?_⟩
    refine ⟨_, rfl, a, _, _, _, rfl, rfl, SqL.of ha, rfl, _, _, rfl, rfl, _, rfl, ?_⟩
    have szn : Sz 200 n := by
      unfold Sz
      have : (n.natAbs : Int) < ((2 ^ 200 : Nat) : Int) := by
        have e : ((2 ^ 200 : Nat) : Int) = 2 ^ 200 := by decide
        rw [e]; omega
      exact Int.ofNat_lt.mp this
    refine ite2 (fun hc0 => ?_) (fun hc0 => ?_)
    · have hd0 : 0 < d := of_decide_eq_true hc0
      refine ⟨_, rfl, a, _, _, _, rfl, rfl, SqL.of ha, rfl, _, rfl, _, _, rfl, rfl, Int.ne_of_gt hn, ?_⟩
      refine ⟨_, rfl, a, _, _, _, rfl, rfl, SqL.of ha, rfl, _, rfl, _, _, rfl, rfl, ⟨Int.ne_of_gt hn, szn.log (by decide) (by decide)⟩, _, rfl, a, _, _, _, rfl, rfl, ha, rfl, ?_⟩
      refine ⟨_, rfl, k _ _ Xt.upd ⟨_, _, _, upd_same, ?_, hc, hc2, hk, by omega⟩ (fmod_bd hn).1 (fmod_bd hn).2⟩
      rw [Int.fdiv_eq_ediv_of_nonneg d (by omega)]
      exact Int.ediv_nonneg hd (by omega)
    · refine ⟨_, rfl, _, rfl, _, _, rfl, rfl, ⟨(show (30 : Int) ≠ 0 by decide), (show (30 : Int).natAbs.log2 < 9000 by decide +kernel)⟩, _, _, rfl, rfl, ?_⟩
      have hb := bits_le hn hn2
      have hq : 0 ≤ Int.fdiv ((Builtin.Int.intBits n : Nat) : Int) 30 ∧ Int.fdiv ((Builtin.Int.intBits n : Nat) : Int) 30 ≤ 6 := by
        rw [Int.fdiv_eq_ediv_of_nonneg _ (by decide)]
        omega
      generalize Int.fdiv ((Builtin.Int.intBits n : Nat) : Int) 30 = e at hq ⊢
      refine ⟨1 + e, rfl, (show -(2 ^ 62 : Int) ≤ 1 + e by omega), (show 1 + e < (2 ^ 62 : Int) by omega), for_range (lo := 0) (n := (1 + e).toNat) (fun i σ H' => ∃ (fig : Int) (o1 o2 : Option V), σ = [some (.ref a), some (.int n), some (.int fig), o1, o2] ∧ Xt a H H' ∧ Pur H' a (m + i) ∧ Sz (40 * i + 1) fig ∧ 0 ≤ fig) ⟨0, none, none, rfl, Xt.refl _ _, ⟨d, c, k0, ha, hd, hc, hc2, hk, hk2⟩, (by decide : (0 : Int).natAbs < 2 ^ 1), by decide⟩ ?_ ?_⟩
      · rintro i σ H' hi ⟨fig, o1, o2, rfl, x1, ⟨d', c', k', ha', hd', hc', hc2', hk', hk2'⟩, sf, f0⟩
        have hi7 : i < 7 := by omega
        refine ⟨_, rfl, a, _, _, _, rfl, rfl, SqL.of ha', rfl, _, _, rfl, rfl, _, rfl, a, _, _, _, rfl, rfl, ha', rfl, ?_⟩
        refine ⟨_, rfl, _, _, rfl, rfl, sf.cmul (show Sz 40 2147483587 by unfold Sz; decide) (by omega) (by decide) (by omega), ?_⟩
        refine ⟨_, rfl, a, _, _, _, rfl, rfl, SqL.of upd_same, rfl, _, rfl, a, _, _, _, rfl, rfl, SqL.of upd_same, rfl, c', k' + 1, rfl, ?_, ?_, fun z z0 z1 => ?_⟩
        · unfold Bd; omega
        · unfold Bd; omega
        · refine ⟨_, _, rfl, rfl, ?_⟩
          refine ⟨fig * 2147483587 + z, _, _, rfl, x1.trans Xt.upd, ⟨d', c', k' + 1, upd_same, hd', hc', hc2', by omega, by omega⟩, ?_, ?_⟩
          · have s1 : Sz (40 * i + 1 + 39) (fig * 2147483587) := sf.mul (show Sz 39 2147483587 by unfold Sz; decide)
            have s2 : Sz (40 * i + 1 + 39) z := Sz.mono (n := 39) (by unfold Sz; omega) (by omega)
            exact (s1.add s2).mono (by omega)
          · have : 0 ≤ fig * 2147483587 := Int.mul_nonneg f0 (by decide)
            show 0 ≤ fig * 2147483587 + z
            omega
      · rintro σ H' ⟨fig, o1, o2, rfl, x1, hp, sf, f0⟩
        refine ⟨_, rfl, _, rfl, _, _, rfl, rfl, Int.ne_of_gt hn, ?_⟩
        exact k _ _ x1 (hp.mono (by omega)) (fmod_bd hn).1 (fmod_bd hn).2
end
end My

namespace My
open PySem PySem.Spec PyProof.Rows L2
open C8 (Cal pe_c pe_gc)
section
variable {c : Cs} {P : Program} {w : World} {K : PySem.W.Frag} {mg : Str → Option Value} {base : Heap}
abbrev s_NoPoly_init : Stmt := inClass (top 2) 0
abbrev N_NoPoly_init : List Str := ["self", "at"]
abbrev P_NoPoly_init : List Str := ["self", "at"]
theorem sc_NoPoly_init : FnScope N_NoPoly_init ["self", "at"] (defScope s_NoPoly_init) := ⟨rfl, rfl, rfl, by decide +kernel, rfl, by decide +kernel, by decide +kernel⟩

theorem ok_NoPoly_init (T : Txt K mg c) {dvs : List V} {kws : List (Str × V)} {f : Addr} {fd : FuncData} (F : FunD K "__init__" "NoPoly.__init__" (defArgs s_NoPoly_init) (defBody s_NoPoly_init) (defScope s_NoPoly_init) dvs kws f fd) : FnOk P w K mg base CX0 1 f fd P_NoPoly_init (sp_Ini K "at") := by
  refine F.ok sc_NoPoly_init (fun vs H Q E h => ?_) (fun cdv A outer s H vs Q E hr h => ?_)
  · obtain ⟨a, C, v, rfl, _⟩ := h
    rfl
  · obtain ⟨a, C, v, rfl, o, no, ha, k⟩ := h
    refine ⟨_, (pss_cons (ps_expr (pe_reinit rfl T.g_RootError T.ini_RootError (pa_cons (pv 0) (pa_cons pe_str pa_nil))))
      (pss_one (ps_ost (pv 0) (pv 1)))), ?_⟩
    refine ⟨_, rfl, a, C, _, rfl, (by decide), o, ha, ?_⟩
    exact ⟨_, rfl, _, rfl, a, C, rfl, o, no, .inl ⟨ha, fun dx n ne => k dx n ne⟩⟩
end
end My

namespace My
open PySem PySem.Spec PyProof.Rows L2
open C8 (Cal pe_c pe_gc)
section
variable {c : Cs} {P : Program} {w : World} {K : PySem.W.Frag} {mg : Str → Option Value} {base : Heap}

abbrev s_divisor : Stmt := top 18
abbrev N_divisor : List Str := ["one", "other"]
abbrev P_divisor : List Str := ["one", "other"]
theorem sc_divisor : FnScope N_divisor ["one", "other"] (defScope s_divisor) := ⟨rfl, rfl, rfl, by decide +kernel, rfl, by decide +kernel, by decide +kernel⟩

def sp_divisor : Sp := fun vs H Q _ => ∃ a b : Int, vs = [.int a, .int b] ∧ Q (.int (Int.gcd a b : Nat)) H
theorem ok_divisor (T : Txt K mg c) {f : Addr} {fd : FuncData} (F : L2.Fun K "divisor" "divisor" s_divisor f fd) : FnOk P w K mg base CX0 1 f fd ["one", "other"] sp_divisor := by
  refine F.ok sc_divisor (fun vs H Q E h => ?_) (fun cdv A outer s H vs Q E hr h => ?_)
  · obtain ⟨a, b, rfl, _⟩ := h
    rfl
  · obtain ⟨a, b, rfl, k⟩ := h
    refine ⟨_, (pss_cons (ps_while PassesOwn.never (pt_cmpR op_ne (pv 1) pe_int (nomark _)) (pss_one (ps_par (i := 0) (j := 1) (by rfl) sc_divisor.nd rfl rfl (by decide) rfl rfl (pa_cons (pv 1) (pa_cons (pe_op op_modN (pv 0) (pv 1)) pa_nil)) (by rfl))))
      (pss_one (ps_ret (pe_callB call_abs (by rfl) T.z_abs (by decide +kernel) (pa_cons (pv 0) pa_nil))))), ?_⟩
    refine while_by (fun σ H' => H' = H ∧ ∃ x y : Int, σ = [some (.int x), some (.int y)] ∧ Int.gcd x y = Int.gcd a b) (fun σ _ => match σ with | [_, some (.int y)] => y.natAbs | _ => 0) ⟨rfl, a, b, rfl, rfl⟩ ?_ ?_
    · rintro σ H' ⟨rfl, x, y, rfl, hg⟩
      refine ⟨_, rfl, rfl, _, rfl, ?_⟩
      refine ite2 (fun hc => ?_) (fun hc => ?_)
      · have hy : y ≠ 0 := by simpa using hc
        refine ⟨_, rfl, _, rfl, _, rfl, _, _, rfl, rfl, hy, _, _, rfl, ?_⟩
        exact ⟨⟨rfl, _, _, rfl, (gcd_fmod x y).trans hg⟩, fmod_lt hy⟩
      · have hy : y = 0 := by simpa using hc
        refine ⟨_, rfl, _, rfl, ?_⟩
        subst hy
        have e : (if x < 0 then -x else x) = ((Int.gcd a b : Nat) : Int) := by
          rw [← hg]
          rw [Int.gcd_zero_right]
          split <;> omega
        show Q (.int (if x < 0 then -x else x)) _
        rw [e]
        exact k
    · rintro σ H Q Q' hq ⟨v, h1, h2, k, h3, h4⟩
      exact ⟨v, h1, h2, k, h3, hq _ _ h4⟩

abbrev s_lowest : Stmt := top 19
abbrev N_lowest : List Str := ["top", "bottom", "share"]
abbrev P_lowest : List Str := ["top", "bottom"]
theorem sc_lowest : FnScope N_lowest ["top", "bottom"] (defScope s_lowest) := ⟨rfl, rfl, rfl, by decide +kernel, rfl, by decide +kernel, by decide +kernel⟩

def sp_lowest (K : PySem.W.Frag) : Sp := fun vs H Q _ => ∃ q : Int × Int, vs = [.int q.1, .int q.2] ∧ q.2 ≠ 0 ∧ Sz 8000 q.2 ∧ ∀ H' p, Same H H' → H' p = some (.tup (frV (low q))) → H p = none → Q (.ref p) H'
theorem ok_lowest (T : Txt K mg c) {f : Addr} {fd : FuncData} (F : L2.Fun K "lowest" "lowest" s_lowest f fd) (h_divisor : Cal P w K mg base 1 "divisor" sp_divisor []) : FnOk P w K mg base CX0 2 f fd ["top", "bottom"] (sp_lowest K) := by
  refine F.ok sc_lowest (fun vs H Q E h => ?_) (fun cdv A outer s H vs Q E hr h => ?_)
  · obtain ⟨q, rfl, _⟩ := h
    rfl
  · obtain ⟨⟨t, b⟩, rfl, hb, hz, k⟩ := h
    refine ⟨_, (pss_cons (ps_set (i := 2) sc_lowest.nd rfl (by first | exact Or.inl rfl | exact Or.inr rfl) (pe_c h_divisor hr (by decide) rfl (pa_cons (pv 0) (pa_cons (pv 1) pa_nil))))
      (pss_cons (ps_if (pt_cmpR op_lt (pv 1) pe_int (nomark _)) (pss_one (ps_set (i := 2) sc_lowest.nd rfl (by first | exact Or.inl rfl | exact Or.inr rfl) (pe_op op_sub pe_int (pv 2)))) pss_nil)
      (pss_one (ps_ret (pe_tup (pa_cons (pe_op op_fdivA (pv 0) (pv 2)) (pa_cons (pe_op op_fdivA (pv 1) (pv 2)) pa_nil))))))), ?_⟩
    have hb : b ≠ 0 := hb
    refine ⟨_, rfl, _, rfl, t, b, rfl, ?_⟩
    refine ⟨_, rfl, _, _, rfl, rfl, _, rfl, ?_⟩
    have sgo : shr t b ≠ 0 ∧ (shr t b).natAbs.log2 < 9000 := by
      refine ⟨shr_ne hb, ?_⟩
      have : Sz 8000 (shr t b) := by
        unfold Sz
        rw [shr_abs]
        have : Int.gcd t b ≤ b.natAbs := Nat.le_of_dvd (by omega) (Int.gcd_dvd_natAbs_right t b)
        exact Nat.lt_of_le_of_lt this hz
      exact this.log (by decide) (by decide)
    refine ite2 (fun hc => ?_) (fun hc => ?_)
    · have hn : b < 0 := by simpa using hc
      have e : (0 : Int) - ((Int.gcd t b : Nat) : Int) = shr t b := by unfold shr sg; rw [if_pos hn]; omega
      have c : ∀ i, CFd i ((0 : Int) - ((Int.gcd t b : Nat) : Int)) := fun i => by rw [e]; exact sgo
      refine ⟨_, rfl, _, _, rfl, rfl, ?_⟩
      refine ⟨_, rfl, _, rfl, _, _, rfl, rfl, c _, _, rfl, _, rfl, _, _, rfl, rfl, c _, sz2, fun p hp => ?_⟩
      refine k _ p (fun b o q => by rw [upd_ne (ne_of_none q hp)]; exact q) ?_ hp
      rw [upd_same]
      unfold frV low lowT lowB
      rw [← e]
    · have hn : ¬ b < 0 := by simpa using hc
      have e : ((Int.gcd t b : Nat) : Int) = shr t b := by unfold shr sg; rw [if_neg hn]; omega
      have c : ∀ i, CFd i ((Int.gcd t b : Nat) : Int) := fun i => by rw [e]; exact sgo
      refine ⟨_, rfl, _, rfl, _, _, rfl, rfl, c _, _, rfl, _, rfl, _, _, rfl, rfl, c _, sz2, fun p hp => ?_⟩
      refine k _ p (fun b o q => by rw [upd_ne (ne_of_none q hp)]; exact q) ?_ hp
      rw [upd_same]
      unfold frV low lowT lowB
      rw [← e]
end
end My

namespace My
open PySem PySem.Spec PyProof.Rows L2
open C8 (Cal pe_c pe_gc)
section
variable {c : Cs} {P : Program} {w : World} {K : PySem.W.Frag} {mg : Str → Option Value} {base : Heap}

abbrev s_told_by : Stmt := top 20
abbrev N_told_by : List Str := ["polynomial", "c", "b", "a"]
abbrev P_told_by : List Str := ["polynomial"]
theorem sc_told_by : FnScope N_told_by ["polynomial"] (defScope s_told_by) := ⟨rfl, rfl, rfl, by decide +kernel, rfl, by decide +kernel, by decide +kernel⟩

def sp_told_by (K : PySem.W.Frag) : Sp := fun vs H Q _ => ∃ (a : Addr) (ns : List Int), vs = [.ref a] ∧ SqL K H a (ns.map V.int) ∧ 2 ≤ ns.length ∧ ns.length ≤ 5 ∧ (∀ x ∈ ns, Bd 100 x) ∧ ∀ H', Same H H' → Q (.int (toldOf ns)) H'
theorem ok_told_by (T : Txt K mg c) {f : Addr} {fd : FuncData} (F : L2.Fun K "told_by" "told_by" s_told_by f fd) : FnOk P w K mg base CX0 1 f fd ["polynomial"] (sp_told_by K) := by
  refine F.ok sc_told_by (fun vs H Q E h => ?_) (fun cdv A outer s H vs Q E hr h => ?_)
  · obtain ⟨a, ns, rfl, _⟩ := h
    rfl
  · obtain ⟨p, ns, rfl, hS, l2, l5, sm, k⟩ := h
    refine ⟨_, (pss_cons (ps_if (pt_cmpR op_eq (pe_callB call_len_seq (by rfl) T.z_len (by decide +kernel) (pa_cons (pv 0) pa_nil)) pe_int (nomark _)) (pss_one (ps_ret pe_int)) pss_nil)
      (pss_cons (ps_if (pt_cmpR op_eq (pe_callB call_len_seq (by rfl) T.z_len (by decide +kernel) (pa_cons (pv 0) pa_nil)) pe_int (nomark _)) (pss_one (ps_ret (pe_op op_sub (pe_op op_mulW (pe_ix ix_list (pv 0) pe_int (fun _ _ => rfl)) (pe_ix ix_list (pv 0) pe_int (fun _ _ => rfl))) (pe_op op_mulW pe_int (pe_ix ix_list (pv 0) pe_int (fun _ _ => rfl)))))) pss_nil)
      (pss_cons (ps_asg (pe_slice sl_list (pv 0) po_none (po_some pe_int)) (pg_unl rfl (pgs_cons (pg_name (i := 1) sc_told_by.nd rfl (by first | exact Or.inl rfl | exact Or.inr rfl)) (pgs_cons (pg_name (i := 2) sc_told_by.nd rfl (by first | exact Or.inl rfl | exact Or.inr rfl)) (pgs_cons (pg_name (i := 3) sc_told_by.nd rfl (by first | exact Or.inl rfl | exact Or.inr rfl)) pgs_nil)))))
      (pss_cons (ps_if (pt_cmpR op_eq (pe_callB call_len_seq (by rfl) T.z_len (by decide +kernel) (pa_cons (pv 0) pa_nil)) pe_int (nomark _)) (pss_one (ps_ret (pe_op op_mulW (pv 1) (pe_op op_sub (pe_op op_mulW (pv 3) (pv 3)) (pe_op op_mulW pe_int (pv 1)))))) pss_nil)
      (pss_one (ps_ret (pe_op op_sub (pe_op op_sub (pe_op op_add (pe_op op_sub (pe_op op_mulW (pe_op op_mulW (pe_op op_mulW pe_int (pv 3)) (pv 2)) (pv 1)) (pe_op op_mulW (pe_op op_mulW (pe_op op_mulW (pe_op op_mulW pe_int (pv 3)) (pv 3)) (pv 3)) (pv 1))) (pe_op op_mulW (pe_op op_mulW (pe_op op_mulW (pv 3) (pv 3)) (pv 2)) (pv 2))) (pe_op op_mulW (pe_op op_mulW (pe_op op_mulW pe_int (pv 2)) (pv 2)) (pv 2))) (pe_op op_mulW (pe_op op_mulW pe_int (pv 1)) (pv 1))))))))), ?_⟩
    refine ⟨_, rfl, p, _, rfl, .inl hS, rfl, _, rfl, ?_⟩
    rcases ns with _ | ⟨c, _ | ⟨b, _ | ⟨a, _ | ⟨d, _ | ⟨e, _ | ⟨g, r⟩⟩⟩⟩⟩⟩
    · simp at l2
    · simp at l2
    · refine ite2 (fun hc => ?_) (fun hc => absurd (by simp) hc)
      exact k _ (Same.refl H)
    · have bc : Bd 100 c := sm _ (by simp)
      have bb : Bd 100 b := sm _ (by simp)
      refine ite2 (fun hc => absurd hc (by simp)) (fun hc => ?_)
      refine ⟨_, rfl, p, _, rfl, .inl hS, rfl, _, rfl, ?_⟩
      refine ite2 (fun hc => ?_) (fun hc => absurd (by simp) hc)
      refine ⟨_, rfl, p, _, _, _, rfl, rfl, hS, rfl, _, rfl, p, _, _, _, rfl, rfl, hS, rfl, _, _, rfl, rfl, bb.cm bb, _, rfl, p, _, _, _, rfl, rfl, hS, rfl, _, _, rfl, rfl, (bd_lit (n := 4)).cm bc, _, _, rfl, rfl, ?_⟩
      exact k _ (Same.refl H)
    · have bc : Bd 100 c := sm _ (by simp)
      have bb : Bd 100 b := sm _ (by simp)
      have ba : Bd 100 a := sm _ (by simp)
      refine ite2 (fun hc => absurd hc (by simp)) (fun hc => ?_)
      refine ⟨_, rfl, p, _, rfl, .inl hS, rfl, _, rfl, ?_⟩
      refine ite2 (fun hc => absurd hc (by simp)) (fun hc => ?_)
      refine ⟨_, rfl, _, rfl, p, _, rfl, hS, fun q hq => ?_⟩
      refine ⟨q, _, rfl, SqL.of upd_same, rfl, _, _, rfl, _, _, rfl, _, _, rfl, rfl, ?_⟩
      have hS' : SqL K (upd H q (.lst (cutV (List.map V.int [c, b, a, d]) none (some 3)))) p (List.map V.int [c, b, a, d]) := (same_new hq).seq hS
      refine ⟨_, rfl, p, _, rfl, .inl hS', rfl, _, rfl, ?_⟩
      refine ite2 (fun hc => absurd hc (by simp)) (fun hc => ?_)
      have b18 : Bd 18 18 := bd_lit
      have b4 : Bd 4 4 := bd_lit
      have b27 : Bd 27 27 := bd_lit
      refine ⟨_, rfl, _, _, rfl, rfl, b18.cm ba, _, rfl, _, _, rfl, rfl, (b18.mul ba).cm bb, _, rfl, _, _, rfl, rfl, ((b18.mul ba).mul bb).cm bc,
        _, rfl, _, _, rfl, rfl, b4.cm ba, _, rfl, _, _, rfl, rfl, (b4.mul ba).cm ba, _, rfl, _, _, rfl, rfl, ((b4.mul ba).mul ba).cm ba, _, rfl, _, _, rfl, rfl, (((b4.mul ba).mul ba).mul ba).cm bc, _, _, rfl, rfl,
        _, rfl, _, rfl, _, _, rfl, rfl, ba.cm ba, _, rfl, _, _, rfl, rfl, (ba.mul ba).cm bb, _, rfl, _, _, rfl, rfl, ((ba.mul ba).mul bb).cm bb, _, _, rfl, rfl,
        _, rfl, _, _, rfl, rfl, b4.cm bb, _, rfl, _, _, rfl, rfl, (b4.mul bb).cm bb, _, rfl, _, _, rfl, rfl, ((b4.mul bb).mul bb).cm bb, _, _, rfl, rfl,
        _, rfl, _, _, rfl, rfl, b27.cm bc, _, rfl, _, _, rfl, rfl, (b27.mul bc).cm bc, _, _, rfl, rfl, ?_⟩
      exact k _ (same_new hq)
    · have bc : Bd 100 c := sm _ (by simp)
      have ba : Bd 100 a := sm _ (by simp)
      refine ite2 (fun hc => absurd hc (by simp)) (fun hc => ?_)
      refine ⟨_, rfl, p, _, rfl, .inl hS, rfl, _, rfl, ?_⟩
      refine ite2 (fun hc => absurd hc (by simp)) (fun hc => ?_)
      refine ⟨_, rfl, _, rfl, p, _, rfl, hS, fun q hq => ?_⟩
      refine ⟨q, _, rfl, SqL.of upd_same, rfl, _, _, rfl, _, _, rfl, _, _, rfl, rfl, ?_⟩
      have hS' : SqL K (upd H q (.lst (cutV (List.map V.int [c, b, a, d, e]) none (some 3)))) p (List.map V.int [c, b, a, d, e]) := (same_new hq).seq hS
      refine ⟨_, rfl, p, _, rfl, .inl hS', rfl, _, rfl, ?_⟩
      refine ite2 (fun hc => ?_) (fun hc => absurd (by simp) hc)
      have b4 : Bd 4 4 := bd_lit
      refine ⟨_, rfl, _, rfl, _, rfl, _, _, rfl, rfl, ba.cm ba, _, rfl, _, _, rfl, rfl, b4.cm bc, _, _, rfl, rfl, _, _, rfl, rfl, bc.cm ((ba.mul ba).sub (b4.mul bc)), ?_⟩
      exact k _ (same_new hq)
    · simp at l5

end
end My

namespace My
open PySem PySem.Spec PyProof.Rows L2
open C8 (Cal pe_c pe_gc)
theorem atI_last {ns : List Int} (h : 0 < ns.length) : ∃ z, atI ns (-1) = some z := by
  have e : ixN ns.length (-1) = some (ns.length - 1) := by
    unfold ixN
    rw [if_neg (by decide), if_pos (by omega)]
    congr 1
    omega
  exact ⟨ns[ns.length - 1], by unfold atI; rw [e]; exact List.getElem?_eq_getElem (by omega)⟩
def firstBig : List Int → Option Nat
  | [] => none
  | x :: r => if 100 < x.natAbs then some 0 else (firstBig r).map (· + 1)
theorem fb_some : ∀ (ns : List Int) (i : Nat) (z : Int), ns[i]? = some z → 100 < z.natAbs → (∀ j y, j < i → ns[j]? = some y → y.natAbs ≤ 100) → firstBig ns = some i
  | [], i, z, h, _, _ => by simp at h
  | x :: r, 0, z, h, b, _ => by
    have e : x = z := Option.some.inj h
    subst e
    exact if_pos b
  | x :: r, i + 1, z, h, b, s => by
    have sx := s 0 x (by omega) rfl
    have ih := fb_some r i z h b fun j y hj hy => s (j + 1) y (by omega) hy
    show (if 100 < x.natAbs then some 0 else (firstBig r).map (· + 1)) = some (i + 1)
    rw [if_neg (by omega), ih]; rfl
theorem fb_none : ∀ (ns : List Int), (∀ y ∈ ns, y.natAbs ≤ 100) → firstBig ns = none
  | [], _ => rfl
  | x :: r, s => by
    have sx := s x (List.mem_cons_self ..)
    have ih := fb_none r fun y hy => s y (List.mem_cons_of_mem _ hy)
    show (if 100 < x.natAbs then some 0 else (firstBig r).map (· + 1)) = none
    rw [if_neg (by omega), ih]; rfl
/-- behind the first look: good?, the place at fault -/
def fault3 (ns : List Int) : Bool × Option Nat :=
  if atI ns (-1) ≠ some 1 then (false, some (ns.length - 1))
  else if ns.length = 5 ∧ ns[1]? ≠ some 0 then (false, some 1)
  else if ns.length = 5 ∧ ns[3]? ≠ some 0 then (false, some 3)
  else (decide (toldOf ns ≠ 0), none)
def faultOf (ns : List Int) : Bool × Option Nat :=
  if ns.length < 2 ∨ 5 < ns.length then (false, none)
  else match firstBig ns with
  | some k => (false, some k)
  | none => fault3 ns
theorem fault_len {ns : List Int} (h : ns.length < 2 ∨ 5 < ns.length) : faultOf ns = (false, none) := if_pos h
theorem fault_big {ns : List Int} {i : Nat} {z : Int} (h : ¬ (ns.length < 2 ∨ 5 < ns.length)) (hi : ns[i]? = some z) (b : 100 < z.natAbs) (s : ∀ j y, j < i → ns[j]? = some y → y.natAbs ≤ 100) : faultOf ns = (false, some i) := by
  unfold faultOf
  rw [if_neg h, fb_some ns i z hi b s]
theorem fault_small {ns : List Int} (h : ¬ (ns.length < 2 ∨ 5 < ns.length)) (s : ∀ y ∈ ns, y.natAbs ≤ 100) : faultOf ns = fault3 ns := by
  unfold faultOf
  rw [if_neg h, fb_none ns s]
theorem fb_all : ∀ (ns : List Int), firstBig ns = none → ∀ y ∈ ns, y.natAbs ≤ 100
  | [], _, y, hy => by cases hy
  | x :: r, h, y, hy => by
    have h' : (if 100 < x.natAbs then some 0 else (firstBig r).map (· + 1)) = none := h
    by_cases b : 100 < x.natAbs
    · rw [if_pos b] at h'; cases h'
    · rw [if_neg b] at h'
      have hr : firstBig r = none := by
        cases e : firstBig r with
        | none => rfl
        | some k => rw [e] at h'; cases h'
      rcases List.mem_cons.mp hy with rfl | hy
      · omega
      · exact fb_all r hr y hy
theorem good_of {ns : List Int} (h : (faultOf ns).1 = true) : GoodP ns := by
  unfold faultOf at h
  by_cases hl : ns.length < 2 ∨ 5 < ns.length
  · rw [if_pos hl] at h; cases h
  · rw [if_neg hl] at h
    cases e : firstBig ns with
    | some k => rw [e] at h; cases h
    | none =>
      rw [e] at h
      have sm := fb_all ns e
      have h : (fault3 ns).1 = true := h
      unfold fault3 at h
      by_cases c1 : atI ns (-1) ≠ some 1
      · rw [if_pos c1] at h; cases h
      · rw [if_neg c1] at h
        by_cases c2 : ns.length = 5 ∧ ns[1]? ≠ some 0
        · rw [if_pos c2] at h; cases h
        · rw [if_neg c2] at h
          by_cases c3 : ns.length = 5 ∧ ns[3]? ≠ some 0
          · rw [if_pos c3] at h; cases h
          · rw [if_neg c3] at h
            exact ⟨by omega, by omega, fun x hx => sm x hx, Classical.not_not.mp c1, fun l => Classical.not_not.mp fun z => c2 ⟨l, z⟩, fun l => Classical.not_not.mp fun z => c3 ⟨l, z⟩, of_decide_eq_true h⟩
def atV : Option Nat → V
  | some k => .int (k : Nat)
  | none => .non
section
variable {c : Cs} {P : Program} {w : World} {K : PySem.W.Frag} {mg : Str → Option Value} {base : Heap}
abbrev s_must_poly : Stmt := top 21
abbrev N_must_poly : List Str := ["polynomial", "many", "at", "number"]
abbrev P_must_poly : List Str := ["polynomial"]
theorem sc_must_poly : FnScope N_must_poly ["polynomial"] (defScope s_must_poly) := ⟨rfl, rfl, rfl, by decide +kernel, rfl, by decide +kernel, by decide +kernel⟩

def sp_must_poly (K : PySem.W.Frag) (c : Cs) : Sp := fun vs H Q E => ∃ (a : Addr) (ns : List Int), vs = [.ref a] ∧ SqL K H a (ns.map V.int) ∧ ((faultOf ns).1 = true → ∀ H', Same H H' → Q .non H') ∧
  ((faultOf ns).1 = false → ∀ d H', Same H H' → H d = none → H' d = some (.xd [("at", atV (faultOf ns).2)]) → E (.ref c.NoPoly) (some d) H')
theorem ok_must_poly (T : Txt K mg c) {f : Addr} {fd : FuncData} (F : L2.Fun K "must_poly" "must_poly" s_must_poly f fd) (h_told_by : Cal P w K mg base 1 "told_by" (sp_told_by K) []) (i_NoPoly : IniCal P w K mg base 1 "NoPoly" c.NoPoly "at" .non) : FnOk P w K mg base (L2N.CX P w) 3 f fd P_must_poly (sp_must_poly K c) := by
  refine okXN0 F sc_must_poly (fun vs H Q E h => ?_) (fun cdv A outer s H vs Q E hr h => ?_)
  · obtain ⟨a, ns, rfl, _⟩ := h
    rfl
  · obtain ⟨p, ns, rfl, hS, k, kx⟩ := h
    have bad : ∀ at_ : Option Nat, faultOf ns = (false, at_) → ∀ d H', Same H H' → H d = none → H' d = some (.xd [("at", atV at_)]) → E (.ref c.NoPoly) (some d) H' := fun at_ e d H' sm n hd => by
      have h1 : (faultOf ns).1 = false := by rw [e]
      have h2 : (faultOf ns).2 = at_ := by rw [e]
      exact kx h1 d H' sm n (by rw [h2]; exact hd)
    refine ⟨_, (pss_cons (ps_set (i := 1) sc_must_poly.nd rfl (by first | exact Or.inl rfl | exact Or.inr rfl) (pe_callB call_len_seq (by rfl) T.z_len (by decide +kernel) (pa_cons (pv 0) pa_nil)))
      (pss_cons (ps_if (pt_not (pt_chain op_le op_le pe_int (pv 1) pe_int)) (pss_one (L2N.ps_raise rfl (L2N.takes_of rfl rfl rfl rfl) (pmk_np0N i_NoPoly hr (by decide) rfl))) pss_nil)
      (pss_cons (ps_for (passes_of rfl) rfl (pi_enum (by rfl) T.z_enumerate (pa_cons (pv 0) pa_nil)) (pg_tup rfl (pgs_cons (pg_name (i := 2) sc_must_poly.nd rfl (by first | exact Or.inl rfl | exact Or.inr rfl)) (pgs_cons (pg_name (i := 3) sc_must_poly.nd rfl (by first | exact Or.inl rfl | exact Or.inr rfl)) pgs_nil))) (pss_one (ps_if (pt_cmpR op_gt (pe_callB call_abs (by rfl) T.z_abs (by decide +kernel) (pa_cons (pv 3) pa_nil)) (pe_gc rfl T.mg_MOST) (nomark _)) (pss_one (L2N.ps_raise rfl (L2N.takes_of rfl rfl rfl rfl) (pmk_npKN i_NoPoly hr (by decide) rfl (pk_cons (pv 2) pk_nil)))) pss_nil)))
      (pss_cons (ps_if (pt_cmpR op_ne (pe_ix ix_list (pv 0) (pe_un un_neg pe_int) (fun _ _ => rfl)) pe_int (nomark _)) (pss_one (L2N.ps_raise rfl (L2N.takes_of rfl rfl rfl rfl) (pmk_npKN i_NoPoly hr (by decide) rfl (pk_cons (pe_op op_sub (pv 1) pe_int) pk_nil)))) pss_nil)
      (pss_cons (ps_for (passes_of rfl) rfl (pi_list (pe_lst (pa_cons pe_int (pa_cons pe_int pa_nil)))) (pg_name (i := 2) sc_must_poly.nd rfl (by first | exact Or.inl rfl | exact Or.inr rfl)) (pss_one (ps_if (PW.pt (pw_and (pt_cmpR op_eq (pv 1) pe_int (nomark _)) (pw_and1 (pt_cmpR op_ne (pe_ix ix_list (pv 0) (pv 2) (fun _ _ => rfl)) pe_int (nomark _))))) (pss_one (L2N.ps_raise rfl (L2N.takes_of rfl rfl rfl rfl) (pmk_npKN i_NoPoly hr (by decide) rfl (pk_cons (pv 2) pk_nil)))) pss_nil)))
      (pss_one (ps_if (pt_cmpR op_eq (pe_c h_told_by hr (by decide) rfl (pa_cons (pv 0) pa_nil)) pe_int (nomark _)) (pss_one (L2N.ps_raise rfl (L2N.takes_of rfl rfl rfl rfl) (pmk_np0N i_NoPoly hr (by decide) rfl))) pss_nil))))))), ?_⟩
    refine ⟨_, rfl, p, _, rfl, .inl hS, ?_⟩
    have e0 : (List.map V.int ns).length = ns.length := List.length_map _
    refine ⟨_, rfl, _, _, rfl, rfl, _, rfl, ?_⟩
    refine ite2 (fun ha => ?_) (fun ha => ?_)
    · have ha' : 2 ≤ ns.length := by
        have := of_decide_eq_true ha
        rw [e0] at this
        omega
      refine ⟨_, _, rfl, rfl, _, rfl, ?_⟩
      refine ite2 (fun hb => ?_) (fun hb => ?_)
      · have hb' : 5 < ns.length := by
          have : ¬ (((List.map V.int ns).length : Nat) : Int) ≤ 5 := fun z => by rw [decide_eq_true z] at hb; cases hb
          rw [e0] at this
          omega
        exact fun d H' sm n hd => bad none (fault_len (.inr hb')) d H' sm n hd
      · have hb' : ns.length ≤ 5 := by
          have : (((List.map V.int ns).length : Nat) : Int) ≤ 5 := by
            refine Classical.byContradiction fun z => hb ?_
            rw [decide_eq_false z]; rfl
          rw [e0] at this
          omega
        have hl : ¬ (ns.length < 2 ∨ 5 < ns.length) := by omega
        refine ⟨_, rfl, p, _, rfl, hS, for_it walk_enum (fun i σ H' => (∃ o1 o2 : Option V, σ = [some (.ref p), some (.int ((List.map V.int ns).length : Nat)), o1, o2]) ∧ Same H H' ∧ ∀ j y, j < i → ns[j]? = some y → y.natAbs ≤ 100) ⟨⟨none, none, rfl⟩, Same.refl H, fun j y hj => by omega⟩ (fun i σ H' _ ⟨_, sm, _⟩ => sm.seq hS) ?_ ?_⟩
        · rintro i x σ H1 H' hi ⟨⟨o1, o2, rfl⟩, sm, bd⟩ ⟨t, y1, y2, rfl, hn, rfl, hy1, hy2⟩
          cases hy1
          obtain ⟨z, hz, rfl⟩ := item_of hy2
          refine ⟨t, _, rfl, SqT.of upd_same, rfl, _, _, rfl, _, _, rfl, rfl, ?_⟩
          refine ⟨_, rfl, _, rfl, _, _, rfl, rfl, _, rfl, ?_⟩
          refine ite2 (fun hc => ?_) (fun hc => ?_)
          · have big : 100 < z.natAbs := by
              have := of_decide_eq_true hc
              rw [abs_int] at this
              omega
            exact ⟨_, rfl, _, rfl, fun d H2 s2 n hd => bad (some i) (fault_big hl hz big bd) d H2 ((sm.trans (same_new hn)).trans s2) ((sm.trans (same_new hn)).free n) hd⟩
          · have sml : z.natAbs ≤ 100 := by
              have : ¬ (100 : Int) < (if z < 0 then -z else z) := fun q => hc (decide_eq_true q)
              rw [abs_int] at this
              omega
            refine ⟨⟨_, _, rfl⟩, sm.trans (same_new hn), fun j y hj hy => ?_⟩
            by_cases e : j = i
            · rw [e, hz] at hy
              cases hy
              exact sml
            · exact bd j y (by omega) hy
        · rintro σ H1 ⟨⟨o1, o2, rfl⟩, sm, bd⟩
          have all : ∀ y ∈ ns, y.natAbs ≤ 100 := fun y hy => by
            obtain ⟨j, hj, e⟩ := List.getElem_of_mem hy
            refine bd j y (by rw [List.length_map]; exact hj) ?_
            rw [List.getElem?_eq_getElem hj, e]
          have ef := fault_small hl all
          obtain ⟨z, hz⟩ := atI_last (ns := ns) (by omega)
          refine ⟨_, rfl, _, rfl, p, _, _, _, rfl, rfl, sm.seq hS, atI_map hz, rfl, _, rfl, ?_⟩
          refine ite2 (fun hc => ?_) (fun hc => ?_)
          · have z1 : z ≠ 1 := fun e => by rw [e] at hc; cases hc
            have f3 : faultOf ns = (false, some (ns.length - 1)) := by
              rw [ef]
              exact if_pos (fun q => z1 (by rw [hz] at q; exact Option.some.inj q))
            refine ⟨_, rfl, _, _, rfl, rfl, _, rfl, fun d H2 s2 n hd => bad _ f3 d H2 (sm.trans s2) (sm.free n) ?_⟩
            have e1 : atV (some (ns.length - 1)) = V.int ((((List.map V.int ns).length : Nat) : Int) - 1) := by
              show V.int ((ns.length - 1 : Nat) : Int) = _
              rw [e0]
              congr 1
              omega
            rw [e1]; exact hd
          · have z1 : z = 1 := by
              refine Classical.byContradiction fun q => hc ?_
              have : ¬ (V.int z = V.int 1) := fun w => q (by injection w)
              rw [decide_eq_false this]; rfl
            subst z1
            refine ⟨sz2, fun l hl_ => ?_⟩
            have sm1 : Same H (upd H1 l (.lst [V.int 1, V.int 3])) := sm.trans (same_new hl_)
            refine ⟨l, rfl, ⟨_, SqL.of upd_same⟩, for_list (K := K) (a := l) (xs := [V.int 1, V.int 3]) (fun i σ H' => (∃ o1 o2 : Option V, σ = [some (.ref p), some (.int ((List.map V.int ns).length : Nat)), o1, o2]) ∧ Same (upd H1 l (.lst [V.int 1, V.int 3])) H' ∧ (0 < i → ns.length = 5 → ns[1]? = some 0) ∧ (1 < i → ns.length = 5 → ns[3]? = some 0)) ⟨⟨_, _, rfl⟩, Same.refl _, by omega, by omega⟩ (fun i σ H' _ ⟨_, s2, _⟩ => s2.seq (SqL.of upd_same)) ?_ ?_⟩
            · rintro i x σ H' hi ⟨⟨o1, o2, rfl⟩, s2, g1, g3⟩
              have sm2 := sm1.trans s2
              refine ⟨_, rfl, rfl, _, rfl, ?_⟩
              have hix : (i = 0 ∧ x = .int 1) ∨ (i = 1 ∧ x = .int 3) := by
                rcases i with _ | _ | i
                · exact .inl ⟨rfl, (Option.some.inj hi).symm⟩
                · exact .inr ⟨rfl, (Option.some.inj hi).symm⟩
                · simp at hi
              refine ite2 (fun hc => ?_) (fun hc => ?_)
              · have h5 : ns.length = 5 := by
                  have := of_decide_eq_true hc
                  injection this with this
                  rw [e0] at this
                  omega
                have key : ∃ (j : Nat) (y : Int), x = V.int j ∧ ns[j]? = some y ∧ (y ≠ 0 → faultOf ns = (false, some j)) ∧ (y = 0 → (0 < i + 1 → ns.length = 5 → ns[1]? = some 0) ∧ (1 < i + 1 → ns.length = 5 → ns[3]? = some 0)) := by
                  have nl : ¬ (atI ns (-1) ≠ some 1) := fun q => q hz
                  rcases hix with ⟨rfl, rfl⟩ | ⟨rfl, rfl⟩
                  · refine ⟨1, ns[1], rfl, List.getElem?_eq_getElem (by omega), fun q => ?_, fun q => ⟨fun _ _ => ?_, fun q => by omega⟩⟩
                    · rw [ef]
                      unfold fault3
                      rw [if_neg nl, if_pos ⟨h5, fun w => q (by rw [List.getElem?_eq_getElem (by omega)] at w; exact Option.some.inj w)⟩]
                    · rw [List.getElem?_eq_getElem (by omega), q]
                  · refine ⟨3, ns[3], rfl, List.getElem?_eq_getElem (by omega), fun q => ?_, fun q => ⟨fun _ => g1 (by omega), fun _ _ => ?_⟩⟩
                    · rw [ef]
                      unfold fault3
                      rw [if_neg nl, if_neg (fun w => w.2 (g1 (by omega) h5)), if_pos ⟨h5, fun w => q (by rw [List.getElem?_eq_getElem (by omega)] at w; exact Option.some.inj w)⟩]
                    · rw [List.getElem?_eq_getElem (by omega), q]
                obtain ⟨j, y, rfl, hj, fy, fn⟩ := key
                refine ⟨_, rfl, _, rfl, p, _, _, _, rfl, rfl, sm2.seq hS, atI_map (atI_nat hj), rfl, _, rfl, ?_⟩
                refine ite2 (fun hc => ?_) (fun hc => ?_)
                · have y0 : y ≠ 0 := fun e => by rw [e] at hc; cases hc
                  exact ⟨_, rfl, _, rfl, fun d H2 s3 n hd => bad _ (fy y0) d H2 (sm2.trans s3) (sm2.free n) hd⟩
                · have y0 : y = 0 := by
                    refine Classical.byContradiction fun q => hc ?_
                    have : ¬ (V.int y = V.int 0) := fun w => q (by injection w)
                    rw [decide_eq_false this]; rfl
                  exact ⟨⟨_, _, rfl⟩, s2, (fn y0).1, (fn y0).2⟩
              · have h5 : ns.length ≠ 5 := fun e => hc (decide_eq_true (by rw [e0, e]; rfl))
                exact ⟨⟨_, _, rfl⟩, s2, fun _ e => absurd e h5, fun _ e => absurd e h5⟩
            · rintro σ H' ⟨⟨o1, o2, rfl⟩, s2, g1, g3⟩
              have sm2 := sm1.trans s2
              have f3 : faultOf ns = (decide (toldOf ns ≠ 0), none) := by
                rw [ef]
                unfold fault3
                rw [if_neg (fun q => q hz), if_neg (fun w => w.2 (g1 (by decide) w.1)), if_neg (fun w => w.2 (g3 (by decide) w.1))]
              refine ⟨_, rfl, p, ns, rfl, sm2.seq hS, ha', hb', all, fun H2 s3 => ?_⟩
              refine ⟨rfl, _, rfl, ?_⟩
              refine ite2 (fun hc => ?_) (fun hc => ?_)
              · have t0 : toldOf ns = 0 := by
                  have := of_decide_eq_true hc
                  injection this
                have f4 : faultOf ns = (false, none) := by
                  rw [f3, decide_eq_false (fun q => q t0)]
                exact fun d H3 s4 n hd => bad _ f4 d H3 ((sm2.trans s3).trans s4) ((sm2.trans s3).free n) hd
              · have t0 : toldOf ns ≠ 0 := fun e => hc (decide_eq_true (by rw [e]))
                refine k ?_ _ (sm2.trans s3)
                rw [f3]
                exact decide_eq_true t0
    · have ha' : ns.length < 2 := by
        have : ¬ (2 : Int) ≤ (((List.map V.int ns).length : Nat) : Int) := fun z => ha (decide_eq_true z)
        rw [e0] at this
        omega
      refine ⟨_, rfl, ?_⟩
      refine ite2 (fun _ => ?_) (fun hb => absurd (by first | rfl | (rw [eq_false_of_ne_true ha]; rfl)) hb)
      exact fun d H' sm n hd => bad none (fault_len (.inl ha')) d H' sm n hd
end
end My

/-! ### zip(a, b, strict=True) of two lists of one length (the library carries zip without strict) -/
namespace PySem
section
variable {prog : Program} {w : World} {A : Around} {E : Value → Shared → Prop} {s : Shared}
/-- the record of a strict zip -/
abbrev ZipS (h : Heap) (z TI TO : Addr) (f0 : Value) : Prop :=
  h.get? z = some { cls := .type "zip", dict := none, data := .fields #[f0, .bool false, .bool true, .ref TI, .ref TO], slots := #[] }
theorem nextOrEnd_item {it l : Addr} {i : Nat} {items : Array Value} {x : Value} {Q : Option Value → Shared → Prop} (hit : s.heap.IsListIter it l i) (hl : s.heap.IsList l items) (hx : items[i]? = some x)
    (hQ : ∀ h', h'.IsListIter it l (i + 1) → Heap.SameBut it s.heap h' → Q (some x) { s with heap := h' }) : wpAny (model prog w) A (Builtin.SmallTypes.nextOrEnd (.ref it)) Q E s := by
  unfold Builtin.SmallTypes.nextOrEnd
  exact wpAny_bind (wpAny_attempt (wpAny_nextOf_list_item hit hl hx fun h' q1 q2 => wpAny_pure (hQ h' q1 q2)))
theorem nextOrEnd_end {it l : Addr} {i : Nat} {items : Array Value} {Q : Option Value → Shared → Prop} (hh : A.handled = none) (hit : s.heap.IsListIter it l i) (hl : s.heap.IsList l items) (hx : items[i]? = none)
    (hQ : ∀ h', Heap.ExtBut it s.heap h' → Q none { s with heap := h' }) : wpAny (model prog w) A (Builtin.SmallTypes.nextOrEnd (.ref it)) Q E s := by
  unfold Builtin.SmallTypes.nextOrEnd
  refine wpAny_bind (wpAny_attempt (wpAny_nextOf_list_end hh hit hl hx fun h' e q1 ⟨o, ho, hc⟩ => ?_))
  exact wpAny_bind (wpAny_isInstance (T := "StopIteration") (b := true) ⟨o, ho, hc⟩ isSubtype_stop (wpAny_pure (hQ h' q1)))
/-- what stays of a turn -/
abbrev ZKeep (z TO i1 i2 : Addr) (h h' : Heap) : Prop := ∀ c o, c ≠ z → c ≠ TO → c ≠ i1 → c ≠ i2 → h.get? c = some o → h'.get? c = some o
theorem zipS_item {z TI TO i1 i2 l1 l2 : Addr} {k1 k2 : Nat} {xs ys : Array Value} {x y a b : Value} {Q : Value → Shared → Prop} (D : ZipApart z TI TO i1 i2 l1 l2)
    (hz : ZipS s.heap z TI TO .none) (hTI : IsPair s.heap TI (.ref i1) (.ref i2)) (hTO : IsPair s.heap TO a b) (h1 : s.heap.IsListIter i1 l1 k1) (h2 : s.heap.IsListIter i2 l2 k2) (hl1 : s.heap.IsList l1 xs) (hl2 : s.heap.IsList l2 ys) (hx : xs[k1]? = some x) (hy : ys[k2]? = some y)
    (hQ : ∀ h', ZipS h' z TI TO (rawInt s.heap.objs.size) → IsPair h' TO x y → h'.IsListIter i1 l1 (k1 + 1) → h'.IsListIter i2 l2 (k2 + 1) → IsPair h' s.heap.objs.size x y → h'.objs.size = s.heap.objs.size + 1 → ZKeep z TO i1 i2 s.heap h' → Q (.ref s.heap.objs.size) { s with heap := h' }) :
    wpAny (model prog w) A (Builtin.«zip.__next__» ⟨[.ref z], []⟩) (fun fin s' => ∃ v, fin = .done (.ret v) ∧ Q v s') E s := by
  show wpAny _ _ (field (.ref z) 2 >>= _) _ _ _
  refine wpAny_bind (wpAny_field hz rfl (x := .bool true) rfl ?_)
  show wpAny _ _ (field (.ref z) 3 >>= _) _ _ _
  refine wpAny_bind (wpAny_field hz rfl (x := .ref TI) rfl (wpAny_bind (wpAny_seqItems hTI rfl ?_)))
  show wpAny _ _ (Builtin.SmallTypes.ownedTupleIsFree (.ref z) >>= _) _ _ _
  refine wpAny_bind ?_
  unfold Builtin.SmallTypes.ownedTupleIsFree
  refine wpAny_bind (wpAny_field hz rfl (x := .none) rfl (wpAny_pure ?_))
  simp only [if_true]
  refine wpAny_bind (wpAny_rule (wpAny_bind (wpAny_field hz rfl (x := .ref TO) rfl (wpAny_bind (wpAny_setField_rec hz (by simp) fun g1 gz g1s => ?_)))))
  have hz1 : ZipS g1 z TI TO .ellipsis := gz
  refine wpAny_bind ?_
  simp only [List.zipIdx_cons, List.zipIdx_nil, List.forIn_cons, List.forIn_nil]
  refine wpAny_bind (wpAny_bind (wpAny_onRaise ?_))
  show wpAny _ _ (Builtin.SmallTypes.nextOrEnd (.ref i1)) _ _ _
  refine nextOrEnd_item (h1.extBut g1s.extBut D.i1z) (hl1.extBut g1s.extBut D.l1z) hx fun g2 i12 g2s => ?_
  have hTO2 : IsPair g2 TO a b := g2s.extBut _ _ D.TOi1 (g1s.extBut _ _ D.TOz hTO)
  refine wpAny_bind (wpAny_seqItems hTO2 rfl (wpAny_bind (wpAny_updateSeq_pair hTO2 fun g3 t3 g3s => ?_)))
  have hTO3 : IsPair g3 TO x b := t3
  refine wpAny_bind (wpAny_letGo (wpAny_pure ?_))
  refine wpAny_bind (wpAny_bind (wpAny_onRaise ?_))
  show wpAny _ _ (Builtin.SmallTypes.nextOrEnd (.ref i2)) _ _ _
  refine nextOrEnd_item (((h2.extBut g1s.extBut D.i2z).extBut g2s.extBut D.i12.symm).extBut g3s.extBut D.TOi2.symm) (((hl2.extBut g1s.extBut D.l2z).extBut g2s.extBut D.l2i1).extBut g3s.extBut D.l2TO) hy fun g4 i24 g4s => ?_
  have hTO4 : IsPair g4 TO x b := g4s.extBut _ _ D.TOi2 hTO3
  refine wpAny_bind (wpAny_seqItems hTO4 rfl (wpAny_bind (wpAny_updateSeq_pair hTO4 fun g5 t5 g5s => ?_)))
  have hTO5 : IsPair g5 TO x y := t5
  refine wpAny_bind (wpAny_letGo (wpAny_pure (wpAny_pure (wpAny_bind (wpAny_seqItems hTO5 rfl (wpAny_bind (wpAny_newTuple ?_)))))))
  have sz : g5.objs.size = s.heap.objs.size := by rw [g5s.1, g4s.1, g3s.1, g2s.1, g1s.1]
  have kp : ZKeep z TO i1 i2 s.heap g5 := fun c o c1 c2 c3 c4 e => g5s.extBut _ _ c2 (g4s.extBut _ _ c4 (g3s.extBut _ _ c2 (g2s.extBut _ _ c3 (g1s.extBut _ _ c1 e))))
  have hz5 : ZipS g5 z TI TO .ellipsis := g5s.extBut _ _ D.TOz.symm (g4s.extBut _ _ D.i2z.symm (g3s.extBut _ _ D.TOz.symm (g2s.extBut _ _ D.i1z.symm hz1)))
  have i15 : g5.IsListIter i1 l1 (k1 + 1) := ((i12.extBut g3s.extBut D.TOi1.symm).extBut g4s.extBut D.i12).extBut g5s.extBut D.TOi1.symm
  have i25 : g5.IsListIter i2 l2 (k2 + 1) := i24.extBut g5s.extBut D.TOi2.symm
  have zlt : z < g5.objs.size := Heap.lt_size hz5
  show wpAny _ _ (Builtin.SmallTypes.ownedTupleHandOut (.ref z) (.ref g5.objs.size) >>= _) _ _ _
  refine wpAny_bind ?_
  unfold Builtin.SmallTypes.ownedTupleHandOut
  have hz6 : ZipS (g5.push { cls := .type "tuple", data := .seq #[x, y] }) z TI TO .ellipsis := Heap.get?_push_of_some _ hz5
  refine wpAny_bind (wpAny_setField_rec hz6 (by simp) fun g7 z7 g7s => ?_)
  have hz7 : ZipS g7 z TI TO (rawInt g5.objs.size) := z7
  refine wpAny_setField_rec hz7 (by simp) fun g8 z8 g8s => ?_
  have hz8 : ZipS g8 z TI TO (rawInt g5.objs.size) := z8
  have up : ∀ c o, c ≠ z → g5.get? c = some o → g8.get? c = some o := fun c o c1 e => g8s.extBut _ _ c1 (g7s.extBut _ _ c1 (Heap.get?_push_of_some _ e))
  have T8 : IsPair g8 g5.objs.size x y := g8s.extBut _ _ (Nat.ne_of_gt zlt) (g7s.extBut _ _ (Nat.ne_of_gt zlt) (Heap.get?_push_size _ rfl))
  have s8 : g8.objs.size = g5.objs.size + 1 := by rw [g8s.1, g7s.1, Heap.size_push]
  rw [sz] at hz8 T8 s8
  refine wpAny_pure ⟨_, rfl, ?_⟩
  show Q (.ref g5.objs.size) _
  rw [sz]
  exact hQ g8 hz8 (up _ _ D.TOz hTO5) (i15.at fun o e => up _ o D.i1z e) (i25.at fun o e => up _ o D.i2z e) T8 s8 fun c o c1 c2 c3 c4 e => up c o c1 (kp c o c1 c2 c3 c4 e)
theorem zipS_end {z TI TO i1 i2 l1 l2 : Addr} {k1 k2 : Nat} {xs ys : Array Value} {a b : Value} {Q : Fin → Shared → Prop} (hh : A.handled = none) (D : ZipApart z TI TO i1 i2 l1 l2)
    (hz : ZipS s.heap z TI TO .none) (hTI : IsPair s.heap TI (.ref i1) (.ref i2)) (hTO : IsPair s.heap TO a b) (h1 : s.heap.IsListIter i1 l1 k1) (h2 : s.heap.IsListIter i2 l2 k2) (hl1 : s.heap.IsList l1 xs) (hl2 : s.heap.IsList l2 ys) (hx : xs[k1]? = none) (hy : ys[k2]? = none)
    (hE : ∀ h' e, ZKeep z TO i1 i2 s.heap h' → (∃ o, h'.get? e = some o ∧ o.cls = .type "StopIteration") → E (.ref e) { s with heap := h' }) :
    wpAny (model prog w) A (Builtin.«zip.__next__» ⟨[.ref z], []⟩) Q E s := by
  show wpAny _ _ (field (.ref z) 2 >>= _) _ _ _
  refine wpAny_bind (wpAny_field hz rfl (x := .bool true) rfl ?_)
  show wpAny _ _ (field (.ref z) 3 >>= _) _ _ _
  refine wpAny_bind (wpAny_field hz rfl (x := .ref TI) rfl (wpAny_bind (wpAny_seqItems hTI rfl ?_)))
  show wpAny _ _ (Builtin.SmallTypes.ownedTupleIsFree (.ref z) >>= _) _ _ _
  refine wpAny_bind ?_
  unfold Builtin.SmallTypes.ownedTupleIsFree
  refine wpAny_bind (wpAny_field hz rfl (x := .none) rfl (wpAny_pure ?_))
  simp only [if_true]
  refine wpAny_bind (wpAny_rule (wpAny_bind (wpAny_field hz rfl (x := .ref TO) rfl (wpAny_bind (wpAny_setField_rec hz (by simp) fun g1 gz g1s => ?_)))))
  have hz1 : ZipS g1 z TI TO .ellipsis := gz
  refine wpAny_bind ?_
  simp only [List.zipIdx_cons, List.zipIdx_nil, List.forIn_cons, List.forIn_nil]
  refine wpAny_bind (wpAny_bind (wpAny_onRaise ?_))
  show wpAny _ _ (Builtin.SmallTypes.nextOrEnd (.ref i1)) _ _ _
  refine nextOrEnd_end hh (h1.extBut g1s.extBut D.i1z) (hl1.extBut g1s.extBut D.l1z) hx fun g2 g2s => ?_
  have hz2 : ZipS g2 z TI TO .ellipsis := g2s _ _ D.i1z.symm hz1
  have h2x : ∀ {g3 : Heap}, Heap.ExtBut i1 g1 g2 → Heap.SameBut z g2 g3 → g3.IsListIter i2 l2 k2 := fun q1 q2 => ((h2.extBut g1s.extBut D.i2z).extBut q1 D.i12.symm).extBut q2.extBut D.i2z
  have hl2x : ∀ {g3 : Heap}, Heap.ExtBut i1 g1 g2 → Heap.SameBut z g2 g3 → g3.IsList l2 ys := fun q1 q2 => ((hl2.extBut g1s.extBut D.l2z).extBut q1 D.l2i1).extBut q2.extBut D.l2z
  refine wpAny_bind (wpAny_setField_rec hz2 (by simp) fun g3 _ g3s => ?_)
  refine wpAny_bind ?_
  show wpAny _ _ (((Builtin.SmallTypes.nextOrEnd (.ref i2) >>= _) >>= _) >>= _) _ _ _
  refine wpAny_bind (wpAny_bind (wpAny_bind (nextOrEnd_end hh (h2x g2s g3s) (hl2x g2s g3s) hy fun g4 g4s => ?_)))
  refine wpAny_pure ?_
  refine wpAny_pure ?_
  refine wpAny_bind (wpAny_rule ?_)
  unfold Builtin.SmallTypes.stopIteration
  refine wpAny_bind ?_
  simp only [newExc, newTuple]
  refine wpAny_bind (wpAny_newObj_type (wpAny_bind (m := firstArgMember _ _) (wpAny_of_eq (a := Value.none) (by first | rfl | (simp only [firstArgMember]; rfl)) (wpAny_newObj_type ?_ (by size_fits)))) (by size_fits))
  simp only [raiseNew]
  refine wpAny_bind (wpAny_handled ?_)
  first | rw [show A.in1.handled = none from hh] | rw [hh]
  exact wpAny_bind (wpAny_pure (wpAny_throw (hE _ _ (fun c o c1 c2 c3 c4 q => Heap.get?_push_of_some _ (Heap.get?_push_of_some _ (g4s _ _ c4 (g3s.extBut _ _ c1 (g2s _ _ c3 (g1s.extBut _ _ c1 q)))))) ⟨_, Heap.get?_push_size _ rfl, rfl⟩)))
end
end PySem
namespace PySem
section
variable {prog : Program} {w : World} {A : Around} {E : Value → Shared → Prop} {s : Shared}
theorem pyNext_zipS_item {z TI TO i1 i2 l1 l2 : Addr} {k1 k2 : Nat} {xs ys : Array Value} {x y a b : Value} {Q : Option Value → Shared → Prop} (D : ZipApart z TI TO i1 i2 l1 l2)
    (hz : ZipS s.heap z TI TO .none) (hTI : IsPair s.heap TI (.ref i1) (.ref i2)) (hTO : IsPair s.heap TO a b) (h1 : s.heap.IsListIter i1 l1 k1) (h2 : s.heap.IsListIter i2 l2 k2) (hl1 : s.heap.IsList l1 xs) (hl2 : s.heap.IsList l2 ys) (hx : xs[k1]? = some x) (hy : ys[k2]? = some y)
    (hQ : ∀ h', ZipS h' z TI TO (rawInt s.heap.objs.size) → IsPair h' TO x y → h'.IsListIter i1 l1 (k1 + 1) → h'.IsListIter i2 l2 (k2 + 1) → IsPair h' s.heap.objs.size x y → h'.objs.size = s.heap.objs.size + 1 → ZKeep z TO i1 i2 s.heap h' → Q (some (.ref s.heap.objs.size)) { s with heap := h' }) :
    wpAny (model prog w) A (pyNext (.ref z)) Q E s := by
  have ty : s.TypeIs (.ref z) "zip" := ⟨_, hz, rfl⟩
  have step := zipS_item (prog := prog) (w := w) (A := A.in1) (E := fun e s' => E e s') (Q := fun v s' => Q (some v) s') D hz hTI hTO h1 h2 hl1 hl2 hx hy hQ
  unfold pyNext
  exact wpAny_bind (wpAny_attempt (wpAny_callSpecial?_slot (name := Str.ofString "__next__") ty F.slot_zip_next (wpAny_call_entry F.slot_zip_next ty F.entry_zip_next
    (zipS_item D hz hTI hTO h1 h2 hl1 hl2 hx hy fun h' q1 q2 q3 q4 q5 q6 q7 => wpAny_pure (hQ h' q1 q2 q3 q4 q5 q6 q7)) (F.args_zip_next_1 _))))
theorem pyNext_zipS_end {z TI TO i1 i2 l1 l2 : Addr} {k1 k2 : Nat} {xs ys : Array Value} {a b : Value} {Q : Option Value → Shared → Prop} (hh : A.handled = none) (D : ZipApart z TI TO i1 i2 l1 l2)
    (hz : ZipS s.heap z TI TO .none) (hTI : IsPair s.heap TI (.ref i1) (.ref i2)) (hTO : IsPair s.heap TO a b) (h1 : s.heap.IsListIter i1 l1 k1) (h2 : s.heap.IsListIter i2 l2 k2) (hl1 : s.heap.IsList l1 xs) (hl2 : s.heap.IsList l2 ys) (hx : xs[k1]? = none) (hy : ys[k2]? = none)
    (hQ : ∀ h', ZKeep z TO i1 i2 s.heap h' → Q none { s with heap := h' }) : wpAny (model prog w) A (pyNext (.ref z)) Q E s := by
  have ty : s.TypeIs (.ref z) "zip" := ⟨_, hz, rfl⟩
  unfold pyNext
  refine wpAny_bind (wpAny_attempt (wpAny_callSpecial?_slot (name := Str.ofString "__next__") ty F.slot_zip_next (wpAny_call_entry F.slot_zip_next ty F.entry_zip_next
    (zipS_end hh D hz hTI hTO h1 h2 hl1 hl2 hx hy fun h' e hk ⟨o, ho, hc⟩ => ?_) (F.args_zip_next_1 _))))
  exact wpAny_bind (wpAny_isInstance (T := "StopIteration") (b := true) ⟨o, ho, hc⟩ isSubtype_stop (wpAny_pure (hQ _ hk)))
theorem goZipS {elts : List Expr} {x1} {pos : Pos} {z TI TO T : Addr} {Q : Unit → Shared → Prop} (hz : ZipS s.heap z TI TO (rawInt T)) (hQ : ∀ h', ZipS h' z TI TO .none → Heap.SameBut z s.heap h' → Q () { s with heap := h' }) :
    wpAny (model prog w) A (letOwnedTupleGo (.Tuple elts x1 pos) (.ref z) (.ref T)) Q E s := by
  unfold letOwnedTupleGo
  refine wpAny_bind (wpAny_load hz ?_)
  show wpAny _ _ (if (["enumerate", "zip", "dict_itemiterator", "dict_reverseitemiterator", "odict_iterator", "itertools.zip_longest", "itertools.pairwise"].contains "zip" && (#[rawInt T, .bool false, .bool true, .ref TI, .ref TO] : Array Value)[0]? == some (rawInt T)) = true then _ else _) Q E s
  rw [if_pos (by simp)]
  refine wpAny_bind (wpAny_rule ?_)
  show wpAny _ _ (setField (.ref z) 0 .none) Q E s
  exact wpAny_setField_rec hz (by simp) fun h' q1 q2 => hQ h' q1 q2
theorem pyIter_zipS {z TI TO : Addr} {f0 : Value} {Q : Value → Shared → Prop} (hz : ZipS s.heap z TI TO f0) (h : Q (.ref z) s) : wpAny (model prog w) A (pyIter (.ref z)) Q E s := by
  have ty : s.TypeIs (.ref z) "zip" := ⟨_, hz, rfl⟩
  refine wpAny_pyIter_slot ty F.slot_zip_iter (wpAny_call_entry F.slot_zip_iter ty F.entry_zip_iter (show wpAny _ _ (ret (.ref z)) _ _ s from ?_) (F.args_zip_iter_1 _))
  exact wpAny_pure ⟨_, rfl, "zip", _, ty, F.slot_zip_next.lookup, h⟩
/-! the making, by a built-in class called with keywords -/
theorem callType_kw {T newId initId : String} {Bn Bi : Builtin} {args : List Value} {kw : List (Str × Value)} {S : Spec} {Q Q₁ : Value → Shared → Prop} (ft : TypeCalled T newId initId)
    (hct : checkTypeCall T ⟨args, kw⟩ = pure ()) (hcn : checkBuiltinCall newId ⟨.type T :: args, kw⟩ = pure ()) (eN : entryFor table newId = some Bn) (eI : entryFor table initId = some Bi) (g : Meets (Bn ⟨.type T :: args, kw⟩) S) (h : S A.in1 (wants Q₁ E) s)
    (nx : ∀ obj s₁, Q₁ obj s₁ → s₁.TypeIs obj T ∧ argsOk initId ⟨obj :: args, kw⟩ ∧ ∃ Si, Meets (Bi ⟨obj :: args, kw⟩) Si ∧ Si A.in1 (wants (fun r s₂ => r = .none ∧ Q obj s₂) E) s₁) :
    wpAny (model prog w) A (call (.type T) args kw) Q E s := by
  obtain ⟨c, tl, hmro⟩ := ft.mro
  have hmade := ft.made; have hsub := ft.sub
  refine wpAny_call (codeAny_of_tree (show wpAny _ _ (callAny (.type T) _) _ _ _ from ?_))
  refine wpAny_pure ⟨Code.quiet_builtin _ (by decide +kernel), codeAny_builtin F.entry_type_call ?_⟩
  rw [Around.under_plain (weight_type_call_type T args kw) (units_type_call_type T args kw)]
  have h1 := ft.notType; have h2 := ft.canCreate
  repeat any_goals (first | assumption | wp_step)
  refine codeAny_mono (codeAny_call_builtin ft.plain eN (wpAny_of_eq hcn (g prog w A.in1 _ s h))) fun r s₁ hr => ?_
  cases r with
  | error e => exact hr
  | ok fl =>
    cases fl with
    | ret obj =>
      obtain ⟨hT, hok, Si, gi, hsi⟩ := nx _ _ hr
      have hli := ft.init.lookup; have hbi := ft.init.bind obj
      repeat any_goals (first | assumption | wp_step)
      refine codeAny_mono (codeAny_call_builtin ft.init.plain eI (ft.init.check _ _ _ _ _ _ _ _ hT hok (gi prog w A.in1 _ s₁ hsi))) fun r₂ s₂ hr₂ => ?_
      cases r₂ with
      | error e => exact hr₂
      | ok fl₂ =>
        cases fl₂ with
        | ret r =>
          obtain ⟨rfl, hq⟩ := hr₂
          repeat any_goals (first | assumption | wp_step)
        | _ => exact hr₂.elim
    | _ => exact hr.elim
theorem object_init_kw {T newId : String} {self a : Value} {rest : List Value} {kw : List (Str × Value)} (hl : typeLookup (.type T) "__init__" = pure (some (.builtin "object.__init__"))) (hm : Bind.madeBy (.type T) = pure (some newId)) (hne : (some newId != some "object.__new__") = true) :
    Meets (Builtin.«object.__init__» ⟨self :: a :: rest, kw⟩) (fun _ R s => s.TypeIs self T ∧ R (.ok (.ret .none)) s) := by
  refine Meets.of_wp fun prog w A R s ⟨hT, hq⟩ => ?_
  repeat any_goals (first | assumption | wp_step)
  exact ⟨_, rfl, hq⟩
/-- strict=True -/
abbrev kwS : List (Str × Value) := [("strict", .bool true)]
abbrev zsH (h : Heap) (l1 l2 : Addr) : Heap := (zipH4 h l1 l2).push { cls := .type "zip", data := .fields #[.none, .bool false, .bool true, .ref (zipH2 h l1 l2).objs.size, .ref (zipH3 h l1 l2).objs.size] }
theorem meets_zipS_new (l1 l2 : Addr) (xs ys : Array Value) :
    Meets (Builtin.«zip.__new__» ⟨[.type "zip", .ref l1, .ref l2], kwS⟩) (fun _ R s => s.heap.IsList l1 xs ∧ s.heap.IsList l2 ys ∧ R (.ok (.ret (.ref (zipH4 s.heap l1 l2).objs.size))) { s with heap := zsH s.heap l1 l2 }) :=
  .of_wp fun prog w A R s h => by
    obtain ⟨hp, g, d, tk, os⟩ := s; obtain ⟨q1, q2, h⟩ := h
    have hsub := sub_zip
    have hL1 : Heap.IsList (Shared.heap ⟨hp, g, d, tk, os⟩) l1 xs := q1
    have hL2 : Heap.IsList (Shared.heap ⟨hp.push { cls := .type "list_iterator", data := .fields #[.ref l1, .int 0 0] }, g, d, tk, os⟩) l2 ys := Heap.IsList.push q2 _
    wp_walk using wpAny_pyIter_list hL1, wpAny_pyIter_list hL2
    exact ⟨_, rfl, h⟩
theorem call_zipS {l1 l2 : Addr} {xs ys : Array Value} {Q : Value → Shared → Prop} (hl1 : s.heap.IsList l1 xs) (hl2 : s.heap.IsList l2 ys)
    (h : ∀ h', ZipS h' (s.heap.objs.size + 4) (s.heap.objs.size + 2) (s.heap.objs.size + 3) .none → IsPair h' (s.heap.objs.size + 2) (.ref s.heap.objs.size) (.ref (s.heap.objs.size + 1)) → IsPair h' (s.heap.objs.size + 3) .none .none →
      h'.IsListIter s.heap.objs.size l1 0 → h'.IsListIter (s.heap.objs.size + 1) l2 0 → h'.objs.size = s.heap.objs.size + 5 → (∀ c o, s.heap.get? c = some o → h'.get? c = some o) → Q (.ref (s.heap.objs.size + 4)) { s with heap := h' }) :
    wpAny (model prog w) A (call (.type "zip") [.ref l1, .ref l2] kwS) Q E s := by
  have ok : ∀ obj : Value, argsOk "object.__init__" ⟨[obj, .ref l1, .ref l2], kwS⟩ := fun obj => by
    unfold argsOk; rw [signature?_of (id := "object.__init__") (n := ['_', '_', 't', 'i', 'n', 'i', '_', '_']) (o := ['t', 'c', 'e', 'j', 'b', 'o']) (by kernel_rfl) F.owner_object]; kernel_rfl
  refine callType_kw F.called_zip (by kernel_rfl) (by kernel_rfl) F.entry_zip_new F.entry_object_init (meets_zipS_new l1 l2 xs ys) (Q₁ := fun obj s₁ => s₁.TypeIs obj "zip" ∧ Q obj s₁) ⟨hl1, hl2, ?_⟩ fun obj s₁ hq => ⟨hq.1, ok obj, _, object_init_kw F.called_zip.init.lookup F.called_zip.made (by decide), hq.1, rfl, hq.2⟩
  obtain ⟨z1, z2, z3, z4, z5⟩ : (zipH1 s.heap l1).objs.size = s.heap.objs.size + 1 ∧ (zipH2 s.heap l1 l2).objs.size = s.heap.objs.size + 2 ∧ (zipH3 s.heap l1 l2).objs.size = s.heap.objs.size + 3 ∧ (zipH4 s.heap l1 l2).objs.size = s.heap.objs.size + 4 ∧ (zsH s.heap l1 l2).objs.size = s.heap.objs.size + 5 := by
    refine ⟨?_, ?_, ?_, ?_, ?_⟩ <;> simp only [Heap.size_push]
  have up : ∀ {h : Heap} {c : Addr} {o o' : Obj}, h.get? c = some o → (h.push o').get? c = some o := fun e => Heap.get?_push_of_some _ e
  have g5 : (zsH s.heap l1 l2).get? (zipH4 s.heap l1 l2).objs.size = some _ := Heap.get?_push_size _ rfl
  have g4 : (zsH s.heap l1 l2).get? (zipH3 s.heap l1 l2).objs.size = some _ := up (Heap.get?_push_size _ rfl)
  have g3 : (zsH s.heap l1 l2).get? (zipH2 s.heap l1 l2).objs.size = some _ := up (up (Heap.get?_push_size _ rfl))
  have g2 : (zsH s.heap l1 l2).get? (zipH1 s.heap l1).objs.size = some _ := up (up (up (Heap.get?_push_size _ rfl)))
  have g1 : (zsH s.heap l1 l2).get? s.heap.objs.size = some _ := up (up (up (up (Heap.get?_push_size _ rfl))))
  show _ ∧ _
  rw [z2, z3, z4] at g5
  rw [z1, z2] at g3
  rw [z3] at g4
  rw [z1] at g2
  rw [z4]
  exact ⟨⟨_, g5, rfl⟩, h _ g5 g3 g4 ⟨_, g1, rfl, rfl⟩ ⟨_, g2, rfl, rfl⟩ z5 fun c o x => up (up (up (up (up x))))⟩
end
end PySem

/-! ### the walk over a strict zip of two lists of one length -/
namespace My
open PySem PySem.Spec PyProof.Rows L2
/-- as the library's walk over zip; it ends where both end -/
def ItzS (K : PySem.W.Frag) (a b : Addr) : It :=
  ⟨(Itz K a b).go, (Itz K a b).yld, fun i H => ∃ xs ys : List V, SqL K H a xs ∧ SqL K H b ys ∧ xs.length ≤ i ∧ ys.length ≤ i⟩
theorem turn_zipS {P : Program} {w : World} {K : PySem.W.Frag} {elts : List Expr} {kk : Nat} {tpos : Pos} {a b z TI TO i1 i2 : Addr} (D : ZipApart z TI TO i1 i2 a b) :
    Turn P w K (.Tuple elts kk tpos) (ItzS K a b) [z, TI, TO, i1, i2] z (fun i h => ZipS h z TI TO .none ∧ IsPair h TI (.ref i1) (.ref i2) ∧ (∃ x y, IsPair h TO x y) ∧ h.IsListIter i1 a i ∧ h.IsListIter i2 b i) := by
  have five : ∀ {c : Addr}, c ∈ [z, TI, TO, i1, i2] → c = z ∨ c = TI ∨ c = TO ∨ c = i1 ∨ c = i2 := fun h => by simpa using h
  refine ⟨by simp, fun i h ⟨hz, hTI, ⟨x, y, hTO⟩, ⟨o1, e1, _, d1⟩, ⟨o2, e2, _, d2⟩⟩ c hc => ?_, fun i h h' ⟨hz, hTI, ⟨x, y, hTO⟩, h1, h2⟩ k => ⟨k z (by simp) _ hz, k TI (by simp) _ hTI, ⟨x, y, k TO (by simp) _ hTO⟩, h1.at fun o q => k i1 (by simp) o q, h2.at fun o q => k i2 (by simp) o q⟩, ?_, ?_, fun A i s Q E st h => pyIter_zipS st.1 h⟩
  · rcases five hc with q | q | q | q | q <;> subst q
    · exact ⟨_, hz, fun v q => nomatch q⟩
    · exact ⟨_, hTI, fun v q => nomatch q⟩
    · exact ⟨_, hTO, fun v q => nomatch q⟩
    · exact ⟨o1, e1, fun v q => by rw [d1] at q; cases q⟩
    · exact ⟨o2, e2, fun v q => by rw [d2] at q; cases q⟩
  · intro X hP hw hK hc i pins s σ H E I hf ⟨hz, hTI, ⟨x0, y0, hTO⟩, h1, h2⟩ hg
    subst hP hw hK
    obtain ⟨xs, ys, x, y, hqx, hqy, hx, hy⟩ := hg
    obtain ⟨its, rv, p, _⟩ := I.list hqx
    obtain ⟨its2, rv2, p2, _⟩ := I.list hqy
    obtain ⟨u, hu, ru⟩ := rv.get hx
    obtain ⟨u2, hu2, ru2⟩ := rv2.get hy
    have zl : z < s.heap.objs.size := Heap.lt_size hz
    refine pyNext_zipS_item D hz hTI hTO h1 h2 p.isList p2.isList (x := u) (y := u2) (by simpa using hu) (by simpa using hu2) fun h' z' TO' a1 a2 hT hsz hk => ?_
    refine ⟨_, rfl, goZipS (s := { s with heap := h' }) z' fun h'' z'' sb => ?_⟩
    have hT2 : h''.get? s.heap.objs.size = some { cls := .type "tuple", data := .seq #[u, u2] } := (sb.2 _ (Nat.ne_of_gt zl)).trans hT
    have new : ObjOk X.prog X.w (upd H s.heap.objs.size (.tup [x, y])) h'' s.heap.objs.size (.tup [x, y]) := ⟨by show 2 ≤ sizeLine; decide, [u, u2], .cons ru (.cons ru2 .nil), ⟨_, hT2, rfl, _, rfl⟩⟩
    have I1 : Inv X pins σ (upd H s.heap.objs.size (.tup [x, y])) { s with heap := h'' } :=
      I.turnedNew (t' := s.toks) (ch := [z, TI, TO, i1, i2]) (fun c o hb q => (sb.2 c (fun q' => hb (by simp [q']))).trans (hk c o (fun q' => hb (by simp [q'])) (fun q' => hb (by simp [q'])) (fun q' => hb (by simp [q'])) (fun q' => hb (by simp [q'])) q)) hf (Nat.le_refl _) new
    refine ⟨.ref s.heap.objs.size, _, I1, rfl, ⟨_, x, y, rfl, I.hok.fresh (Nat.le_refl _), rfl, fun l hl => by rw [I.list_inj hl hqx]; exact hx, fun l hl => by rw [I.list_inj hl hqy]; exact hy⟩, ⟨z'', (sb.2 _ D.TIz).trans (hk _ _ D.TIz D.TITO D.TIi1 D.TIi2 hTI), ⟨u, u2, (sb.2 _ D.TOz).trans TO'⟩, a1.at fun o q => (sb.2 _ D.i1z).trans q, a2.at fun o q => (sb.2 _ D.i2z).trans q⟩, fun c hcm => ?_⟩
    have hlt : c < s.heap.objs.size := by
      rcases five hcm with q | q | q | q | q <;> subst q
      · exact zl
      · exact Heap.lt_size hTI
      · exact Heap.lt_size hTO
      · obtain ⟨_, e1, _⟩ := h1; exact Heap.lt_size e1
      · obtain ⟨_, e2, _⟩ := h2; exact Heap.lt_size e2
    rw [upd_ne (Nat.ne_of_lt hlt)]
    exact (hf c hcm).1
  · intro X hP hw hK hc i pins s σ H E I hf ⟨hz, hTI, ⟨x0, y0, hTO⟩, h1, h2⟩ hg
    subst hP hw hK
    obtain ⟨xs, ys, hqx, hqy, le1, le2⟩ := hg
    obtain ⟨its, rv, p, _⟩ := I.list hqx
    obtain ⟨its2, rv2, p2, _⟩ := I.list hqy
    have l1 := rv.length
    have l2 := rv2.length
    exact pyNext_zipS_end (I.ok.hd hc) D hz hTI hTO h1 h2 p.isList p2.isList (by simp; omega) (by simp; omega) fun h' hk => ⟨rfl, I.turnedL (t' := s.toks) (ch := [z, TI, TO, i1, i2]) (fun c o hb q =>
      hk c o (fun q' => hb (by simp [q'])) (fun q' => hb (by simp [q'])) (fun q' => hb (by simp [q'])) (fun q' => hb (by simp [q'])) q) hf⟩
theorem callWith_typeK {M : Model} {A : Around} {E : Value → Shared → Prop} {s : Shared} {env : Env} {pos : Pos} {T : String} {e : Expr} {rest : List Expr} {kws : List Keyword} {Q : Value → Shared → Prop}
    (h : wpAny M A (spliced (backTo pos (starEach (e :: rest) env))) (fun vs s₁ => wpAny M A (evalAll ((backToKw pos (keywordEach kws env)).map (·.2))) (fun ks s₂ => wpAny M A (call (.type T) vs (((backToKw pos (keywordEach kws env)).filterMap (·.1)).zip ks)) Q E s₂) E s₁) E s)
    (he : backTo pos (starEach (e :: rest) env) = (false, eval e env) :: backTo pos (starEach rest env)) (hpl : (backTo pos (starEach (e :: rest) env)).any (·.1) = false) (hall : (backToKw pos (keywordEach kws env)).all (·.1.isSome) = true) (hkw : (backToKw pos (keywordEach kws env)).any (·.1.isNone) = false) :
    wpAny M A (callWith pos (.type T) [] (backTo pos (starEach (e :: rest) env)) (backToKw pos (keywordEach kws env))) Q E s := by
  have ev : wpAny M A (evalArgs (.type T) true (backTo pos (starEach (e :: rest) env)) (backToKw pos (keywordEach kws env))) (fun a s₁ => wpAny M A (call (.type T) ([] ++ a.pos) a.kw) Q E s₁) E s := by
    rw [he] at h ⊢
    exact evalArgs_kwB hall h
  unfold callWith
  refine wpAny_bind (wpAny_holding (wpAny_mono ev (fun a s₁ h₁ => wpAny_bind (wpAny_standAt ?_)) fun _ _ x => x))
  rw [hpl, hkw]
  exact wpAny_bind (wpAny_pure (wpAny_bind (wpAny_mono h₁ (fun r s₂ hr => wpAny_bind (wpAny_holding (wpAny_point (wpAny_pure hr)))) fun _ _ x => x)))
def iZipS (K : PySem.W.Frag) (ta : TA) : TI := fun σ H R => ta σ H fun vs H1 => ∃ a b xs ys, vs = [.ref a, .ref b] ∧ SqL K H1 a xs ∧ SqL K H1 b ys ∧ R (ItzS K a b) H1
theorem pi_zipS {X : Cx} {e e2 : Expr} {ta : TA} {p pos tpos : Pos} {elts : List Expr} {kk : Nat} {kws : List Keyword} (hg : Gl X "zip") (hm : X.mg "zip" = none) (ha : PA X [e, e2] ta) (hk : PK X kws (tCons (tC (.bl true)) tNil))
    (he : backTo pos (starEach [e, e2] X.env) = (false, eval e X.env) :: backTo pos (starEach [e2] X.env) := by rfl) (hpl : (backTo pos (starEach [e, e2] X.env)).any (·.1) = false := by rfl)
    (hall : (backToKw pos (keywordEach kws X.env)).all (·.1.isSome) = true := by rfl) (hnone : (backToKw pos (keywordEach kws X.env)).any (·.1.isNone) = false := by rfl) (hks : (backToKw pos (keywordEach kws X.env)).filterMap (·.1) = [Str.ofString "strict"] := by rfl) :
    PI X (.Tuple elts kk tpos) (.Call (.Name "zip" p) [e, e2] kws pos) (iZipS X.K ta) := by
  refine ⟨fun pins s σ H R I h => ?_⟩
  refine wpAny_Call_Name_kw (ld_blt I hg hm PyProof.Rows.boot_zip ?_ (by decide) (by decide))
  refine callWith_typeK (thn (ha.run pos pins s σ H _ I h) fun us s1 ⟨vs, H1, I1, r1, q1⟩ => thn (hk.run pos pins s1 σ H1 (fun zs H2 => zs = [.bl true] ∧ H2 = H1) I1 ⟨rfl, rfl⟩) fun ws s2 ⟨zs, H2, I2, r2, e1, e2⟩ => ?_) he hpl hall hnone
  subst e1 e2
  rw [hks]
  obtain ⟨w1, rfl, rw1⟩ := vals1 r2
  cases rw1
  obtain ⟨a, b, xs, ys, ex, hqx, hqy, q⟩ := q1
  subst ex
  obtain ⟨u1, u2, rfl, ra, rb⟩ := vals2 r1
  cases ra
  cases rb
  obtain ⟨its, rv, p1, _⟩ := I2.list hqx
  obtain ⟨its2, rv2, p2, _⟩ := I2.list hqy
  refine call_zipS p1.isList p2.isList fun h' hz hTI hTO h1 h2 hsz hk => pyIter_zipS hz ?_
  have I3 : Inv X pins σ H2 { s2 with heap := h' } := I2.kept (t' := s2.toks) hk
  refine ⟨s2.heap.objs.size + 4, [s2.heap.objs.size + 4, s2.heap.objs.size + 2, s2.heap.objs.size + 3, s2.heap.objs.size, s2.heap.objs.size + 1], _, _, H2, rfl, I3, turn_zipS (PySem.W.ktu_apart s2.heap.objs.size a b p1.lt p2.lt), ⟨hz, hTI, ⟨_, _, hTO⟩, h1, h2⟩, fun c hcm => ?_, q⟩
  have hle : s2.heap.objs.size ≤ c := by
    have : c = s2.heap.objs.size + 4 ∨ c = s2.heap.objs.size + 2 ∨ c = s2.heap.objs.size + 3 ∨ c = s2.heap.objs.size ∨ c = s2.heap.objs.size + 1 := by simpa using hcm
    rcases this with q | q | q | q | q <;> subst q
    · exact Nat.le_add_right _ _
    · exact Nat.le_add_right _ _
    · exact Nat.le_add_right _ _
    · exact Nat.le_refl _
    · exact Nat.le_add_right _ _
  exact I2.fpOk hle (I2.hok.fresh hle)
end My

/-! ### a layer of data over the hand layer: what a def does, told without the heap -/
namespace My
open PySem PySem.Spec PyProof.Rows L2
open C8 (Cal pe_c pe_gc)
/-- data -/
inductive Dat where
  | non | bl (b : Bool) | int (i : Int) | str (x : Str) | lst (ds : List Dat) | tup (ds : List Dat) | ins (C : Addr) (fs : List (Str × Dat)) | exc (C : Addr) (fs : List (Str × Dat))
/-- a field that may be filled later -/
def cachF (f : Str) : Bool := f == "known" || f == "moved"
mutual
inductive Rp (H : Hp) : V → Dat → Prop
  | non : Rp H .non .non
  | bl (b : Bool) : Rp H (.bl b) (.bl b)
  | int (i : Int) : Rp H (.int i) (.int i)
  | str (x : Str) : Rp H (.str x) (.str x)
  | lst {a : Addr} {xs : List V} {ds : List Dat} : H a = some (.lst xs) → RpL H xs ds → Rp H (.ref a) (.lst ds)
  | tup {a : Addr} {xs : List V} {ds : List Dat} : H a = some (.tup xs) → RpL H xs ds → Rp H (.ref a) (.tup ds)
  | ins {a C dx : Addr} {fvs : List (Str × V)} {fs : List (Str × Dat)} : H a = some (.ins C dx fvs) → RpF H fvs fs → (∀ f, cachF f = false → fs.lookup f = none → fvs.lookup f = none) → Rp H (.ref a) (.ins C fs)
  | exc0 {a C : Addr} : H a = some (ExV (.ref C) none a) → Rp H (.ref a) (.exc C [])
  | exc1 {a C d : Addr} {fvs : List (Str × V)} {fs : List (Str × Dat)} : H a = some (ExV (.ref C) (some d) a) → H d = some (.xd fvs) → RpF H fvs fs → Rp H (.ref a) (.exc C fs)
inductive RpL (H : Hp) : List V → List Dat → Prop
  | nil : RpL H [] []
  | cons {v : V} {d : Dat} {vs : List V} {ds : List Dat} : Rp H v d → RpL H vs ds → RpL H (v :: vs) (d :: ds)
inductive RpF (H : Hp) : List (Str × V) → List (Str × Dat) → Prop
  | nil {fvs : List (Str × V)} : RpF H fvs []
  | cons {fvs : List (Str × V)} {f : Str} {v : V} {d : Dat} {fs : List (Str × Dat)} : cachF f = false → fvs.lookup f = some v → Rp H v d → RpF H fvs fs → RpF H fvs ((f, d) :: fs)
end
/-- what becomes of an object: it stays, but for the fields that may be filled -/
structure Kp (fs fs' : List (Str × V)) : Prop where
  look : ∀ f, cachF f = false → fs'.lookup f = fs.lookup f
  keys : fs'.map Prod.fst = fs.map Prod.fst
def Lo (o : HO) (o' : Option HO) : Prop := o' = some o ∨ ∃ C dx fs fs', o = .ins C dx fs ∧ o' = some (.ins C dx fs') ∧ Kp fs fs'
theorem Lo.trans {o o' : HO} {x : Option HO} (a : Lo o (some o')) (b : Lo o' x) : Lo o x := by
  rcases a with a | ⟨C, dx, fs, fs', rfl, a, h⟩
  · cases a; exact b
  · cases a
    rcases b with b | ⟨C', dx', gs, gs', e, b, h'⟩
    · exact .inr ⟨C, dx, fs, fs', rfl, b, h⟩
    · cases e; exact .inr ⟨C, dx, fs, gs', rfl, b, ⟨fun f hf => (h'.look f hf).trans (h.look f hf), h'.keys.trans h.keys⟩⟩
def Le (H H' : Hp) : Prop := ∀ b o, H b = some o → Lo o (H' b)
def LeX (P : List Addr) (H H' : Hp) : Prop := ∀ b o, b ∉ P → H b = some o → Lo o (H' b)
theorem Lo.refl (o : HO) : Lo o (some o) := .inl rfl
theorem Lo.get {o : HO} {x : Option HO} (h : Lo o x) : ∃ o', x = some o' := by
  rcases h with h | ⟨C, dx, fs, fs', _, h, _⟩ <;> exact ⟨_, h⟩
theorem Le.refl (H : Hp) : Le H H := fun b o h => .inl h
theorem LeX.refl (P : List Addr) (H : Hp) : LeX P H H := fun b o _ h => .inl h
theorem Le.trans {H H1 H2 : Hp} (a : Le H H1) (b : Le H1 H2) : Le H H2 := fun c o h => by
  obtain ⟨o', h1⟩ := (a c o h).get
  have := a c o h
  rw [h1] at this
  exact this.trans (b c o' h1)
theorem LeX.trans {P : List Addr} {H H1 H2 : Hp} (a : LeX P H H1) (b : LeX P H1 H2) : LeX P H H2 := fun c o n h => by
  obtain ⟨o', h1⟩ := (a c o n h).get
  have := a c o n h
  rw [h1] at this
  exact this.trans (b c o' n h1)
theorem Le.of {H H' : Hp} (s : Same H H') : Le H H' := fun b o h => .inl (s b o h)
theorem Le.x {P : List Addr} {H H' : Hp} (a : Le H H') : LeX P H H' := fun b o _ h => a b o h
theorem LeX.le {H H' : Hp} (a : LeX [] H H') : Le H H' := fun b o h => a b o (by simp) h
theorem Le.lst {H H' : Hp} (a : Le H H') {p : Addr} {xs : List V} (h : H p = some (.lst xs)) : H' p = some (.lst xs) := by
  rcases a p _ h with h | ⟨_, _, _, _, e, _⟩
  · exact h
  · cases e
theorem Le.tup {H H' : Hp} (a : Le H H') {p : Addr} {xs : List V} (h : H p = some (.tup xs)) : H' p = some (.tup xs) := by
  rcases a p _ h with h | ⟨_, _, _, _, e, _⟩
  · exact h
  · cases e
theorem LeX.lst {P : List Addr} {H H' : Hp} (a : LeX P H H') {p : Addr} {xs : List V} (n : p ∉ P) (h : H p = some (.lst xs)) : H' p = some (.lst xs) := by
  rcases a p _ n h with h | ⟨_, _, _, _, e, _⟩
  · exact h
  · cases e
theorem Le.ext {H H' : Hp} (a : Le H H') {p : Addr} {φ : Heap → Prop} (h : H p = some (.ext φ)) : H' p = some (.ext φ) := by
  rcases a p _ h with h | ⟨_, _, _, _, e, _⟩
  · exact h
  · cases e
theorem Le.xd {H H' : Hp} (a : Le H H') {p : Addr} {fs : List (Str × V)} (h : H p = some (.xd fs)) : H' p = some (.xd fs) := by
  rcases a p _ h with h | ⟨_, _, _, _, e, _⟩
  · exact h
  · cases e
theorem Le.new {H : Hp} {p : Addr} {o : HO} (h : H p = none) : Le H (upd H p o) := .of (same_new h)
theorem Le.free {H H' : Hp} (a : Le H H') {p : Addr} (h : H' p = none) : H p = none := by
  cases e : H p with
  | none => rfl
  | some o => obtain ⟨o', h'⟩ := (a p o e).get; rw [h] at h'; cases h'
mutual
theorem Rp.mono {H H' : Hp} (s : Le H H') : ∀ {v : V} {d : Dat}, Rp H v d → Rp H' v d
  | _, _, .non => .non
  | _, _, .bl b => .bl b
  | _, _, .int i => .int i
  | _, _, .str x => .str x
  | _, _, .lst h r => .lst (s.lst h) (RpL.mono s r)
  | _, _, .tup h r => .tup (by
      rcases s _ _ h with h | ⟨_, _, _, _, e, _⟩
      · exact h
      · cases e) (RpL.mono s r)
  | _, _, .ins (fvs := fvs) h r n => by
      have r' := RpF.mono s r
      rcases s _ _ h with h | ⟨C, dx, fs, fs', e, h', k⟩
      · exact .ins h r' n
      · cases e; exact .ins h' (RpF.re k.look r') fun f c e => (k.look f c).trans (n f c e)
  | _, _, .exc0 h => .exc0 (s.ext h)
  | _, _, .exc1 h h2 r => .exc1 (s.ext h) (s.xd h2) (RpF.mono s r)
theorem RpL.mono {H H' : Hp} (s : Le H H') : ∀ {vs : List V} {ds : List Dat}, RpL H vs ds → RpL H' vs ds
  | _, _, .nil => .nil
  | _, _, .cons r t => .cons (Rp.mono s r) (RpL.mono s t)
theorem RpF.mono {H H' : Hp} (s : Le H H') : ∀ {fvs : List (Str × V)} {fs : List (Str × Dat)}, RpF H fvs fs → RpF H' fvs fs
  | _, _, .nil => .nil
  | _, _, .cons c l r t => .cons c l (Rp.mono s r) (RpF.mono s t)
theorem RpF.re {H : Hp} {fvs fvs' : List (Str × V)} (k : ∀ f, cachF f = false → fvs'.lookup f = fvs.lookup f) : ∀ {fs : List (Str × Dat)}, RpF H fvs fs → RpF H fvs' fs
  | _, .nil => .nil
  | _, .cons c l r t => .cons c ((k _ c).trans l) r (RpF.re k t)
end
end My

namespace My
open PySem PySem.Spec PyProof.Rows L2
open C8 (Cal pe_c pe_gc)
/-- the heap without some -/
def hid (O : List Addr) (H : Hp) : Hp := fun b => if b ∈ O then none else H b
theorem hid_in {O : List Addr} {H : Hp} {b : Addr} (h : b ∈ O) : hid O H b = none := if_pos h
theorem hid_out {O : List Addr} {H : Hp} {b : Addr} (h : b ∉ O) : hid O H b = H b := if_neg h
theorem hid_some {O : List Addr} {H : Hp} {b : Addr} {o : HO} (h : hid O H b = some o) : b ∉ O ∧ H b = some o := by
  unfold hid at h
  by_cases e : b ∈ O
  · rw [if_pos e] at h; cases h
  · rw [if_neg e] at h; exact ⟨e, h⟩
theorem hid_le (O : List Addr) (H : Hp) : Le (hid O H) H := fun b o h => .inl (hid_some h).2
theorem LeX.hid {P O : List Addr} {H H' : Hp} (a : LeX P H H') (p : ∀ b ∈ P, b ∈ O) : Le (hid O H) (My.hid O H') := fun b o h => by
  obtain ⟨n, h⟩ := hid_some h
  rw [hid_out n]
  exact a b o (fun z => n (p b z)) h
theorem Le.hid {O : List Addr} {H H' : Hp} (a : Le H H') : Le (hid O H) (My.hid O H') := LeX.hid (P := []) a.x (by simp)
/-- one more hidden that was not there -/
theorem hid_more {O : List Addr} {H H' : Hp} {p : Addr} (a : Le (hid O H) (hid O H')) (h : H p = none) : Le (hid O H) (hid (p :: O) H') := fun b o hb => by
  have n : b ≠ p := fun e => by subst e; rw [(hid_some hb).2] at h; cases h
  have := a b o hb
  have e : hid (p :: O) H' b = hid O H' b := by
    unfold My.hid
    by_cases z : b ∈ O
    · rw [if_pos z, if_pos (List.mem_cons_of_mem _ z)]
    · rw [if_neg z, if_neg (fun y => (List.mem_cons.mp y).elim n z)]
  rw [e]; exact this
theorem hid_sub {O O' : List Addr} {H : Hp} (h : ∀ p ∈ O', p ∈ O) : Le (hid O H) (hid O' H) := fun b o hb => by
  obtain ⟨n, hb⟩ := hid_some hb
  exact .inl (by rw [hid_out fun z => n (h b z)]; exact hb)
theorem hid_upd {O : List Addr} {H : Hp} {p : Addr} {o : HO} (h : p ∈ O) : hid O (upd H p o) = hid O H := by
  funext b
  unfold hid
  by_cases z : b ∈ O
  · rw [if_pos z, if_pos z]
  · rw [if_neg z, if_neg z, upd_ne (fun e => z (by rw [e]; exact h))]
/-- what a slot holds: nothing known, data, a list of the def's own, the purse -/
inductive Sl where
  | un | dt (d : Dat) | ow (ds : List Dat) | pu | raw (v : V)
/-- what does not change: G hidden from the def's data, P the purses, B the heap as the def was entered -/
structure Cz where
  G : List Addr
  P : List Addr
  B : Hp
def SlOk (z : Cz) (O : List Addr) (H : Hp) (o : Option (Option V)) : Sl → Prop
  | .un => True
  | .dt d => ∃ v, o = some (some v) ∧ Rp (hid O H) v d
  | .ow ds => ∃ p vs, o = some (some (.ref p)) ∧ p ∈ O ∧ p ∉ z.G ∧ H p = some (.lst vs) ∧ RpL (hid O H) vs ds
  | .pu => ∃ a, z.P = [a] ∧ o = some (some (.ref a))
  | .raw v => o = some (some v)
structure Real (z : Cz) (O : List Addr) (g : List Sl) (m : Nat) (σ : L2.St) (H : Hp) : Prop where
  dom : ∀ p ∈ O, ∃ o, H p = some o
  sub : ∀ p ∈ z.G, p ∈ O
  new : ∀ p ∈ O, p ∈ z.G ∨ z.B p = none
  pg : ∀ p ∈ z.P, p ∈ z.G
  pur : ∀ b ∈ z.P, Pur H b m
  le : LeX z.P z.B H
  len : σ.length = g.length
  sl : ∀ (i : Nat) (x : Sl), g[i]? = some x → SlOk z O H σ[i]? x
  inj : ∀ (i j : Nat) (p : Addr) (ds es : List Dat), g[i]? = some (.ow ds) → g[j]? = some (.ow es) → σ[i]? = some (some (.ref p)) → σ[j]? = some (some (.ref p)) → i = j
section
variable {z : Cz} {O : List Addr} {g : List Sl} {m m' : Nat} {σ : L2.St} {H H' : Hp}
theorem Real.po (r : Real z O g m σ H) : ∀ p ∈ z.P, p ∈ O := fun p h => r.sub p (r.pg p h)
/-- the heap grows, the purses are drawn from -/
theorem Real.lift (r : Real z O g m σ H) (a : LeX z.P H H') (hp : ∀ b ∈ z.P, Pur H' b m') : Real z O g m' σ H' where
  dom := fun p h => by
    by_cases e : p ∈ z.P
    · exact (hp p e).at
    · obtain ⟨o, ho⟩ := r.dom p h
      exact (a p o e ho).get
  sub := r.sub
  new := r.new
  pg := r.pg
  pur := hp
  le := r.le.trans a
  len := r.len
  sl := fun i x h => by
    have q := r.sl i x h
    have lh := a.hid r.po
    cases x with
    | un => trivial
    | dt d => obtain ⟨v, e, q⟩ := q; exact ⟨v, e, q.mono lh⟩
    | ow ds =>
      obtain ⟨p, vs, e, po, pg, hp', q⟩ := q
      exact ⟨p, vs, e, po, pg, a.lst (fun n => pg (r.pg p n)) hp', q.mono lh⟩
    | pu => exact q
    | raw v => exact q
  inj := r.inj
theorem Real.up (r : Real z O g m σ H) (a : Le H H') : Real z O g m σ H' := r.lift a.x fun b hb => by
  obtain ⟨d, c, k, h, q⟩ := r.pur b hb
  exact ⟨d, c, k, a.lst h, q⟩
/-- a slot gets data -/
theorem Real.set (r : Real z O g m σ H) {v : V} {d : Dat} (i : Nat) (h : Rp (hid O H) v d) : Real z O (g.set i (.dt d)) m (σ.set i (some v)) H where
  dom := r.dom
  sub := r.sub
  new := r.new
  pg := r.pg
  pur := r.pur
  le := r.le
  len := by rw [List.length_set, List.length_set]; exact r.len
  sl := fun j x hj => by
    by_cases e : i = j
    · subst e
      by_cases l : i < g.length
      · rw [List.getElem?_set_self l] at hj
        cases hj
        exact ⟨v, by rw [List.getElem?_set_self (by rw [r.len]; exact l)], h⟩
      · rw [List.getElem?_eq_none (by rw [List.length_set]; omega)] at hj; cases hj
    · rw [List.getElem?_set_ne e] at hj
      rw [List.getElem?_set_ne e]
      exact r.sl j x hj
  inj := fun j k p ds es hj hk sj sk => by
    have f : ∀ {n : Nat} {ds : List Dat}, (g.set i (.dt d))[n]? = some (.ow ds) → i ≠ n ∧ g[n]? = some (.ow ds) := fun {n ds} h => by
      by_cases e : i = n
      · subst e
        by_cases l : i < g.length
        · rw [List.getElem?_set_self l] at h; cases h
        · rw [List.getElem?_eq_none (by rw [List.length_set]; omega)] at h; cases h
      · rw [List.getElem?_set_ne e] at h; exact ⟨e, h⟩
    obtain ⟨n1, h1⟩ := f hj
    obtain ⟨n2, h2⟩ := f hk
    rw [List.getElem?_set_ne n1] at sj
    rw [List.getElem?_set_ne n2] at sk
    exact r.inj j k p ds es h1 h2 sj sk
/-- a slot is forgotten, or wiped -/
theorem Real.un (r : Real z O g m σ H) (i : Nat) (o : Option V) : Real z O (g.set i .un) m (σ.set i o) H where
  dom := r.dom
  sub := r.sub
  new := r.new
  pg := r.pg
  pur := r.pur
  le := r.le
  len := by rw [List.length_set, List.length_set]; exact r.len
  sl := fun j x hj => by
    by_cases e : i = j
    · subst e
      by_cases l : i < g.length
      · rw [List.getElem?_set_self l] at hj
        cases hj
        trivial
      · rw [List.getElem?_eq_none (by rw [List.length_set]; omega)] at hj; cases hj
    · rw [List.getElem?_set_ne e] at hj
      rw [List.getElem?_set_ne e]
      exact r.sl j x hj
  inj := fun j k p ds es hj hk sj sk => by
    have f : ∀ {n : Nat} {ds : List Dat}, (g.set i .un)[n]? = some (.ow ds) → i ≠ n ∧ g[n]? = some (.ow ds) := fun {n ds} h => by
      by_cases e : i = n
      · subst e
        by_cases l : i < g.length
        · rw [List.getElem?_set_self l] at h; cases h
        · rw [List.getElem?_eq_none (by rw [List.length_set]; omega)] at h; cases h
      · rw [List.getElem?_set_ne e] at h; exact ⟨e, h⟩
    obtain ⟨n1, h1⟩ := f hj
    obtain ⟨n2, h2⟩ := f hk
    rw [List.getElem?_set_ne n1] at sj
    rw [List.getElem?_set_ne n2] at sk
    exact r.inj j k p ds es h1 h2 sj sk
/-- a list that was made anew, and is not looked at: the rest of the heap -/
structure Fresh (z : Cz) (O : List Addr) (H H' : Hp) (p : Addr) (ds : List Dat) : Prop where
  no : p ∉ O
  nb : z.B p = none
  ne : H p = none
  at_ : ∃ vs, H' p = some (.lst vs) ∧ RpL (hid O (hid [p] H')) vs ds
theorem hid1_le (H : Hp) (p : Addr) : Le (hid [p] H) H := hid_le [p] H
theorem hid_hid1 {O : List Addr} {H : Hp} {p : Addr} : hid O (hid [p] H) = hid (p :: O) H := by
  funext b
  unfold hid
  by_cases z : b ∈ O
  · rw [if_pos z, if_pos (List.mem_cons_of_mem _ z)]
  · rw [if_neg z]
    by_cases e : b = p
    · subst e; rw [if_pos (by simp), if_pos (by simp)]
    · rw [if_neg (by simp [e]), if_neg (fun y => (List.mem_cons.mp y).elim e z)]
/-- a slot takes a new list for its own -/
theorem Real.own {p : Addr} {ds : List Dat} {H0 : Hp} (r : Real z O g m σ (hid [p] H')) (f : Fresh z O H0 H' p ds) (i : Nat) : Real z (p :: O) (g.set i (.ow ds)) m (σ.set i (some (.ref p))) H' where
  dom := fun q h => by
    rcases List.mem_cons.mp h with e | h
    · subst e; obtain ⟨vs, h, _⟩ := f.at_; exact ⟨_, h⟩
    · obtain ⟨o, ho⟩ := r.dom q h
      exact ⟨o, (hid_some ho).2⟩
  sub := fun q h => List.mem_cons_of_mem _ (r.sub q h)
  new := fun q h => by
    rcases List.mem_cons.mp h with e | h
    · subst e; exact .inr f.nb
    · exact r.new q h
  pg := r.pg
  pur := fun b hb => by
    obtain ⟨d, c, k, h, q⟩ := r.pur b hb
    exact ⟨d, c, k, (hid_some h).2, q⟩
  le := r.le.trans (hid1_le _ _).x
  len := by rw [List.length_set, List.length_set]; exact r.len
  sl := fun j x hj => by
    by_cases e : i = j
    · subst e
      by_cases l : i < g.length
      · rw [List.getElem?_set_self l] at hj
        cases hj
        obtain ⟨vs, h, q⟩ := f.at_
        refine ⟨p, vs, by rw [List.getElem?_set_self (by rw [r.len]; exact l)], List.mem_cons_self .., fun n => f.no (r.sub p n), h, ?_⟩
        rw [← hid_hid1]; exact q
      · rw [List.getElem?_eq_none (by rw [List.length_set]; omega)] at hj; cases hj
    · rw [List.getElem?_set_ne e] at hj
      rw [List.getElem?_set_ne e]
      have q := r.sl j x hj
      cases x with
      | un => trivial
      | dt d => obtain ⟨v, e, q⟩ := q; exact ⟨v, e, by rw [← hid_hid1]; exact q⟩
      | ow es =>
        obtain ⟨q_, vs, e, po, pg, hp', q⟩ := q
        exact ⟨q_, vs, e, List.mem_cons_of_mem _ po, pg, (hid_some hp').2, by rw [← hid_hid1]; exact q⟩
      | pu => exact q
      | raw v => exact q
  inj := fun j k q es fs hj hk sj sk => by
    have f2 : ∀ {n : Nat} {es : List Dat} {q : Addr}, i ≠ n → (g.set i (.ow ds))[n]? = some (.ow es) → (σ.set i (some (.ref p)))[n]? = some (some (.ref q)) → q ≠ p := fun {n es q} e h s => by
      rw [List.getElem?_set_ne e] at h
      rw [List.getElem?_set_ne e] at s
      obtain ⟨q_, vs, e2, po, _⟩ := r.sl n _ h
      rw [s] at e2; cases e2
      intro z; subst z; exact f.no po
    have f1 : ∀ {n : Nat} {q : Addr} {es : List Dat}, i = n → (g.set i (.ow ds))[n]? = some (.ow es) → (σ.set i (some (.ref p)))[n]? = some (some (.ref q)) → q = p := fun {n q es} e h s => by
      subst e
      by_cases l : i < g.length
      · rw [List.getElem?_set_self (by rw [r.len]; exact l)] at s; cases s; rfl
      · rw [List.getElem?_eq_none (by rw [List.length_set]; omega)] at h; cases h
    by_cases e1 : i = j
    · by_cases e2 : i = k
      · omega
      · exact absurd (f1 e1 hj sj) (f2 e2 hk sk)
    · by_cases e2 : i = k
      · exact absurd (f1 e2 hk sk) (f2 e1 hj sj)
      · rw [List.getElem?_set_ne e1] at hj sj
        rw [List.getElem?_set_ne e2] at hk sk
        exact r.inj j k q es fs hj hk sj sk
/-- an own list gets other items -/
theorem Real.put (r : Real z O g m σ H) {i : Nat} {ds es : List Dat} (hi : g[i]? = some (.ow ds)) {p : Addr} (hs : σ[i]? = some (some (.ref p))) {ws : List V} (h : RpL (hid O H) ws es) : Real z O (g.set i (.ow es)) m σ (upd H p (.lst ws)) := by
  obtain ⟨q, vs, e, po, pG, hp, rq⟩ := r.sl i _ hi
  rw [hs] at e; cases e
  have he : hid O (upd H p (.lst ws)) = hid O H := hid_upd po
  have l : i < g.length := (List.getElem?_eq_some_iff.mp hi).1
  refine ⟨fun b hb => ?_, r.sub, r.new, r.pg, fun b hb => ?_, fun b o n hb => ?_, by rw [List.length_set]; exact r.len, fun j x hj => ?_, fun j k b xs ys hj hk sj sk => ?_⟩
  · by_cases e : b = p
    · subst e; exact ⟨_, upd_same⟩
    · rw [upd_ne e]; exact r.dom b hb
  · obtain ⟨d, c, k, h, q⟩ := r.pur b hb
    exact ⟨d, c, k, by rw [upd_ne (fun y => by subst y; exact pG (r.pg _ hb))]; exact h, q⟩
  · by_cases e : b = p
    · subst e
      rcases r.new b po with n2 | n2
      · exact absurd n2 pG
      · rw [hb] at n2; cases n2
    · rw [upd_ne e]; exact r.le b o n hb
  · by_cases e : i = j
    · subst e
      rw [List.getElem?_set_self l] at hj
      cases hj
      exact ⟨p, ws, hs, po, pG, upd_same, by rw [he]; exact h⟩
    · rw [List.getElem?_set_ne e] at hj
      have q := r.sl j x hj
      cases x with
      | un => trivial
      | dt d => obtain ⟨v, e, q⟩ := q; exact ⟨v, e, by rw [he]; exact q⟩
      | ow zs =>
        obtain ⟨b, us, e2, bo, bg, hb, q⟩ := q
        have n : b ≠ p := fun y => by subst y; exact e (r.inj i j b _ _ hi hj hs e2)
        exact ⟨b, us, e2, bo, bg, by rw [upd_ne n]; exact hb, by rw [he]; exact q⟩
      | pu => exact q
      | raw v => exact q
  · have f : ∀ {n : Nat} {xs : List Dat}, (g.set i (.ow es))[n]? = some (.ow xs) → ∃ ys, g[n]? = some (.ow ys) := fun {n xs} h => by
      by_cases e : i = n
      · subst e; exact ⟨_, hi⟩
      · rw [List.getElem?_set_ne e] at h; exact ⟨_, h⟩
    obtain ⟨_, h1⟩ := f hj
    obtain ⟨_, h2⟩ := f hk
    exact r.inj j k b _ _ h1 h2 sj sk
/-- an own list becomes data: it is not changed any more -/
theorem Real.frzO (r : Real z O g m σ H) {i : Nat} {ds : List Dat} (hi : g[i]? = some (.ow ds)) : ∃ O', Real z O' (g.set i (.dt (.lst ds))) m σ H ∧ ∀ q ∈ O', q ∈ O := by
  obtain ⟨p, vs, e, po, pG, hp, rq⟩ := r.sl i _ hi
  have l : i < g.length := (List.getElem?_eq_some_iff.mp hi).1
  have sub : ∀ q ∈ O.filter (fun b => decide (b ≠ p)), q ∈ O := fun q h => (List.mem_filter.mp h).1
  have le : Le (hid O H) (hid (O.filter fun b => decide (b ≠ p)) H) := hid_sub sub
  have np : p ∉ O.filter (fun b => decide (b ≠ p)) := fun h => by
    have := (List.mem_filter.mp h).2
    simp at this
  refine ⟨O.filter fun b => decide (b ≠ p), ⟨fun b hb => r.dom b (sub b hb), fun b hb => List.mem_filter.mpr ⟨r.sub b hb, decide_eq_true fun y => pG (y ▸ hb)⟩, fun b hb => r.new b (sub b hb), r.pg, r.pur, r.le, by rw [List.length_set]; exact r.len, fun j x hj => ?_, fun j k b xs ys hj hk sj sk => ?_⟩, sub⟩
  · by_cases e1 : i = j
    · subst e1
      rw [List.getElem?_set_self l] at hj
      cases hj
      exact ⟨.ref p, e, .lst (by rw [hid_out np]; exact hp) (rq.mono le)⟩
    · rw [List.getElem?_set_ne e1] at hj
      have q := r.sl j x hj
      cases x with
      | un => trivial
      | dt d => obtain ⟨v, e, q⟩ := q; exact ⟨v, e, q.mono le⟩
      | ow zs =>
        obtain ⟨b, us, e2, bo, bg, hb, q⟩ := q
        have n : b ≠ p := fun y => by subst y; exact e1 (r.inj i j b _ _ hi hj e e2)
        exact ⟨b, us, e2, List.mem_filter.mpr ⟨bo, decide_eq_true n⟩, bg, hb, q.mono le⟩
      | pu => exact q
      | raw v => exact q
  · have f : ∀ {n : Nat} {xs : List Dat}, (g.set i (.dt (.lst ds)))[n]? = some (.ow xs) → g[n]? = some (.ow xs) := fun {n xs} h => by
      by_cases e : i = n
      · subst e
        rw [List.getElem?_set_self l] at h; cases h
      · rw [List.getElem?_set_ne e] at h; exact h
    exact r.inj j k b _ _ (f hj) (f hk) sj sk
/-- an own list is let go: the rest of the heap -/
theorem Real.cut (r : Real z O g m σ H) {i : Nat} {ds : List Dat} (hi : g[i]? = some (.ow ds)) {p : Addr} (hs : σ[i]? = some (some (.ref p))) : ∃ O', Real z O' (g.set i .un) m σ (hid [p] H) ∧ p ∉ O' ∧ (∀ q ∈ O', q ∈ O) ∧ hid O' (hid [p] H) = hid O H := by
  obtain ⟨p', vs, e, po, pG, hp, rq⟩ := r.sl i _ hi
  rw [hs] at e; cases e
  have l : i < g.length := (List.getElem?_eq_some_iff.mp hi).1
  have sub : ∀ q ∈ O.filter (fun b => decide (b ≠ p)), q ∈ O := fun q h => (List.mem_filter.mp h).1
  have np : p ∉ O.filter (fun b => decide (b ≠ p)) := fun h => by
    have := (List.mem_filter.mp h).2
    simp at this
  have nP : p ∉ z.P := fun n => pG (r.pg p n)
  have eh : hid (O.filter fun b => decide (b ≠ p)) (hid [p] H) = hid O H := by
    rw [hid_hid1]
    funext b
    unfold hid
    by_cases h : b ∈ O
    · by_cases q : b = p
      · rw [if_pos (by rw [q]; simp), if_pos h]
      · rw [if_pos (List.mem_cons_of_mem _ (List.mem_filter.mpr ⟨h, decide_eq_true q⟩)), if_pos h]
    · have q : b ≠ p := fun y => h (y ▸ po)
      rw [if_neg (fun y => (List.mem_cons.mp y).elim q fun y => h (sub b y)), if_neg h]
  have h1 : ∀ {b : Addr}, b ≠ p → hid [p] H b = H b := fun {b} n => hid_out (by simp [n])
  refine ⟨O.filter fun b => decide (b ≠ p), ⟨fun b hb => ?_, fun b hb => List.mem_filter.mpr ⟨r.sub b hb, decide_eq_true fun y => pG (y ▸ hb)⟩, fun b hb => r.new b (sub b hb), r.pg, fun b hb => ?_, fun b o n hb => ?_, by rw [List.length_set]; exact r.len, fun j x hj => ?_, fun j k b xs ys hj hk sj sk => ?_⟩, np, sub, eh⟩
  · have n : b ≠ p := fun y => np (y ▸ hb)
    rw [h1 n]; exact r.dom b (sub b hb)
  · obtain ⟨d, c, k, h, q⟩ := r.pur b hb
    exact ⟨d, c, k, by rw [h1 (fun y => by subst y; exact nP hb)]; exact h, q⟩
  · have q : b ≠ p := fun y => by
      subst y
      rcases r.new b po with h | h
      · exact pG h
      · rw [hb] at h; cases h
    rw [h1 q]; exact r.le b o n hb
  · by_cases e1 : i = j
    · subst e1
      rw [List.getElem?_set_self l] at hj
      cases hj
      trivial
    · rw [List.getElem?_set_ne e1] at hj
      have q := r.sl j x hj
      cases x with
      | un => trivial
      | dt d => obtain ⟨v, e, q⟩ := q; exact ⟨v, e, by rw [eh]; exact q⟩
      | ow zs =>
        obtain ⟨b, us, e2, bo, bg, hb, q⟩ := q
        have n : b ≠ p := fun y => by subst y; exact e1 (r.inj i j b _ _ hi hj hs e2)
        exact ⟨b, us, e2, List.mem_filter.mpr ⟨bo, decide_eq_true n⟩, bg, by rw [h1 n]; exact hb, by rw [eh]; exact q⟩
      | pu => exact q
      | raw v => exact q
  · have f : ∀ {n : Nat} {xs : List Dat}, (g.set i .un)[n]? = some (.ow xs) → g[n]? = some (.ow xs) := fun {n xs} h => by
      by_cases e : i = n
      · subst e
        rw [List.getElem?_set_self l] at h; cases h
      · rw [List.getElem?_set_ne e] at h; exact h
    exact r.inj j k b _ _ (f hj) (f hk) sj sk
end
end My

namespace My
open PySem PySem.Spec PyProof.Rows L2
open C8 (Cal pe_c pe_gc)
theorem RpL.length {H : Hp} : ∀ {vs : List V} {ds : List Dat}, RpL H vs ds → vs.length = ds.length
  | _, _, .nil => rfl
  | _, _, .cons _ t => congrArg (· + 1) (RpL.length t)
theorem RpL.get {H : Hp} : ∀ {vs : List V} {ds : List Dat} {i : Nat} {d : Dat}, RpL H vs ds → ds[i]? = some d → ∃ v, vs[i]? = some v ∧ Rp H v d
  | _, _, _, _, .nil, e => by simp at e
  | _, _, 0, _, .cons r _, e => by cases (Option.some.inj e : _ = _); exact ⟨_, rfl, r⟩
  | _, _, i + 1, d, .cons _ t, e => by
    obtain ⟨v, h1, h2⟩ := RpL.get (i := i) (d := d) t (by simpa using e)
    exact ⟨v, by simpa using h1, h2⟩
theorem RpL.append {H : Hp} : ∀ {vs ws : List V} {ds es : List Dat}, RpL H vs ds → RpL H ws es → RpL H (vs ++ ws) (ds ++ es)
  | _, _, _, _, .nil, s => s
  | _, _, _, _, .cons r t, s => .cons r (RpL.append t s)
theorem RpL.take {H : Hp} : ∀ (n : Nat) {vs : List V} {ds : List Dat}, RpL H vs ds → RpL H (vs.take n) (ds.take n)
  | 0, _, _, _ => .nil
  | _ + 1, _, _, .nil => .nil
  | n + 1, _, _, .cons r t => .cons r (RpL.take n t)
theorem RpL.drop {H : Hp} : ∀ (n : Nat) {vs : List V} {ds : List Dat}, RpL H vs ds → RpL H (vs.drop n) (ds.drop n)
  | 0, _, _, r => r
  | _ + 1, _, _, .nil => .nil
  | n + 1, _, _, .cons _ t => RpL.drop n t
theorem RpL.set {H : Hp} {v : V} {d : Dat} (r : Rp H v d) : ∀ (n : Nat) {vs : List V} {ds : List Dat}, RpL H vs ds → RpL H (vs.set n v) (ds.set n d)
  | _, _, _, .nil => .nil
  | 0, _, _, .cons _ t => .cons r t
  | n + 1, _, _, .cons q t => .cons q (RpL.set r n t)
theorem RpL.rev {H : Hp} : ∀ {vs : List V} {ds : List Dat}, RpL H vs ds → RpL H vs.reverse ds.reverse
  | _, _, .nil => .nil
  | _, _, .cons r t => by rw [List.reverse_cons, List.reverse_cons]; exact (RpL.rev t).append (.cons r .nil)
theorem RpL.rep {H : Hp} {vs : List V} {ds : List Dat} (r : RpL H vs ds) : ∀ k : Nat, RpL H (List.replicate k vs).flatten (List.replicate k ds).flatten
  | 0 => .nil
  | k + 1 => by rw [List.replicate_succ, List.replicate_succ, List.flatten_cons, List.flatten_cons]; exact r.append (RpL.rep r k)
theorem RpL.at {H : Hp} {vs : List V} {ds : List Dat} {i : Int} {d : Dat} (r : RpL H vs ds) (h : atI ds i = some d) : ∃ v, atI vs i = some v ∧ Rp H v d := by
  unfold atI at *
  rw [r.length]
  cases e : ixN ds.length i with
  | none => rw [e] at h; cases h
  | some j =>
    rw [e] at h
    exact r.get (i := j) h
def cutD (xs : List Dat) (lo hi : Option Int) : List Dat := (xs.drop (HT.sIx xs.length 0 lo)).take (HT.sIx xs.length xs.length hi - HT.sIx xs.length 0 lo)
theorem RpL.cut {H : Hp} {vs : List V} {ds : List Dat} (r : RpL H vs ds) (lo hi : Option Int) : RpL H (cutV vs lo hi) (cutD ds lo hi) := by
  unfold cutV cutD
  rw [r.length]
  exact (r.drop _).take _
theorem RpF.look {H : Hp} {f : Str} {x : Dat} : ∀ {fvs : List (Str × V)} {fs : List (Str × Dat)}, RpF H fvs fs → fs.lookup f = some x → ∃ u, fvs.lookup f = some u ∧ Rp H u x
  | _, _, .nil, h => by simp at h
  | _, _, .cons (f := f') c l r t, h => by
    rw [List.lookup_cons] at h
    cases e : (f == f') with
    | true =>
      rw [e] at h
      have e2 : f = f' := eq_of_beq e
      cases (Option.some.inj h : _ = _)
      exact ⟨_, by rw [e2]; exact l, r⟩
    | false => rw [e] at h; exact RpF.look t h
theorem RpL.ints {H : Hp} : ∀ ns : List Int, RpL H (ns.map V.int) (ns.map Dat.int)
  | [] => .nil
  | n :: r => .cons (.int n) (RpL.ints r)

def XE (z : Cz) (t : TE) (g : List Sl) (m : Nat) (C : Nat → Dat → Prop) : Prop := ∀ (O : List Addr) (σ : L2.St) (H : Hp), Real z O g m σ H → ∀ Q : VK,
  (∀ m' d v H', C m' d → Real z O g m' σ H' → LeX z.P H H' → Rp (hid O H') v d → Q v H') → t σ H Q
/-- a list made anew -/
def XN (z : Cz) (t : TE) (g : List Sl) (m : Nat) (C : Nat → List Dat → Prop) : Prop := ∀ (O : List Addr) (σ : L2.St) (H : Hp), Real z O g m σ H → ∀ Q : VK,
  (∀ m' ds p H', C m' ds → Real z O g m' σ (hid [p] H') → LeX z.P H (hid [p] H') → Fresh z O H H' p ds → Q (.ref p) H') → t σ H Q
def XA (z : Cz) (t : TA) (g : List Sl) (m : Nat) (C : Nat → List Dat → Prop) : Prop := ∀ (O : List Addr) (σ : L2.St) (H : Hp), Real z O g m σ H → ∀ Q : List V → Hp → Prop,
  (∀ m' ds vs H', C m' ds → Real z O g m' σ H' → LeX z.P H H' → RpL (hid O H') vs ds → Q vs H') → t σ H Q
def XT (z : Cz) (t : TT) (g : List Sl) (m : Nat) (C : Nat → Bool → Prop) : Prop := ∀ (O : List Addr) (σ : L2.St) (H : Hp), Real z O g m σ H → ∀ Q : Bool → Hp → Prop,
  (∀ m' b H', C m' b → Real z O g m' σ H' → LeX z.P H H' → Q b H') → t σ H Q
/-- the rules, told of data -/
def DR2 (r : R2) (rd : Dat → Dat → (Dat → Prop) → Prop) : Prop := ∀ (O : List Addr) (H : Hp) (x y : V) (d e : Dat) (C : Dat → Prop) (Q : VK), (∀ p ∈ O, ∃ o, H p = some o) → Rp (hid O H) x d → Rp (hid O H) y e → rd d e C →
  (∀ d' v H', C d' → Le H H' → Rp (hid O H') v d' → Q v H') → r x y H Q
def DN2 (r : R2) (rd : Dat → Dat → (List Dat → Prop) → Prop) : Prop := ∀ (H : Hp) (x y : V) (d e : Dat) (C : List Dat → Prop) (Q : VK) (G : Hp), Le G H → Rp G x d → Rp G y e → rd d e C →
  (∀ ds vs p, C ds → H p = none → RpL G vs ds → Q (.ref p) (upd H p (.lst vs))) → r x y H Q
def DCB (r : List V → Hp → VK → Prop) (rd : List Dat → (Dat → Prop) → Prop) : Prop := ∀ (O : List Addr) (H : Hp) (xs : List V) (ds : List Dat) (C : Dat → Prop) (Q : VK), (∀ p ∈ O, ∃ o, H p = some o) → RpL (hid O H) xs ds → rd ds C →
  (∀ d' v H', C d' → Le H H' → Rp (hid O H') v d' → Q v H') → r xs H Q
def DNB (r : List V → Hp → VK → Prop) (rd : List Dat → (List Dat → Prop) → Prop) : Prop := ∀ (H : Hp) (xs : List V) (ds : List Dat) (C : List Dat → Prop) (Q : VK) (G : Hp), Le G H → RpL G xs ds → rd ds C →
  (∀ es vs p, C es → H p = none → RpL G vs es → Q (.ref p) (upd H p (.lst vs))) → r xs H Q
def dBl (d : Dat) (C : Bool → Prop) : Prop := ∃ b, d = .bl b ∧ C b
section
variable {z : Cz} {g : List Sl} {m : Nat} {C : Nat → Dat → Prop} {CL : Nat → List Dat → Prop} {CT : Nat → Bool → Prop} {t ta tb tc : TE} {tr : TA} {tt tu : TT} {r r' : R2}
theorem Fresh.of {O : List Addr} {H : Hp} {σ : L2.St} (R : Real z O g m σ H) {p : Addr} {vs : List V} {ds : List Dat} (hp : H p = none) (h : RpL (hid O H) vs ds) : Fresh z O H (upd H p (.lst vs)) p ds ∧ hid [p] (upd H p (.lst vs)) = H := by
  have e : hid [p] (upd H p (.lst vs)) = H := by
    funext b
    unfold hid
    by_cases q : b = p
    · subst q; rw [if_pos (by simp)]; exact hp.symm
    · rw [if_neg (by simp [q]), upd_ne q]
  refine ⟨⟨fun q => ?_, ?_, hp, vs, upd_same, by rw [e]; exact h⟩, e⟩
  · obtain ⟨o, ho⟩ := R.dom p q
    rw [hp] at ho; cases ho
  · cases q : z.B p with
    | none => rfl
    | some o =>
      by_cases n : p ∈ z.P
      · obtain ⟨o', ho⟩ := R.dom p (R.po p n)
        rw [hp] at ho; cases ho
      · obtain ⟨o', ho⟩ := (R.le p o n q).get
        rw [hp] at ho; cases ho
theorem XE.ofN (h : XN z t g m fun m' ds => C m' (.lst ds)) : XE z t g m C := fun O σ H R Q k => h O σ H R Q fun m' ds p H' c R' le f => by
  have l := hid1_le H' p
  obtain ⟨vs, hp, q⟩ := f.at_
  refine k m' _ _ _ c (R'.up l) (le.trans l.x) (.lst (by rw [hid_out f.no]; exact hp) (q.mono l.hid))
theorem XE.var {i : Nat} {d : Dat} (h : g[i]? = some (.dt d)) (c : C m d) : XE z (tVar i) g m C := fun O σ H R Q k => by
  obtain ⟨v, e, q⟩ := R.sl i _ h
  exact ⟨v, e, k m d v H c R (LeX.refl _ _) q⟩
theorem XE.int {i : Int} (c : C m (.int i)) : XE z (tC (.int i)) g m C := fun O σ H R Q k => k m _ _ H c R (LeX.refl _ _) (.int i)
theorem XE.bl {i : Bool} (c : C m (.bl i)) : XE z (tC (.bl i)) g m C := fun O σ H R Q k => k m _ _ H c R (LeX.refl _ _) (.bl i)
theorem XE.str {i : Str} (c : C m (.str i)) : XE z (tC (.str i)) g m C := fun O σ H R Q k => k m _ _ H c R (LeX.refl _ _) (.str i)
theorem XE.non (c : C m .non) : XE z (tC .non) g m C := fun O σ H R Q k => k m _ _ H c R (LeX.refl _ _) .non
theorem XE.op {rd : Dat → Dat → (Dat → Prop) → Prop} (hr : DR2 r rd) (h : XE z ta g m fun m1 d1 => XE z tb g m1 fun m2 d2 => rd d1 d2 (C m2)) : XE z (tOp r ta tb) g m C := fun O σ H R Q k =>
  h O σ H R _ fun m1 d1 x H1 c1 R1 l1 q1 => c1 O σ H1 R1 _ fun m2 d2 y H2 c2 R2 l2 q2 =>
    hr O H2 x y d1 d2 (C m2) Q R2.dom (q1.mono (l2.hid R1.po)) q2 c2 fun d v H3 c3 l3 q3 => k m2 d v H3 c3 (R2.up l3) ((l1.trans l2).trans l3.x) q3
theorem XN.op {rd : Dat → Dat → (List Dat → Prop) → Prop} (hr : DN2 r rd) (h : XE z ta g m fun m1 d1 => XE z tb g m1 fun m2 d2 => rd d1 d2 (CL m2)) : XN z (tOp r ta tb) g m CL := fun O σ H R Q k =>
  h O σ H R _ fun m1 d1 x H1 c1 R1 l1 q1 => c1 O σ H1 R1 _ fun m2 d2 y H2 c2 R2 l2 q2 =>
    hr H2 x y d1 d2 (CL m2) Q (hid O H2) (hid_le O H2) (q1.mono (l2.hid R1.po)) q2 c2 fun ds vs p c3 n q3 => by
      obtain ⟨f, e⟩ := Fresh.of R2 n q3
      have l12 := l1.trans l2
      refine k m2 ds p _ c3 (by rw [e]; exact R2) (by rw [e]; exact l12) ⟨f.no, f.nb, ?_, f.at_⟩
      cases q : H p with
      | none => rfl
      | some o =>
        by_cases y : p ∈ z.P
        · exact absurd (R.po p y) f.no
        · obtain ⟨o', ho⟩ := (l12 p o y q).get
          rw [n] at ho; cases ho
theorem XA.nil (c : CL m []) : XA z tNil g m CL := fun O σ H R Q k => k m [] [] H c R (LeX.refl _ _) .nil
theorem XA.cons (h : XE z ta g m fun m1 d => XA z tr g m1 fun m2 ds => CL m2 (d :: ds)) : XA z (tCons ta tr) g m CL := fun O σ H R Q k =>
  h O σ H R _ fun m1 d1 x H1 c1 R1 l1 q1 => c1 O σ H1 R1 _ fun m2 ds vs H2 c2 R2 l2 q2 => k m2 (d1 :: ds) (x :: vs) H2 c2 R2 (l1.trans l2) (.cons (q1.mono (l2.hid R1.po)) q2)
theorem XE.tup (h : XA z tr g m fun m1 ds => ds.length ≤ 1000 ∧ C m1 (.tup ds)) : XE z (tTup tr) g m C := fun O σ H R Q k =>
  h O σ H R _ fun m1 ds vs H1 ⟨hl, c⟩ R1 l1 q1 => ⟨Nat.le_of_lt (small1000 (by rw [q1.length]; exact hl)), fun p hp => by
    have l : Le H1 (upd H1 p (.tup vs)) := .new hp
    have n : p ∉ O := fun q => by obtain ⟨o, ho⟩ := R1.dom p q; rw [hp] at ho; cases ho
    exact k m1 _ _ _ c (R1.up l) (l1.trans l.x) (.tup (by rw [hid_out n]; exact upd_same) (q1.mono l.hid))⟩
theorem XN.lst (h : XA z tr g m fun m1 ds => ds.length ≤ 1000 ∧ CL m1 ds) : XN z (tLst tr) g m CL := fun O σ H R Q k =>
  h O σ H R _ fun m1 ds vs H1 ⟨hl, c⟩ R1 l1 q1 => ⟨Nat.le_of_lt (small1000 (by rw [q1.length]; exact hl)), fun p hp => by
    obtain ⟨f, e⟩ := Fresh.of R1 hp q1
    refine k m1 ds p _ c (by rw [e]; exact R1) (by rw [e]; exact l1) ⟨f.no, f.nb, ?_, f.at_⟩
    cases q : H p with
    | none => rfl
    | some o =>
      by_cases y : p ∈ z.P
      · exact absurd (R.po p y) f.no
      · obtain ⟨o', ho⟩ := (l1 p o y q).get
        rw [hp] at ho; cases ho⟩
theorem XE.cb {rb : List V → Hp → VK → Prop} {rd : List Dat → (Dat → Prop) → Prop} (hr : DCB rb rd) (h : XA z tr g m fun m1 ds => rd ds (C m1)) : XE z (tCB rb tr) g m C := fun O σ H R Q k =>
  h O σ H R _ fun m1 ds vs H1 c R1 l1 q1 => hr O H1 vs ds (C m1) Q R1.dom q1 c fun d v H2 c2 l2 q2 => k m1 d v H2 c2 (R1.up l2) (l1.trans l2.x) q2
theorem XN.cb {rb : List V → Hp → VK → Prop} {rd : List Dat → (List Dat → Prop) → Prop} (hr : DNB rb rd) (h : XA z tr g m fun m1 ds => rd ds (CL m1)) : XN z (tCB rb tr) g m CL := fun O σ H R Q k =>
  h O σ H R _ fun m1 ds vs H1 c R1 l1 q1 => hr H1 vs ds (CL m1) Q (hid O H1) (hid_le O H1) q1 c fun es us p c3 n q3 => by
      obtain ⟨f, e⟩ := Fresh.of R1 n q3
      refine k m1 es p _ c3 (by rw [e]; exact R1) (by rw [e]; exact l1) ⟨f.no, f.nb, ?_, f.at_⟩
      cases q : H p with
      | none => rfl
      | some o =>
        by_cases y : p ∈ z.P
        · exact absurd (R.po p y) f.no
        · obtain ⟨o', ho⟩ := (l1 p o y q).get
          rw [n] at ho; cases ho
/-! ### tests -/
theorem XT.b (h : XE z t g m fun m1 d => dBl d (CT m1)) : XT z (tB t) g m CT := fun O σ H R Q k => h O σ H R _ fun m1 d v H1 ⟨b, e, c⟩ R1 l1 q1 => by
  subst e; cases q1; exact ⟨b, rfl, k m1 b H1 c R1 l1⟩
theorem XT.test (h : XE z t g m fun m1 d => dBl d (CT m1)) : XT z (tTest t) g m CT := fun O σ H R Q k => h O σ H R _ fun m1 d v H1 ⟨b, e, c⟩ R1 l1 q1 => by
  subst e; cases q1; exact ⟨b, rfl, k m1 b H1 c R1 l1⟩
theorem XT.not (h : XT z tt g m fun m1 b => CT m1 (!b)) : XT z (tNot tt) g m CT := fun O σ H R Q k => h O σ H R _ fun m1 b H1 c R1 l1 => k m1 _ H1 c R1 l1
theorem XT.and (h : XT z tt g m fun m1 b => if b = true then XT z tu g m1 CT else CT m1 false) : XT z (tAnd tt tu) g m CT := fun O σ H R Q k => h O σ H R _ fun m1 b H1 c R1 l1 => by
  cases b with
  | true => exact c O σ H1 R1 Q fun m2 b2 H2 c2 R2 l2 => k m2 b2 H2 c2 R2 (l1.trans l2)
  | false => exact k m1 false H1 c R1 l1
theorem XT.or (h : XT z tt g m fun m1 b => if b = true then CT m1 true else XT z tu g m1 CT) : XT z (tOr tt tu) g m CT := fun O σ H R Q k => h O σ H R _ fun m1 b H1 c R1 l1 => by
  cases b with
  | false => exact c O σ H1 R1 Q fun m2 b2 H2 c2 R2 l2 => k m2 b2 H2 c2 R2 (l1.trans l2)
  | true => exact k m1 true H1 c R1 l1
theorem XT.yes (c : CT m true) : XT z tYes g m CT := fun O σ H R Q k => k m true H c R (LeX.refl _ _)
theorem XE.andV (h : XE z ta g m fun m1 d => dBl d fun b => if b = true then XE z tb g m1 C else C m1 (.bl false)) : XE z (tAndV ta tb) g m C := fun O σ H R Q k => h O σ H R _ fun m1 d v H1 ⟨b, e, c⟩ R1 l1 q1 => by
  subst e; cases q1
  refine ⟨b, rfl, ?_⟩
  cases b with
  | true => exact c O σ H1 R1 Q fun m2 b2 v2 H2 c2 R2 l2 q2 => k m2 b2 v2 H2 c2 R2 (l1.trans l2) q2
  | false => exact k m1 _ _ H1 c R1 l1 (.bl false)
theorem XE.orV (h : XE z ta g m fun m1 d => dBl d fun b => if b = true then C m1 (.bl true) else XE z tb g m1 C) : XE z (tOrV ta tb) g m C := fun O σ H R Q k => h O σ H R _ fun m1 d v H1 ⟨b, e, c⟩ R1 l1 q1 => by
  subst e; cases q1
  refine ⟨b, rfl, ?_⟩
  cases b with
  | false => exact c O σ H1 R1 Q fun m2 b2 v2 H2 c2 R2 l2 q2 => k m2 b2 v2 H2 c2 R2 (l1.trans l2) q2
  | true => exact k m1 _ _ H1 c R1 l1 (.bl true)
theorem XE.notV (h : XE z ta g m fun m1 d => dBl d fun b => C m1 (.bl (!b))) : XE z (tNotV ta) g m C := fun O σ H R Q k => h O σ H R _ fun m1 d v H1 ⟨b, e, c⟩ R1 l1 q1 => by
  subst e; cases q1
  exact ⟨b, rfl, k m1 _ _ H1 c R1 l1 (.bl _)⟩
theorem XE.ifE (h : XT z tt g m fun m1 b => if b = true then XE z ta g m1 C else XE z tb g m1 C) : XE z (tIf tt ta tb) g m C := fun O σ H R Q k => h O σ H R _ fun m1 b H1 c R1 l1 => by
  cases b with
  | true => exact c O σ H1 R1 Q fun m2 b2 v2 H2 c2 R2 l2 q2 => k m2 b2 v2 H2 c2 R2 (l1.trans l2) q2
  | false => exact c O σ H1 R1 Q fun m2 b2 v2 H2 c2 R2 l2 q2 => k m2 b2 v2 H2 c2 R2 (l1.trans l2) q2
theorem XE.chain {rd rd' : Dat → Dat → (Dat → Prop) → Prop} (hr : DR2 r rd) (hr' : DR2 r' rd') (h : XE z ta g m fun m1 d1 => XE z tb g m1 fun m2 d2 => rd d1 d2 fun d3 => dBl d3 fun b => if b = true then XE z tc g m2 fun m4 d4 => rd' d2 d4 (C m4) else C m2 (.bl false)) : XE z (tChain r r' ta tb tc) g m C := fun O σ H R Q k =>
  h O σ H R _ fun m1 d1 x H1 c1 R1 l1 q1 => c1 O σ H1 R1 _ fun m2 d2 y H2 c2 R2 l2 q2 =>
    hr O H2 x y d1 d2 _ _ R2.dom (q1.mono (l2.hid R1.po)) q2 c2 fun d v H3 c3 l3 q3 => by
      obtain ⟨b, e, c3⟩ := c3
      subst e; cases q3
      refine ⟨b, rfl, ?_⟩
      have R3 := R2.up l3
      have l13 := (l1.trans l2).trans l3.x
      cases b with
      | true => exact c3 O σ H3 R3 _ fun m4 d4 w_ H4 c4 R4 l4 q4 => hr' O H4 y w_ d2 d4 (C m4) Q R4.dom ((q2.mono l3.hid).mono (l4.hid R3.po)) q4 c4 fun d5 v5 H5 c5 l5 q5 => k m4 d5 v5 H5 c5 (R4.up l5) ((l13.trans l4).trans l5.x) q5
      | false => exact k m2 _ _ H3 c3 R3 l13 (.bl false)
end
end My

namespace My
open PySem PySem.Spec PyProof.Rows L2
open C8 (Cal pe_c pe_gc)
/-! ### the rules, told of data -/
def simV : V → Bool
  | .non | .bl _ | .int _ | .str _ => true
  | _ => false
def vd : V → Dat
  | .bl b => .bl b
  | .int i => .int i
  | .str x => .str x
  | _ => .non
theorem rp_vd {H : Hp} {v : V} (h : simV v = true) : Rp H v (vd v) := by
  cases v with
  | non => exact .non
  | bl b => exact .bl b
  | int i => exact .int i
  | str x => exact .str x
  | _ => cases h
def dv : Dat → V
  | .bl b => .bl b
  | .int i => .int i
  | .str x => .str x
  | _ => .non
def isSc : Dat → Bool
  | .non | .bl _ | .int _ | .str _ => true
  | _ => false
theorem rp_dv {H : Hp} {v : V} {d : Dat} (h : isSc d = true) (r : Rp H v d) : v = dv d := by
  cases r with
  | non => rfl
  | bl b => rfl
  | int i => rfl
  | str x => rfl
  | lst h1 h2 => cases h
  | tup h1 h2 => cases h
  | ins h1 h2 => cases h
  | exc0 h1 => cases h
  | exc1 h1 h2 h3 => cases h
def dI (cd : Int → Int → Prop) (f : Int → Int → V) : Dat → Dat → (Dat → Prop) → Prop := fun d e C => ∃ i j, d = .int i ∧ e = .int j ∧ cd i j ∧ C (vd (f i j))
def dI0 (f : Int → Int → V) : Dat → Dat → (Dat → Prop) → Prop := fun d e C => ∃ i j, d = .int i ∧ e = .int j ∧ C (vd (f i j))
theorem dr_I {cd : Int → Int → Prop} {f : Int → Int → V} (hs : ∀ i j, simV (f i j) = true := by intros; rfl) : DR2 (rI cd f) (dI cd f) := fun O H x y d e C Q _ rx ry ⟨i, j, e1, e2, hc, c⟩ k => by
  subst e1 e2; cases rx; cases ry
  exact ⟨i, j, rfl, rfl, hc, k _ _ H c (Le.refl H) (rp_vd (hs i j))⟩
theorem dr_I0 {f : Int → Int → V} (hs : ∀ i j, simV (f i j) = true := by intros; rfl) : DR2 (rI0 f) (dI0 f) := fun O H x y d e C Q _ rx ry ⟨i, j, e1, e2, c⟩ k => by
  subst e1 e2; cases rx; cases ry
  exact ⟨i, j, rfl, rfl, k _ _ H c (Le.refl H) (rp_vd (hs i j))⟩
/-- == of simple things -/
def eqS : Dat → Dat → Bool
  | .int i, .int j => decide (i = j)
  | .bl i, .bl j => decide (i = j)
  | .str i, .str j => decide (i = j)
  | .non, .non => true
  | _, _ => false
theorem eqS_ok {d e : Dat} (h1 : isSc d = true) (h2 : isSc e = true) : decide (dv d = dv e) = eqS d e := by
  cases d <;> cases e <;> first | (cases h1; done) | (cases h2; done) | skip
  all_goals first
    | rfl
    | (show decide (V.int _ = V.int _) = decide _; exact decide_eq_decide.mpr ⟨fun h => by injection h, fun h => by rw [h]⟩)
    | (show decide (V.bl _ = V.bl _) = decide _; exact decide_eq_decide.mpr ⟨fun h => by injection h, fun h => by rw [h]⟩)
    | (show decide (V.str _ = V.str _) = decide _; exact decide_eq_decide.mpr ⟨fun h => by injection h, fun h => by rw [h]⟩)
    | exact decide_eq_false (fun h => nomatch h)
def dEq (d e : Dat) (C : Dat → Prop) : Prop := isSc d = true ∧ isSc e = true ∧ scal (dv d) (dv e) = true ∧ C (.bl (eqS d e))
def dNe (d e : Dat) (C : Dat → Prop) : Prop := isSc d = true ∧ isSc e = true ∧ scal (dv d) (dv e) = true ∧ C (.bl (!eqS d e))
theorem dr_eq : DR2 rEq dEq := fun O H x y d e C Q _ rx ry ⟨h1, h2, hs, c⟩ k => by
  have e1 := rp_dv h1 rx
  have e2 := rp_dv h2 ry
  subst e1 e2
  exact ⟨hs, k _ _ H c (Le.refl H) (by rw [eqS_ok h1 h2]; exact .bl _)⟩
theorem dr_ne : DR2 rNe dNe := fun O H x y d e C Q _ rx ry ⟨h1, h2, hs, c⟩ k => by
  have e1 := rp_dv h1 rx
  have e2 := rp_dv h2 ry
  subst e1 e2
  exact ⟨hs, k _ _ H c (Le.refl H) (by rw [eqS_ok h1 h2]; exact .bl _)⟩
def isN : Dat → Bool
  | .non => true
  | _ => false
theorem isN_ok {H : Hp} {v : V} {d : Dat} (r : Rp H v d) : decide (v = .non) = isN d := by
  cases r <;> first | rfl | exact decide_eq_false (fun h => nomatch h)
theorem dr_isN : DR2 (fun x y H Q => y = .non ∧ Q (.bl (decide (x = .non))) H) (fun d e C => e = .non ∧ C (.bl (isN d))) := fun O H x y d e C Q _ rx ry ⟨h1, c⟩ k => by
  subst h1; cases ry
  exact ⟨rfl, k _ _ H c (Le.refl H) (by rw [isN_ok rx]; exact .bl _)⟩
theorem dr_notN : DR2 (fun x y H Q => y = .non ∧ Q (.bl (!decide (x = .non))) H) (fun d e C => e = .non ∧ C (.bl (!isN d))) := fun O H x y d e C Q _ rx ry ⟨h1, c⟩ k => by
  subst h1; cases ry
  exact ⟨rfl, k _ _ H c (Le.refl H) (by rw [isN_ok rx]; exact .bl _)⟩
/-! places -/
def dIx (d e : Dat) (C : Dat → Prop) : Prop := ∃ ds j x, d = .lst ds ∧ e = .int j ∧ atI ds j = some x ∧ C x
def dIxT (d e : Dat) (C : Dat → Prop) : Prop := ∃ ds j x, d = .tup ds ∧ e = .int j ∧ atI ds j = some x ∧ C x
theorem dr_ixL {K : PySem.W.Frag} : DR2 (rIxL K) dIx := fun O H x y d e C Q _ rx ry ⟨ds, j, x', e1, e2, ha, c⟩ k => by
  subst e1 e2; cases ry
  cases rx with
  | lst h r =>
    obtain ⟨v, hv, rv⟩ := r.at ha
    exact ⟨_, _, _, v, rfl, rfl, SqL.of (hid_some h).2, hv, k _ _ H c (Le.refl H) rv⟩
theorem dr_ixT {K : PySem.W.Frag} : DR2 (rIxT K) dIxT := fun O H x y d e C Q _ rx ry ⟨ds, j, x', e1, e2, ha, c⟩ k => by
  subst e1 e2; cases ry
  cases rx with
  | tup h r =>
    obtain ⟨v, hv, rv⟩ := r.at ha
    exact ⟨_, _, _, v, rfl, rfl, SqT.of (hid_some h).2, hv, k _ _ H c (Le.refl H) rv⟩
def dCat (d e : Dat) (C : List Dat → Prop) : Prop := ∃ xs ys, d = .lst xs ∧ e = .lst ys ∧ xs.length + ys.length ≤ 1000 ∧ C (xs ++ ys)
theorem dn_cat : DN2 rCat dCat := fun H x y d e C Q G l rx ry ⟨xs, ys, e1, e2, hl, c⟩ k => by
  subst e1 e2
  cases rx with
  | lst h r =>
    cases ry with
    | lst h' r' =>
      refine ⟨_, _, _, _, rfl, rfl, l.lst h, l.lst h', ?_, fun p hp => k _ _ p c hp (r.append r')⟩
      rw [r.length, r'.length]; exact Nat.le_of_lt (small1000 hl)
def dRep (d e : Dat) (C : List Dat → Prop) : Prop := ∃ xs k, d = .lst xs ∧ e = .int k ∧ -(2 ^ 63) ≤ k ∧ k < 2 ^ 63 ∧ xs.length * k.toNat ≤ 1000 ∧ C (List.replicate k.toNat xs).flatten
theorem dn_rep : DN2 rRep dRep := fun H x y d e C Q G l rx ry ⟨xs, n, e1, e2, h1, h2, hl, c⟩ k => by
  subst e1 e2; cases ry
  cases rx with
  | lst h r =>
    refine ⟨_, _, _, rfl, rfl, l.lst h, h1, h2, ?_, fun p hp => k _ _ p c hp (r.rep _)⟩
    rw [r.length]; exact Nat.le_of_lt (small1000 hl)
/-! data that is compared at any depth -/
mutual
def toP : Dat → PyData
  | .non => .none
  | .bl b => .bool b
  | .int i => .int i
  | .str x => .str x
  | .lst ds => .list (toPs ds)
  | .tup ds => .tuple (toPs ds)
  | .ins _ _ => .none
  | .exc _ _ => .none
def toPs : List Dat → List PyData
  | [] => []
  | d :: ds => toP d :: toPs ds
end
mutual
def plain : Dat → Bool
  | .ins _ _ => false
  | .exc _ _ => false
  | .str x => PyData.strOk x
  | .lst ds => plains ds
  | .tup ds => plains ds
  | _ => true
def plains : List Dat → Bool
  | [] => true
  | d :: ds => plain d && plains ds
end
theorem and_t {a b : Bool} (h : (a && b) = true) : a = true ∧ b = true := by cases a <;> cases b <;> simp_all
mutual
theorem Rp.dp {K : PySem.W.Frag} {O : List Addr} {H : Hp} : ∀ {v : V} {d : Dat}, plain d = true → Rp (hid O H) v d → Dp K H v (toP d)
  | _, _, _, .non => .non
  | _, _, _, .bl b => .bl b
  | _, _, _, .int i => .int i
  | _, _, _, .str x => .str x
  | _, _, p, .lst h r => .lst (SqL.of (hid_some h).2) (RpL.dp (by simpa [plain] using p) r)
  | _, _, p, .tup h r => .tup (SqT.of (hid_some h).2) (RpL.dp (by simpa [plain] using p) r)
  | _, _, p, .ins h r n => by simp [plain] at p
  | _, _, p, .exc0 h => by simp [plain] at p
  | _, _, p, .exc1 h h2 r => by simp [plain] at p
theorem RpL.dp {K : PySem.W.Frag} {O : List Addr} {H : Hp} : ∀ {vs : List V} {ds : List Dat}, plains ds = true → RpL (hid O H) vs ds → DpAll K H vs (toPs ds)
  | _, _, _, .nil => .nil
  | _, _, p, .cons r t => .cons (Rp.dp (and_t (by simpa [plains] using p)).1 r) (RpL.dp (and_t (by simpa [plains] using p)).2 t)
end
mutual
/-- how deep -/
def dep : Dat → Nat
  | .lst ds => deps ds + 1
  | .tup ds => deps ds + 1
  | _ => 0
def deps : List Dat → Nat
  | [] => 0
  | d :: ds => max (dep d) (deps ds)
end
/-- == of data -/
def eqD (d e : Dat) : Bool := PyData.eqv (toP d) (toP e)
structure Cmp (d : Dat) : Prop where
  p : plain d = true
  s : SeqAt.shaped (toP d) = true
def dEqD (d e : Dat) (C : Dat → Prop) : Prop := Cmp d ∧ Cmp e ∧ C (.bl (eqD d e))
def dNeD (d e : Dat) (C : Dat → Prop) : Prop := Cmp d ∧ Cmp e ∧ C (.bl (!eqD d e))
theorem dr_eqD {K : PySem.W.Frag} : DR2 (rEqD K) dEqD := fun O H x y d e C Q _ rx ry ⟨h1, h2, c⟩ k => ⟨_, _, rx.dp h1.p, ry.dp h2.p, h1.s, h2.s, k _ _ H c (Le.refl H) (.bl _)⟩
theorem dr_neD {K : PySem.W.Frag} : DR2 (rNeD K) dNeD := fun O H x y d e C Q _ rx ry ⟨h1, h2, c⟩ k => ⟨_, _, rx.dp h1.p, ry.dp h2.p, h1.s, h2.s, k _ _ H c (Le.refl H) (.bl _)⟩
mutual
theorem lay_toP : ∀ {d : Dat}, plain d = true → PyData.canLay0 (toP d) = true ∧ PyData.depth (toP d) ≤ dep d + 1
  | .non, _ => ⟨by simp [toP, PyData.canLay0], by simp [toP, PyData.depth]⟩
  | .bl _, _ => ⟨by simp [toP, PyData.canLay0], by simp [toP, PyData.depth]⟩
  | .int _, _ => ⟨by simp [toP, PyData.canLay0], by simp [toP, PyData.depth]⟩
  | .str _, p => ⟨by simpa [toP, PyData.canLay0, plain] using p, by simp [toP, PyData.depth]⟩
  | .ins _ _, _ => ⟨by simp [toP, PyData.canLay0], by simp [toP, PyData.depth]⟩
  | .exc _ _, _ => ⟨by simp [toP, PyData.canLay0], by simp [toP, PyData.depth]⟩
  | .lst ds, p => ⟨by simp only [toP, PyData.canLay0]; exact (lay_toPs (by simpa [plain] using p)).1, by simp only [toP, PyData.depth, dep]; have := (lay_toPs (ds := ds) (by simpa [plain] using p)).2; omega⟩
  | .tup ds, p => ⟨by simp only [toP, PyData.canLay0]; exact (lay_toPs (by simpa [plain] using p)).1, by simp only [toP, PyData.depth, dep]; have := (lay_toPs (ds := ds) (by simpa [plain] using p)).2; omega⟩
theorem lay_toPs : ∀ {ds : List Dat}, plains ds = true → PyData.canLayAll0 (toPs ds) = true ∧ PyData.depthAll (toPs ds) ≤ deps ds + 1
  | [], _ => ⟨by simp [toPs, PyData.canLayAll0], by simp [toPs, PyData.depthAll]⟩
  | d :: ds, p => by
    have p' := and_t (show (plain d && plains ds) = true by simpa [plains] using p)
    have h1 := lay_toP (d := d) p'.1
    have h2 := lay_toPs (ds := ds) p'.2
    refine ⟨by simp only [toPs, PyData.canLayAll0, h1.1, h2.1]; rfl, ?_⟩
    simp only [toPs, PyData.depthAll, deps]
    omega
end
theorem Cmp.of {d : Dat} (p : plain d = true) (h : dep d ≤ 60) : Cmp d := ⟨p, by
  have l := lay_toP (d := d) p
  show (PyData.canLay0 (toP d) && decide (PyData.depth (toP d) ≤ 64)) = true
  rw [l.1, decide_eq_true (by omega)]; rfl⟩
theorem eqD_refl {d : Dat} (h : Cmp d) : eqD d d = true := SeqAt.eqv_refl _ (SeqAt.canLay_of_shaped h.s)
/-! calls of what is built in -/
theorem db_abs : DCB (fun xs H Q => ∃ i, xs = [.int i] ∧ Q (.int (if i < 0 then -i else i)) H) (fun ds C => ∃ i, ds = [.int i] ∧ C (.int (if i < 0 then -i else i))) := fun O H xs ds C Q _ r ⟨i, e, c⟩ k => by
  subst e
  cases r with
  | cons r t => cases r; cases t; exact ⟨i, rfl, k _ _ H c (Le.refl H) (.int _)⟩
theorem db_max2 : DCB (fun xs H Q => ∃ i j, xs = [.int i, .int j] ∧ Q (.int (if j > i then j else i)) H) (fun ds C => ∃ i j, ds = [.int i, .int j] ∧ C (.int (if j > i then j else i))) := fun O H xs ds C Q _ r ⟨i, j, e, c⟩ k => by
  subst e
  cases r with
  | cons r t => cases r; cases t with
    | cons r t => cases r; cases t; exact ⟨i, j, rfl, k _ _ H c (Le.refl H) (.int _)⟩
theorem db_int1 : DCB (fun xs H Q => (∃ i, xs = [.int i] ∧ Q (.int i) H) ∨ ∃ k, xs = [.bl k] ∧ Q (.int (if k then 1 else 0)) H) (fun ds C => (∃ i, ds = [.int i] ∧ C (.int i)) ∨ ∃ k, ds = [.bl k] ∧ C (.int (if k then 1 else 0))) := fun O H xs ds C Q _ r h k => by
  rcases h with ⟨i, e, c⟩ | ⟨i, e, c⟩
  · subst e
    cases r with
    | cons r t => cases r; cases t; exact .inl ⟨i, rfl, k _ _ H c (Le.refl H) (.int _)⟩
  · subst e
    cases r with
    | cons r t => cases r; cases t; exact .inr ⟨i, rfl, k _ _ H c (Le.refl H) (.int _)⟩
def seqOf : Dat → Option (List Dat)
  | .lst ds => some ds
  | .tup ds => some ds
  | _ => none
theorem db_len {K : PySem.W.Frag} : DCB (fun xs H Q => ∃ p ys, xs = [.ref p] ∧ (SqL K H p ys ∨ SqT K H p ys) ∧ Q (.int ys.length) H) (fun ds C => ∃ d xs, ds = [d] ∧ seqOf d = some xs ∧ C (.int xs.length)) := fun O H xs ds C Q _ r ⟨d, ys, e, hs, c⟩ k => by
  subst e
  cases r with
  | cons r t =>
    cases t
    cases r with
    | lst h r => cases hs; exact ⟨_, _, rfl, .inl (SqL.of (hid_some h).2), k _ _ H c (Le.refl H) (by rw [r.length]; exact .int _)⟩
    | tup h r => cases hs; exact ⟨_, _, rfl, .inr (SqT.of (hid_some h).2), k _ _ H c (Le.refl H) (by rw [r.length]; exact .int _)⟩
    | _ => cases hs
theorem dn_listOf {K : PySem.W.Frag} : DNB (fun xs H Q => ∃ p ys, xs = [.ref p] ∧ (SqL K H p ys ∨ SqT K H p ys) ∧ ∀ l, H l = none → Q (.ref l) (upd H l (.lst ys))) (fun ds C => ∃ d xs, ds = [d] ∧ seqOf d = some xs ∧ C xs) := fun H xs ds C Q G l r ⟨d, ys, e, hs, c⟩ k => by
  subst e
  cases r with
  | cons r t =>
    cases t
    cases r with
    | lst h r => cases hs; exact ⟨_, _, rfl, .inl (SqL.of (l.lst h)), fun p hp => k _ _ p c hp r⟩
    | tup h r =>
      cases hs
      rcases l _ _ h with h | ⟨_, _, _, _, e, _⟩
      · exact ⟨_, _, rfl, .inr (SqT.of h), fun p hp => k _ _ p c hp r⟩
      · cases e
    | _ => cases hs
/-! what is asked of data, by names: so a tactic can answer -/
def dUn (f : Int → V) (d : Dat) (C : Dat → Prop) : Prop := ∃ i, d = .int i ∧ C (vd (f i))
def dInt (d : Dat) (C : Int → Prop) : Prop := ∃ i, d = .int i ∧ C i
def dLst (d : Dat) (C : List Dat → Prop) : Prop := ∃ ds, d = .lst ds ∧ C ds
def dTup (d : Dat) (C : List Dat → Prop) : Prop := ∃ ds, d = .tup ds ∧ C ds
def dStr (d : Dat) (C : Str → Prop) : Prop := ∃ x, d = .str x ∧ C x
def dIxO (ds : List Dat) (d : Dat) (C : Dat → Prop) : Prop := ∃ j x, d = .int j ∧ atI ds j = some x ∧ C x
section
variable {z : Cz} {g : List Sl} {m : Nat} {C : Nat → Dat → Prop} {CL : Nat → List Dat → Prop} {t ta tb tc : TE} {tr : TA}
/-! one-place operations, parts of lists, own lists read -/
theorem XE.unI {f : Int → V} (h : XE z ta g m fun m1 d => dUn f d (C m1)) (hs : ∀ i, simV (f i) = true := by intros; rfl) : XE z (tUn (rU f) ta) g m C := fun O σ H R Q k =>
  h O σ H R _ fun m1 d v H1 ⟨i, e, c⟩ R1 l1 q1 => by subst e; cases q1; exact ⟨i, rfl, k m1 _ _ H1 c R1 l1 (rp_vd (hs i))⟩
def XO (z : Cz) (t : TO) (g : List Sl) (m : Nat) (C : Nat → Option Int → Prop) : Prop := ∀ (O : List Addr) (σ : L2.St) (H : Hp), Real z O g m σ H → ∀ Q : Option Int → Hp → Prop,
  (∀ m' o H', C m' o → Real z O g m' σ H' → LeX z.P H H' → Q o H') → t σ H Q
theorem XO.no {C : Nat → Option Int → Prop} (c : C m none) : XO z tNoPart g m C := fun O σ H R Q k => k m none H c R (LeX.refl _ _)
theorem XO.yes {C : Nat → Option Int → Prop} (h : XE z ta g m fun m1 d => dInt d fun i => C m1 (some i)) : XO z (tPart ta) g m C := fun O σ H R Q k =>
  h O σ H R _ fun m1 d v H1 ⟨i, e, c⟩ R1 l1 q1 => by subst e; cases q1; exact ⟨i, rfl, k m1 _ H1 c R1 l1⟩
theorem XN.sl {K : PySem.W.Frag} {tl th : TO} (h : XE z ta g m fun m1 d => XO z tl g m1 fun m2 lo => XO z th g m2 fun m3 hi => dLst d fun ds => CL m3 (cutD ds lo hi)) : XN z (tSl (rSlL K) ta tl th) g m CL := fun O σ H R Q k =>
  h O σ H R _ fun m1 d v H1 c1 R1 l1 q1 => c1 O σ H1 R1 _ fun m2 lo H2 c2 R2 l2 => c2 O σ H2 R2 _ fun m3 hi H3 ⟨ds, e, c⟩ R3 l3 => by
    subst e
    have q3 := (q1.mono (l2.hid R1.po)).mono (l3.hid R2.po)
    cases q3 with
    | lst hq r =>
      refine ⟨_, _, rfl, SqL.of (hid_some hq).2, fun p hp => ?_⟩
      obtain ⟨f, e⟩ := Fresh.of R3 hp (r.cut lo hi)
      have l := (l1.trans l2).trans l3
      refine k m3 _ p _ c (by rw [e]; exact R3) (by rw [e]; exact l) ⟨f.no, f.nb, ?_, f.at_⟩
      cases q : H p with
      | none => rfl
      | some o =>
        by_cases y : p ∈ z.P
        · exact absurd (R.po p y) f.no
        · obtain ⟨o', ho⟩ := (l p o y q).get
          rw [hp] at ho; cases ho
theorem XE.ixO {K : PySem.W.Frag} {i : Nat} {ds : List Dat} (hg : g[i]? = some (.ow ds)) (h : XE z tb g m fun m2 d2 => dIxO ds d2 (C m2)) : XE z (tOp (rIxL K) (tVar i) tb) g m C := fun O σ H R Q k => by
  obtain ⟨p, vs, e, po, pG, hp, q⟩ := R.sl i _ hg
  refine ⟨_, e, h O σ H R _ fun m2 d2 y H2 ⟨j, x, e2, ha, c⟩ R2 l2 q2 => ?_⟩
  subst e2; cases q2
  obtain ⟨v, hv, rv⟩ := (q.mono (l2.hid R.po)).at ha
  exact ⟨p, vs, j, v, rfl, rfl, SqL.of (l2.lst (fun n => pG (R.pg p n)) hp), hv, k m2 _ _ H2 c R2 l2 rv⟩
theorem XE.lenO {K : PySem.W.Frag} {i : Nat} {ds : List Dat} (hg : g[i]? = some (.ow ds)) (c : C m (.int ds.length)) : XE z (tCB (fun xs H Q => ∃ p ys, xs = [.ref p] ∧ (SqL K H p ys ∨ SqT K H p ys) ∧ Q (.int ys.length) H) (tCons (tVar i) tNil)) g m C := fun O σ H R Q k => by
  obtain ⟨p, vs, e, po, pG, hp, q⟩ := R.sl i _ hg
  exact ⟨_, e, p, vs, rfl, .inl (SqL.of hp), k m _ _ H c R (LeX.refl _ _) (by rw [q.length]; exact .int _)⟩
end
end My

namespace My
open PySem PySem.Spec PyProof.Rows L2
open C8 (Cal pe_c pe_gc)
/-! ### statements -/
/-- what is of now and of later: what was data then is data now -/
structure Lz (O : List Addr) (H : Hp) (O' : List Addr) (H' : Hp) : Prop where
  le : Le (hid O H) (hid O' H')
  new : ∀ p ∈ O', p ∈ O ∨ H p = none
theorem Lz.refl (O : List Addr) (H : Hp) : Lz O H O H := ⟨Le.refl _, fun _ h => .inl h⟩
theorem Lz.trans {O O1 O2 : List Addr} {H H1 H2 : Hp} (a : Lz O H O1 H1) (b : Lz O1 H1 O2 H2) : Lz O H O2 H2 := ⟨a.le.trans b.le, fun p h => by
  rcases b.new p h with h | h
  · exact a.new p h
  · by_cases q : p ∈ O
    · exact .inl q
    · refine .inr ?_
      cases e : H p with
      | none => rfl
      | some o =>
        obtain ⟨o', ho⟩ := (a.le p o (by rw [hid_out q]; exact e)).get
        rw [(hid_some ho).2] at h; cases h⟩
theorem LeX.z {P O : List Addr} {H H' : Hp} (a : LeX P H H') (p : ∀ b ∈ P, b ∈ O) : Lz O H O H' := ⟨a.hid p, fun _ h => .inl h⟩
structure DE where
  nx : List Sl → Nat → Prop
  rt : Nat → Dat → Prop
  rn : Nat → List Dat → Prop := fun _ _ => False
  bk : List Sl → Nat → Prop := fun _ _ => False
  ct : List Sl → Nat → Prop := fun _ _ => False
structure DK (z : Cz) (O : List Addr) (H : Hp) (E : DE) (D : Ends) : Prop where
  nx : ∀ O' g' m' σ' H', E.nx g' m' → Real z O' g' m' σ' H' → Lz O H O' H' → D.nx σ' H'
  rt : ∀ O' g' m' σ' d v H', E.rt m' d → Real z O' g' m' σ' H' → Rp (hid O' H') v d → D.rt v H'
  rn : ∀ O' g' m' σ' ds p H', E.rn m' ds → Real z O' g' m' σ' (hid [p] H') → p ∉ O' → z.B p = none → (∃ vs, H' p = some (.lst vs) ∧ RpL (hid O' (hid [p] H')) vs ds) → D.rt (.ref p) H'
  bk : ∀ O' g' m' σ' H', E.bk g' m' → Real z O' g' m' σ' H' → Lz O H O' H' → D.bk σ' H'
  ct : ∀ O' g' m' σ' H', E.ct g' m' → Real z O' g' m' σ' H' → Lz O H O' H' → D.ct σ' H'
theorem DK.mono {z : Cz} {O O1 : List Addr} {H H1 : Hp} {E : DE} {D : Ends} (k : DK z O H E D) (l : Lz O H O1 H1) : DK z O1 H1 E D :=
  ⟨fun O' g' m' σ' H' c R q => k.nx O' g' m' σ' H' c R (l.trans q), k.rt, k.rn, fun O' g' m' σ' H' c R q => k.bk O' g' m' σ' H' c R (l.trans q), fun O' g' m' σ' H' c R q => k.ct O' g' m' σ' H' c R (l.trans q)⟩
def XS (z : Cz) (t : TS) (g : List Sl) (m : Nat) (E : DE) : Prop := ∀ (O : List Addr) (σ : L2.St) (H : Hp), Real z O g m σ H → ∀ D : Ends, DK z O H E D → t D σ H
/-- a target -/
def XG (z : Cz) (vs : List Nat) (gt : TG) (d : Dat) (g : List Sl) (k : List Sl → Prop) : Prop := ∀ (O : List Addr) (m : Nat) (σ : L2.St) (H : Hp) (v : V), Real z O g m σ H → Rp (hid O H) v d → ∀ R : L2.St → Hp → Prop,
  (∀ g' σ', k g' → Real z O g' m σ' H → wipe σ' vs = wipe σ vs → R σ' H) → gt v σ H R
def XGs (z : Cz) (vs : List Nat) (gt : TGs) (ds : List Dat) (g : List Sl) (k : List Sl → Prop) : Prop := ∀ (O : List Addr) (m : Nat) (σ : L2.St) (H : Hp) (ws : List V), Real z O g m σ H → RpL (hid O H) ws ds → ∀ R : L2.St → Hp → Prop,
  (∀ g' σ', k g' → Real z O g' m σ' H → wipe σ' vs = wipe σ vs → R σ' H) → gt ws σ H R
theorem wipe_set {σ : L2.St} {i : Nat} {x : Option V} : ∀ {vs : List Nat}, i ∈ vs → wipe (σ.set i x) vs = wipe σ vs
  | v :: vs, h => by
    unfold wipe
    by_cases e : i ∈ vs
    · rw [wipe_set e]
    · have e2 : i = v := (List.mem_cons.mp h).resolve_right e
      subst e2
      have q : ∀ {ws : List Nat}, i ∉ ws → (wipe (σ.set i x) ws) = (wipe σ ws).set i x := fun {ws} => by
        induction ws with
        | nil => intro _; rfl
        | cons w ws ih =>
          intro hn
          unfold wipe
          rw [ih (fun z => hn (List.mem_cons_of_mem _ z)), List.set_comm _ _ (fun z => hn (by rw [z]; simp))]
      rw [q e, List.set_set]
def dPut (n : Nat) (d : Dat) (C : Nat → Prop) : Prop := ∃ k j, d = .int k ∧ ixN n k = some j ∧ C j
@[irreducible] def dExt (n : Nat) (d : Dat) (C : List Dat → Prop) : Prop := ∃ es, d = .lst es ∧ n + es.length ≤ 1000 ∧ C es
def dApp (n : Nat) (es : List Dat) (C : Dat → Prop) : Prop := ∃ d, es = [d] ∧ n ≤ 1000 ∧ C d
section
variable {z : Cz} {g : List Sl} {m : Nat} {C : Nat → Dat → Prop} {CL : Nat → List Dat → Prop} {CT : Nat → Bool → Prop} {t ta tb tc : TE} {tr : TA} {tt tu : TT} {ts us : TS} {E : DE} {vs : List Nat}
theorem XG.name {i : Nat} {d : Dat} {k : List Sl → Prop} (h : vs.contains i = true) (c : k (g.set i (.dt d))) : XG z vs (gName i) d g k := fun O m σ H v R q R' k' => k' _ _ c (R.set i q) (wipe_set (by simpa using h))
theorem XGs.nil {k : List Sl → Prop} (c : k g) : XGs z vs gNil [] g k := fun O m σ H ws R q R' k' => by cases q; exact ⟨rfl, k' _ _ c R rfl⟩
theorem XGs.cons {g1 : TG} {gs : TGs} {d : Dat} {ds : List Dat} {k : List Sl → Prop} (h : XG z vs g1 d g fun g2 => XGs z vs gs ds g2 k) : XGs z vs (gCons g1 gs) (d :: ds) g k := fun O m σ H ws R q R' k' => by
  cases q with
  | cons r t => exact ⟨_, _, rfl, h O m σ H _ R r _ fun g2 σ2 c2 R2 w2 => c2 O m σ2 H _ R2 t _ fun g3 σ3 c3 R3 w3 => k' g3 σ3 c3 R3 (w3.trans w2)⟩
theorem XG.tup {K : PySem.W.Frag} {n : Nat} {gs : TGs} {d : Dat} {k : List Sl → Prop} (h : ∃ ds, d = .tup ds ∧ ds.length = n ∧ XGs z vs gs ds g k) : XG z vs (gTup K n gs) d g k := fun O m σ H v R q R' k' => by
  obtain ⟨ds, e, hl, h⟩ := h
  subst e
  cases q with
  | tup ha r => exact ⟨_, _, rfl, SqT.of (hid_some ha).2, by rw [r.length]; exact hl, h O m σ H _ R r R' k'⟩
theorem XG.unl {K : PySem.W.Frag} {n : Nat} {gs : TGs} {d : Dat} {k : List Sl → Prop} (h : ∃ ds, d = .lst ds ∧ ds.length = n ∧ XGs z vs gs ds g k) : XG z vs (gUnl K n gs) d g k := fun O m σ H v R q R' k' => by
  obtain ⟨ds, e, hl, h⟩ := h
  subst e
  cases q with
  | lst ha r => exact ⟨_, _, rfl, SqL.of (hid_some ha).2, by rw [r.length]; exact hl, h O m σ H _ R r R' k'⟩
theorem XS.next (c : E.nx g m) : XS z tNext g m E := fun O σ H R D k => k.nx _ _ _ _ _ c R (Lz.refl _ _)
theorem XS.seq (h : XS z ts g m { E with nx := fun g1 m1 => XS z us g1 m1 E }) : XS z (tSeq ts us) g m E := fun O σ H R D k =>
  h O σ H R _ ⟨fun O' g' m' σ' H' c R' l => c O' σ' H' R' D (k.mono l), k.rt, k.rn, k.bk, k.ct⟩
theorem XS.brk (c : E.bk g m) : XS z tBreak g m E := fun O σ H R D k => k.bk _ _ _ _ _ c R (Lz.refl _ _)
theorem XS.cnt (c : E.ct g m) : XS z tCont g m E := fun O σ H R D k => k.ct _ _ _ _ _ c R (Lz.refl _ _)
theorem XS.drop (h : XE z t g m fun m1 _ => E.nx g m1) : XS z (tDrop t) g m E := fun O σ H R D k => h O σ H R _ fun m1 d v H1 c R1 l1 _ => k.nx _ _ _ _ _ c R1 (l1.z R.po)
theorem XS.ret (h : XE z t g m E.rt) : XS z (tRet t) g m E := fun O σ H R D k => h O σ H R _ fun m1 d v H1 c R1 l1 q1 => k.rt _ _ _ _ _ _ _ c R1 q1
theorem XS.retF (h : XN z t g m E.rn) : XS z (tRet t) g m E := fun O σ H R D k => h O σ H R _ fun m1 ds p H1 c R1 l1 f => k.rn _ _ _ _ _ _ _ c R1 f.no f.nb f.at_
theorem XS.retN (c : E.rt m .non) : XS z tRetN g m E := fun O σ H R D k => k.rt _ _ _ _ _ _ _ c R .non
theorem XS.ite (h : XT z tt g m fun m1 b => if b = true then XS z ts g m1 E else XS z us g m1 E) : XS z (tIfS tt ts us) g m E := fun O σ H R D k => h O σ H R _ fun m1 b H1 c R1 l1 => by
  have k1 := k.mono (l1.z R.po)
  cases b with
  | true => exact c O σ H1 R1 D k1
  | false => exact c O σ H1 R1 D k1
theorem XS.set {i : Nat} (h : XE z t g m fun m1 d => E.nx (g.set i (.dt d)) m1) : XS z (tAsg t (gName i)) g m E := fun O σ H R D k => h O σ H R _ fun m1 d v H1 c R1 l1 q1 => k.nx _ _ _ _ _ c (R1.set i q1) (l1.z R.po)
theorem XS.setO {i : Nat} (h : XN z t g m fun m1 ds => E.nx (g.set i (.ow ds)) m1) : XS z (tAsg t (gName i)) g m E := fun O σ H R D k => h O σ H R _ fun m1 ds p H1 c R1 l1 f => by
  refine k.nx _ _ _ _ _ c (R1.own f i) ⟨?_, fun q hq => ?_⟩
  · rw [← hid_hid1]; exact l1.hid R.po
  · rcases List.mem_cons.mp hq with e | h
    · subst e; exact .inr f.ne
    · exact .inl h
theorem XS.asg {gt : TG} (h : XE z t g m fun m1 d => XG z (List.range 64) gt d g fun g1 => E.nx g1 m1) : XS z (tAsg t gt) g m E := fun O σ H R D k => h O σ H R _ fun m1 d v H1 c R1 l1 q1 =>
  c O m1 σ H1 v R1 q1 _ fun g' σ' c' R' _ => k.nx _ _ _ _ _ c' R' (l1.z R.po)
theorem XS.par {i j : Nat} (h : XA z tr g m fun m1 ds => ∃ d e, ds = [d, e] ∧ E.nx ((g.set i (.dt d)).set j (.dt e)) m1) : XS z (tPar i j tr) g m E := fun O σ H R D k => h O σ H R _ fun m1 ds vs H1 ⟨d, e, eq, c⟩ R1 l1 q1 => by
  subst eq
  cases q1 with
  | cons r t => cases t with
    | cons r' t => cases t; exact ⟨_, _, rfl, k.nx _ _ _ _ _ c ((R1.set i r).set j r') (l1.z R.po)⟩
theorem XS.par3 {i j l : Nat} (h : XA z tr g m fun m1 ds => ∃ d e f, ds = [d, e, f] ∧ E.nx (((g.set i (.dt d)).set j (.dt e)).set l (.dt f)) m1) : XS z (tPar3 i j l tr) g m E := fun O σ H R D k => h O σ H R _ fun m1 ds vs H1 ⟨d, e, f, eq, c⟩ R1 l1 q1 => by
  subst eq
  cases q1 with
  | cons r t => cases t with
    | cons r' t => cases t with
      | cons r'' t => cases t; exact ⟨_, _, _, rfl, k.nx _ _ _ _ _ c (((R1.set i r).set j r').set l r'') (l1.z R.po)⟩
theorem XS.augI {i : Nat} {f : Int → Int → Int} {a : Int} (hg : g[i]? = some (.dt (.int a))) (h : XE z t g m fun m1 d => dInt d fun b => E.nx (g.set i (.dt (.int (f a b)))) m1) : XS z (tAug i t (ipI f)) g m E := fun O σ H R D k => by
  obtain ⟨v, e, q⟩ := R.sl i _ hg
  cases q
  exact ⟨_, e, h O σ H R _ fun m1 d v H1 ⟨b, e, c⟩ R1 l1 q1 => by subst e; cases q1; exact ⟨_, _, rfl, rfl, k.nx _ _ _ _ _ c (R1.set i (.int _)) (l1.z R.po)⟩⟩
theorem XS.augR {i : Nat} {cd : Int → Int → Prop} {f : Int → Int → V} {a : Int} (hg : g[i]? = some (.dt (.int a))) (h : XE z t g m fun m1 d => dInt d fun b => cd a b ∧ E.nx (g.set i (.dt (vd (f a b)))) m1) (hs : ∀ i j, simV (f i j) = true := by intros; rfl) : XS z (tAug i t (rI cd f)) g m E := fun O σ H R D k => by
  obtain ⟨v, e, q⟩ := R.sl i _ hg
  cases q
  exact ⟨_, e, h O σ H R _ fun m1 d v H1 ⟨b, e, hc, c⟩ R1 l1 q1 => by subst e; cases q1; exact ⟨_, _, rfl, rfl, hc, k.nx _ _ _ _ _ c (R1.set i (rp_vd (hs _ _))) (l1.z R.po)⟩⟩
/-! own lists -/
theorem Real.putz {O : List Addr} {σ : L2.St} {H H' : Hp} {p : Addr} {ws : List V} (po : p ∈ O) (l : Lz O H O H') : Lz O H O (upd H' p (.lst ws)) := ⟨by rw [hid_upd po]; exact l.le, l.new⟩
theorem XS.app {K : PySem.W.Frag} {T : String} {i : Nat} {ds : List Dat} (hT : T = "list") (hg : g[i]? = some (.ow ds)) (h : XA z tr g m fun m1 es => dApp ds.length es fun d => E.nx (g.set i (.ow (ds ++ [d]))) m1) : XS z (tDrop (tBM K T rAppend (tVar i) tr)) g m E := fun O σ H R D k => by
  obtain ⟨p, vs, e, po, pG, hp, q⟩ := R.sl i _ hg
  refine ⟨_, e, .inl ⟨hT, _, SqL.of hp⟩, h O σ H R _ fun m1 es us H1 ⟨d, e1, hl, c⟩ R1 l1 q1 => ?_⟩
  subst e1
  cases q1 with
  | cons r t =>
    cases t
    have hp1 := l1.lst (fun n => pG (R.pg p n)) hp
    have q' := q.mono (l1.hid R.po)
    exact ⟨p, vs, _, rfl, rfl, hp1, small1000 (by rw [q.length]; exact hl), k.nx _ _ _ _ _ c (R1.put hg e (q'.append (.cons r .nil))) (Real.putz (σ := σ) po (l1.z R.po))⟩
theorem XS.setI {i : Nat} {ds : List Dat} (hg : g[i]? = some (.ow ds)) (h : XE z t g m fun m1 d => XE z tb g m1 fun m2 e => dPut ds.length e fun j => E.nx (g.set i (.ow (ds.set j d))) m2) : XS z (tAsg t (gSub (tVar i) tb rSetL)) g m E := fun O σ H R D k =>
  h O σ H R _ fun m1 d v H1 c1 R1 l1 q1 => by
    obtain ⟨p, vs, e, po, pG, hp, q⟩ := R1.sl i _ hg
    refine ⟨_, e, c1 O σ H1 R1 _ fun m2 d2 y H2 ⟨n, j, e2, hj, c⟩ R2 l2 q2 => ?_⟩
    subst e2; cases q2
    have hp1 := l2.lst (fun n => pG (R1.pg p n)) hp
    have q' := q.mono (l2.hid R1.po)
    exact ⟨p, vs, n, j, rfl, rfl, hp1, by rw [q.length]; exact hj, k.nx _ _ _ _ _ c (R2.put hg e (q'.set (q1.mono (l2.hid R1.po)) j)) (Real.putz (σ := σ) po ((l1.trans l2).z R.po))⟩
theorem XS.ext {i : Nat} {ds : List Dat} (hg : g[i]? = some (.ow ds)) (h : XE z t g m fun m1 d => dExt ds.length d fun es => E.nx (g.set i (.ow (ds ++ es))) m1) : XS z (tAug i t rExt2) g m E := fun O σ H R D k => by
  obtain ⟨p, vs, e, po, pG, hp, q⟩ := R.sl i _ hg
  refine ⟨_, e, h O σ H R _ fun m1 d v H1 hD R1 l1 q1 => ?_⟩
  unfold dExt at hD
  obtain ⟨es, e1, hl, c⟩ := hD
  subst e1
  cases q1 with
  | lst hb r =>
    have hp1 := l1.lst (fun n => pG (R.pg p n)) hp
    have q' := q.mono (l1.hid R.po)
    refine ⟨p, _, vs, _, rfl, rfl, hp1, (hid_some hb).2, by rw [q.length, r.length]; exact Nat.le_of_lt (small1000 hl), ?_⟩
    have R2 := R1.put hg e (q'.append r)
    have eσ : σ.set i (some (.ref p)) = σ := by
      refine List.ext_getElem? fun n => ?_
      by_cases en : i = n
      · subst en
        rw [List.getElem?_set_self (by rw [R.len]; exact (List.getElem?_eq_some_iff.mp hg).1), e]
      · rw [List.getElem?_set_ne en]
    show D.nx (σ.set i (some (.ref p))) _
    rw [eσ]
    exact k.nx _ _ _ _ _ c R2 (Real.putz (σ := σ) po (l1.z R.po))
theorem XS.frz {i : Nat} {ds : List Dat} (hg : g[i]? = some (.ow ds)) (h : XS z ts (g.set i (.dt (.lst ds))) m E) : XS z ts g m E := fun O σ H R D k => by
  obtain ⟨p, vs, e, po, pG, hp, q⟩ := R.sl i _ hg
  have l : i < g.length := (List.getElem?_eq_some_iff.mp hg).1
  have sub : ∀ q ∈ O.filter (fun b => decide (b ≠ p)), q ∈ O := fun q h => (List.mem_filter.mp h).1
  obtain ⟨O', R', sb⟩ : ∃ O', Real z O' (g.set i (.dt (.lst ds))) m σ H ∧ ∀ q ∈ O', q ∈ O := by
    obtain ⟨O', R'⟩ := R.frzO hg
    exact ⟨O', R'⟩
  exact h O' σ H R' D (k.mono ⟨hid_sub sb, fun q h => .inl (sb q h)⟩)
/-- return of an own list: a new one -/
theorem XS.retO {i : Nat} {ds : List Dat} (hg : g[i]? = some (.ow ds)) (c : E.rn m ds) : XS z (tRet (tVar i)) g m E := fun O σ H R D k => by
  obtain ⟨p, vs, e, po, pG, hp, q⟩ := R.sl i _ hg
  refine ⟨_, e, ?_⟩
  have l : i < g.length := (List.getElem?_eq_some_iff.mp hg).1
  obtain ⟨O', R', np, hO, eh⟩ := R.cut hg e
  refine k.rn O' (g.set i .un) m σ ds p H c R' np ?_ ⟨vs, hp, by rw [eh]; exact q⟩
  rcases R.new p po with n | n
  · exact absurd n pG
  · exact n
end
end My

namespace My
open PySem PySem.Spec PyProof.Rows L2
open C8 (Cal pe_c pe_gc)
/-! ### walks, loops, comprehensions -/
/-- a walk over data, from H1 on -/
def WalkOk (O : List Addr) (J : It) (ds : List Dat) (H1 : Hp) : Prop := ∀ (O' : List Addr) (i : Nat) (H' : Hp), Lz O H1 O' H' → (∀ p ∈ O', ∃ o, H' p = some o) →
  (∀ d, ds[i]? = some d → J.go i H' ∧ ∀ x H'', J.yld i H' x H'' → Le H' H'' ∧ Rp (hid O' H'') x d) ∧ (ds.length ≤ i → J.stop i H')
def XI (z : Cz) (wi : TI) (g : List Sl) (m : Nat) (C : Nat → List Dat → Prop) : Prop := ∀ (O : List Addr) (σ : L2.St) (H : Hp), Real z O g m σ H → ∀ R : It → Hp → Prop,
  (∀ m' ds J H1, C m' ds → Real z O g m' σ H1 → LeX z.P H H1 → WalkOk O J ds H1 → R J H1) → wi σ H R
def dRg1 (es : List Dat) (C : Int → Prop) : Prop := ∃ j : Int, es = [.int j] ∧ -(2 ^ 62) ≤ j ∧ j < 2 ^ 62 ∧ C j
def dRg2 (es : List Dat) (C : Int → Int → Prop) : Prop := ∃ i j : Int, es = [.int i, .int j] ∧ (-(2 ^ 62) ≤ i ∧ i < 2 ^ 62 ∧ -(2 ^ 62) ≤ j ∧ j < 2 ^ 62) ∧ C i j
def dRg3 (es : List Dat) (C : Int → Int → Nat → Prop) : Prop := ∃ (i j c : Int) (n : Nat), es = [.int i, .int j, .int c] ∧ RgC i j c n ∧ C i c n
def dEnum (es : List Dat) (C : List Dat → Prop) : Prop := ∃ ds, es = [.lst ds] ∧ C ds
def dZip (fs : List Dat) (C : List Dat → List Dat → Prop) : Prop := ∃ ds es, fs = [.lst ds, .lst es] ∧ C ds es
def dZipS (fs : List Dat) (C : List Dat → List Dat → Prop) : Prop := ∃ ds es, fs = [.lst ds, .lst es] ∧ ds.length = es.length ∧ C ds es
section
variable {z : Cz} {g : List Sl} {m : Nat} {C : Nat → Dat → Prop} {CL : Nat → List Dat → Prop} {CT : Nat → Bool → Prop} {t ta tb tc te : TE} {tr : TA} {tt tu : TT} {ts us : TS} {E : DE} {wi : TI} {gt : TG} {K : PySem.W.Frag}
theorem RpL.none {H : Hp} {vs : List V} {ds : List Dat} (r : RpL H vs ds) {i : Nat} (h : ds.length ≤ i) : vs.length ≤ i := by rw [r.length]; exact h
theorem XI.list (h : XE z ta g m fun m1 d => dLst d (CL m1)) : XI z (iList K ta) g m CL := fun O σ H R Q k => h O σ H R _ fun m1 d v H1 ⟨ds, e, c⟩ R1 l1 q1 => by
  subst e
  cases q1 with
  | lst ha r =>
    obtain ⟨na, ha'⟩ := hid_some ha
    refine ⟨_, rfl, ⟨_, SqL.of ha'⟩, k m1 ds _ H1 c R1 l1 fun O' i H' lz hd => ?_⟩
    have ha2 := (hid_some (lz.le.lst ha)).2
    refine ⟨fun d hi => ?_, fun hi => ⟨_, SqL.of ha2, r.none hi⟩⟩
    obtain ⟨v, hv, rv⟩ := r.get hi
    refine ⟨⟨_, v, SqL.of ha2, hv⟩, fun x H'' ⟨e1, e2⟩ => ?_⟩
    subst e1
    have := e2 _ (SqL.of ha2)
    rw [hv] at this; cases this
    exact ⟨Le.refl _, rv.mono lz.le⟩
theorem XI.tup (h : XE z ta g m fun m1 d => dTup d (CL m1)) : XI z (iTup K ta) g m CL := fun O σ H R Q k => h O σ H R _ fun m1 d v H1 ⟨ds, e, c⟩ R1 l1 q1 => by
  subst e
  cases q1 with
  | tup ha r =>
    obtain ⟨na, ha'⟩ := hid_some ha
    refine ⟨_, rfl, ⟨_, SqT.of ha'⟩, k m1 ds _ H1 c R1 l1 fun O' i H' lz hd => ?_⟩
    have ha2 := (hid_some (lz.le.tup ha)).2
    refine ⟨fun d hi => ?_, fun hi => ⟨_, SqT.of ha2, r.none hi⟩⟩
    obtain ⟨v, hv, rv⟩ := r.get hi
    refine ⟨⟨_, v, SqT.of ha2, hv⟩, fun x H'' ⟨e1, e2⟩ => ?_⟩
    subst e1
    have := e2 _ (SqT.of ha2)
    rw [hv] at this; cases this
    exact ⟨Le.refl _, rv.mono lz.le⟩
def rngD (lo : Int) (n : Nat) : List Dat := (List.range n).map fun i => .int (lo + (i : Nat))
theorem rng_ok {O : List Addr} {lo : Int} {n : Nat} {H1 : Hp} : WalkOk O (Itr lo n) (rngD lo n) H1 := fun O' i H' lz hd => by
  have hl : (rngD lo n).length = n := by simp [rngD]
  refine ⟨fun d hi => ?_, fun hi => by rw [hl] at hi; exact hi⟩
  have hlt : i < n := by rw [← hl]; exact (List.getElem?_eq_some_iff.mp hi).1
  have e : (rngD lo n)[i]? = some (.int (lo + (i : Nat))) := by simp [rngD, hlt]
  rw [e] at hi; cases hi
  refine ⟨hlt, fun x H'' ⟨e1, e2⟩ => ?_⟩
  subst e1 e2
  exact ⟨Le.refl _, .int _⟩
theorem XI.rng1 (h : XA z tr g m fun m1 es => dRg1 es fun j => CL m1 (rngD 0 j.toNat)) : XI z (iRng1 tr) g m CL := fun O σ H R Q k => h O σ H R _ fun m1 es vs H1 ⟨j, e, h1, h2, c⟩ R1 l1 q1 => by
  subst e
  cases q1 with
  | cons r t => cases r; cases t; exact ⟨j, rfl, h1, h2, k m1 _ _ H1 c R1 l1 rng_ok⟩
theorem XI.rng2 (h : XA z tr g m fun m1 es => dRg2 es fun i j => CL m1 (rngD i (j - i).toNat)) : XI z (iRng2 tr) g m CL := fun O σ H R Q k => h O σ H R _ fun m1 es vs H1 ⟨i, j, e, h1, c⟩ R1 l1 q1 => by
  subst e
  cases q1 with
  | cons r t => cases r; cases t with
    | cons r t => cases r; cases t; exact ⟨i, j, rfl, h1, k m1 _ _ H1 c R1 l1 rng_ok⟩
def rngC (lo c : Int) (n : Nat) : List Dat := (List.range n).map fun i => .int (lo + (i : Nat) * c)
theorem rngC_ok {O : List Addr} {lo c : Int} {n : Nat} {H1 : Hp} : WalkOk O (Itc lo c n) (rngC lo c n) H1 := fun O' i H' lz hd => by
  have hl : (rngC lo c n).length = n := by simp [rngC]
  refine ⟨fun d hi => ?_, fun hi => by rw [hl] at hi; exact hi⟩
  have hlt : i < n := by rw [← hl]; exact (List.getElem?_eq_some_iff.mp hi).1
  have e : (rngC lo c n)[i]? = some (.int (lo + (i : Nat) * c)) := by simp [rngC, hlt]
  rw [e] at hi; cases hi
  refine ⟨hlt, fun x H'' ⟨e1, e2⟩ => ?_⟩
  subst e1 e2
  exact ⟨Le.refl _, .int _⟩
theorem XI.rng3 (h : XA z tr g m fun m1 es => dRg3 es fun i c n => CL m1 (rngC i c n)) : XI z (iRng3 tr) g m CL := fun O σ H R Q k => h O σ H R _ fun m1 es vs H1 ⟨i, j, c', n, e, h1, c⟩ R1 l1 q1 => by
  subst e
  cases q1 with
  | cons r t => cases r; cases t with
    | cons r t => cases r; cases t with
      | cons r t => cases r; cases t; exact ⟨i, j, c', n, rfl, h1, k m1 _ _ H1 c R1 l1 rngC_ok⟩
def enumD (ds : List Dat) : List Dat := (List.range ds.length).zipWith (fun i d => .tup [.int (i : Nat), d]) ds
theorem enumD_at {ds : List Dat} {i : Nat} : (enumD ds)[i]? = (ds[i]?).map fun d => .tup [.int (i : Nat), d] := by
  unfold enumD
  rw [List.getElem?_zipWith]
  by_cases h : i < ds.length
  · rw [List.getElem?_range h, List.getElem?_eq_getElem h]; rfl
  · rw [List.getElem?_eq_none (by rw [List.length_range]; omega), List.getElem?_eq_none (by omega)]; rfl
theorem enumD_len {ds : List Dat} : (enumD ds).length = ds.length := by simp [enumD]
theorem rp_tup_new {O' : List Addr} {H' : Hp} {T : Addr} {vs : List V} {ds : List Dat} (hd : ∀ p ∈ O', ∃ o, H' p = some o) (n : H' T = none) (r : RpL (hid O' H') vs ds) : Le H' (upd H' T (.tup vs)) ∧ Rp (hid O' (upd H' T (.tup vs))) (.ref T) (.tup ds) := by
  have l : Le H' (upd H' T (.tup vs)) := .new n
  have nT : T ∉ O' := fun q => by obtain ⟨o, ho⟩ := hd T q; rw [n] at ho; cases ho
  exact ⟨l, .tup (by rw [hid_out nT]; exact upd_same) (r.mono l.hid)⟩
theorem XI.enum (h : XA z tr g m fun m1 es => dEnum es fun ds => CL m1 (enumD ds)) : XI z (iEnum K tr) g m CL := fun O σ H R Q k => h O σ H R _ fun m1 es vs H1 ⟨ds, e, c⟩ R1 l1 q1 => by
  subst e
  cases q1 with
  | cons r t =>
    cases t
    cases r with
    | lst ha r =>
      refine ⟨_, _, rfl, SqL.of (hid_some ha).2, k m1 _ _ H1 c R1 l1 fun O' i H' lz hd => ?_⟩
      have ha2 := (hid_some (lz.le.lst ha)).2
      rw [enumD_len]
      refine ⟨fun d hi => ?_, fun hi => ⟨_, SqL.of ha2, r.none hi⟩⟩
      rw [enumD_at] at hi
      cases e : ds[i]? with
      | none => rw [e] at hi; cases hi
      | some d' =>
        rw [e] at hi; cases hi
        obtain ⟨v, hv, rv⟩ := r.get e
        refine ⟨⟨_, v, SqL.of ha2, hv⟩, fun x H'' ⟨T, y, e1, n, e2, hy⟩ => ?_⟩
        subst e1 e2
        have := hy _ (SqL.of ha2)
        rw [hv] at this; cases this
        exact rp_tup_new hd n (.cons (.int _) (.cons (rv.mono lz.le) .nil))
def zipD (ds es : List Dat) : List Dat := ds.zipWith (fun d e => .tup [d, e]) es
theorem zipD_at {ds es : List Dat} {i : Nat} {d : Dat} (h : (zipD ds es)[i]? = some d) : ∃ x y, ds[i]? = some x ∧ es[i]? = some y ∧ d = .tup [x, y] := by
  unfold zipD at h
  rw [List.getElem?_zipWith] at h
  cases e1 : ds[i]? with
  | none => rw [e1] at h; cases h
  | some x =>
    cases e2 : es[i]? with
    | none => rw [e1, e2] at h; cases h
    | some y => rw [e1, e2] at h; cases h; exact ⟨x, y, rfl, rfl, rfl⟩
theorem XI.zip (h : XA z tr g m fun m1 fs => dZip fs fun ds es => CL m1 (zipD ds es)) : XI z (iZip K tr) g m CL := fun O σ H R Q k => h O σ H R _ fun m1 fs vs H1 ⟨ds, es, e, c⟩ R1 l1 q1 => by
  subst e
  cases q1 with
  | cons r t =>
    cases t with
    | cons r' t =>
      cases t
      cases r with
      | lst ha r =>
        cases r' with
        | lst hb r' =>
          refine ⟨_, _, _, _, rfl, SqL.of (hid_some ha).2, SqL.of (hid_some hb).2, k m1 _ _ H1 c R1 l1 fun O' i H' lz hd => ?_⟩
          have ha2 := (hid_some (lz.le.lst ha)).2
          have hb2 := (hid_some (lz.le.lst hb)).2
          refine ⟨fun d hi => ?_, fun hi => ⟨_, _, SqL.of ha2, SqL.of hb2, ?_⟩⟩
          · obtain ⟨x, y, hx, hy, rfl⟩ := zipD_at hi
            obtain ⟨v, hv, rv⟩ := r.get hx
            obtain ⟨u, hu, ru⟩ := r'.get hy
            refine ⟨⟨_, _, v, u, SqL.of ha2, SqL.of hb2, hv, hu⟩, fun x H'' ⟨T, y1, y2, e1, n, e2, h1, h2⟩ => ?_⟩
            subst e1 e2
            have e1 := h1 _ (SqL.of ha2)
            rw [hv] at e1; cases e1
            have e2 := h2 _ (SqL.of hb2)
            rw [hu] at e2; cases e2
            exact rp_tup_new hd n (.cons (rv.mono lz.le) (.cons (ru.mono lz.le) .nil))
          · rw [r.length, r'.length]
            simp only [zipD, List.length_zipWith] at hi
            omega
theorem XI.zipS (h : XA z tr g m fun m1 fs => dZipS fs fun ds es => CL m1 (zipD ds es)) : XI z (iZipS K tr) g m CL := fun O σ H R Q k => h O σ H R _ fun m1 fs vs H1 ⟨ds, es, e, hl, c⟩ R1 l1 q1 => by
  subst e
  cases q1 with
  | cons r t =>
    cases t with
    | cons r' t =>
      cases t
      cases r with
      | lst ha r =>
        cases r' with
        | lst hb r' =>
          refine ⟨_, _, _, _, rfl, SqL.of (hid_some ha).2, SqL.of (hid_some hb).2, k m1 _ _ H1 c R1 l1 fun O' i H' lz hd => ?_⟩
          have ha2 := (hid_some (lz.le.lst ha)).2
          have hb2 := (hid_some (lz.le.lst hb)).2
          refine ⟨fun d hi => ?_, fun hi => ⟨_, _, SqL.of ha2, SqL.of hb2, ?_⟩⟩
          · obtain ⟨x, y, hx, hy, rfl⟩ := zipD_at hi
            obtain ⟨v, hv, rv⟩ := r.get hx
            obtain ⟨u, hu, ru⟩ := r'.get hy
            refine ⟨⟨_, _, v, u, SqL.of ha2, SqL.of hb2, hv, hu⟩, fun x H'' ⟨T, y1, y2, e1, n, e2, h1, h2⟩ => ?_⟩
            subst e1 e2
            have e1 := h1 _ (SqL.of ha2)
            rw [hv] at e1; cases e1
            have e2 := h2 _ (SqL.of hb2)
            rw [hu] at e2; cases e2
            exact rp_tup_new hd n (.cons (rv.mono lz.le) (.cons (ru.mono lz.le) .nil))
          · rw [r.length, r'.length]
            simp only [zipD, List.length_zipWith] at hi
            omega
theorem XI.str (h : XE z ta g m fun m1 d => dStr d fun x => CL m1 (x.cps.toList.map fun c => .str ⟨#[c]⟩)) : XI z (iStr ta) g m CL := fun O σ H R Q k => h O σ H R _ fun m1 d v H1 ⟨x, e, c⟩ R1 l1 q1 => by
  subst e; cases q1
  refine ⟨_, rfl, k m1 _ _ H1 c R1 l1 fun O' i H' lz hd => ?_⟩
  refine ⟨fun d hi => ?_, fun hi => ?_⟩
  · rw [List.getElem?_map] at hi
    cases e : x.cps.toList[i]? with
    | none => rw [e] at hi; cases hi
    | some c =>
      rw [e] at hi; cases hi
      have hlt : i < x.cps.size := by
        have := (List.getElem?_eq_some_iff.mp e).1
        simpa using this
      refine ⟨hlt, fun y H'' ⟨e1, c', hc, e2⟩ => ?_⟩
      subst e1 e2
      have : c' = c := by
        have e3 : x.cps[i]? = some c := by rw [← Array.getElem?_toList]; exact e
        rw [hc] at e3; exact Option.some.inj e3
      subst this
      exact ⟨Le.refl _, .str _⟩
  · show x.cps.size ≤ i
    simpa using hi
/-- for -/
theorem XS.for (h : XI z wi g m fun m1 ds => ∃ I : Nat → List Sl → Nat → Prop, I 0 g m1 ∧ (∀ i d g2 m2, ds[i]? = some d → I i g2 m2 → XG z (List.range 64) gt d g2 fun g3 => XS z ts g3 m2 { E with nx := I (i + 1), ct := I (i + 1), bk := E.nx }) ∧ ∀ g2 m2, I ds.length g2 m2 → E.nx g2 m2) : XS z (tFor wi gt ts) g m E := fun O σ H R D k =>
  h O σ H R _ fun m1 ds J H1 ⟨I, h0, hs, hd⟩ R1 l1 w => by
    have k1 := k.mono (l1.z R.po)
    refine ⟨fun i n σ' H' => n = ds.length - i ∧ i ≤ ds.length ∧ ∃ O' g' m', I i g' m' ∧ Real z O' g' m' σ' H' ∧ Lz O H1 O' H', ⟨_, rfl, Nat.zero_le _, O, g, m1, h0, R1, Lz.refl _ _⟩, ?_⟩
    rintro i n σ' H' ⟨rfl, hi, O', g', m', hI, R', lz⟩
    obtain ⟨w1, w2⟩ := w O' i H' lz R'.dom
    by_cases hlt : i < ds.length
    · obtain ⟨go, yl⟩ := w1 _ (List.getElem?_eq_getElem hlt)
      refine .inr ⟨go, fun σ2 H2 => ∃ O2 g2 m2, I (i + 1) g2 m2 ∧ Real z O2 g2 m2 σ2 H2 ∧ Lz O H1 O2 H2, fun σ2 H2 q => ⟨_, by omega, rfl, hlt, q⟩, fun x H'' y => ?_⟩
      obtain ⟨l2, rx⟩ := yl x H'' y
      have lz2 : Lz O' H' O' H'' := (l2.x (P := [])).z (by simp)
      refine hs i _ g' m' (List.getElem?_eq_getElem hlt) hI O' m' σ' H'' x (R'.up l2) rx _ fun g3 σ3 c3 R3 _ => ?_
      refine c3 O' σ3 H'' R3 _ ⟨fun O4 g4 m4 σ4 H4 c4 R4 l4 => ⟨O4, g4, m4, c4, R4, (lz.trans lz2).trans l4⟩, k.rt, k.rn, fun O4 g4 m4 σ4 H4 c4 R4 l4 => k1.nx _ _ _ _ _ c4 R4 ((lz.trans lz2).trans l4), fun O4 g4 m4 σ4 H4 c4 R4 l4 => ⟨O4, g4, m4, c4, R4, (lz.trans lz2).trans l4⟩⟩
    · have e : i = ds.length := by omega
      subst e
      exact .inl ⟨w2 (Nat.le_refl _), k1.nx _ _ _ _ _ (hd _ _ hI) R' lz⟩
/-- while -/
theorem XS.whi (I : List Sl → Nat → Prop) (μ : List Sl → Nat) (h0 : I g m) (hs : ∀ g2 m2, I g2 m2 → XT z tt g2 m2 fun m3 b => if b = true then XS z ts g2 m3 { E with nx := fun g4 m4 => I g4 m4 ∧ μ g4 < μ g2, ct := fun g4 m4 => I g4 m4 ∧ μ g4 < μ g2, bk := E.nx } else E.nx g2 m3) : XS z (tWhile tt ts) g m E := fun O σ H R D k => by
  refine ⟨fun n σ' H' => ∃ O' g' m', n = μ g' ∧ I g' m' ∧ Real z O' g' m' σ' H' ∧ Lz O H O' H', ⟨_, O, g, m, rfl, h0, R, Lz.refl _ _⟩, ?_⟩
  rintro n σ' H' ⟨O', g', m', rfl, hI, R', lz⟩
  refine hs g' m' hI O' σ' H' R' _ fun m2 b H2 c R2 l2 => ?_
  have lz2 := lz.trans (l2.z R'.po)
  cases b with
  | true =>
    refine ⟨fun σ3 H3 => ∃ O3 g3 m3, (I g3 m3 ∧ μ g3 < μ g') ∧ Real z O3 g3 m3 σ3 H3 ∧ Lz O H O3 H3, fun σ3 H3 ⟨O3, g3, m3, ⟨q1, q2⟩, q3, q4⟩ => ⟨_, q2, O3, g3, m3, rfl, q1, q3, q4⟩, ?_⟩
    exact c O' σ' H2 R2 _ ⟨fun O4 g4 m4 σ4 H4 c4 R4 l4 => ⟨O4, g4, m4, c4, R4, lz2.trans l4⟩, k.rt, k.rn, fun O4 g4 m4 σ4 H4 c4 R4 l4 => k.nx _ _ _ _ _ c4 R4 (lz2.trans l4), fun O4 g4 m4 σ4 H4 c4 R4 l4 => ⟨O4, g4, m4, c4, R4, lz2.trans l4⟩⟩
  | false => exact k.nx _ _ _ _ _ c R2 lz2
/-! comprehensions -/
def wipeG (g : List Sl) : List Nat → List Sl
  | [] => g
  | v :: vs => (wipeG g vs).set v .un
theorem Real.wipe {O : List Addr} {σ : L2.St} {H : Hp} (R : Real z O g m σ H) : ∀ vs : List Nat, Real z O (wipeG g vs) m (L2.wipe σ vs) H
  | [] => R
  | v :: vs => (Real.wipe R vs).un v none
theorem wipe_wipe (σ : L2.St) (vs : List Nat) : wipe (wipe σ vs) vs = wipe σ vs := by
  have key : ∀ {ws : List Nat} {τ : L2.St}, (∀ i ∈ ws, ∀ x, τ[i]? = some x → x = none) → wipe τ ws = τ := fun {ws} => by
    induction ws with
    | nil => intro τ _; rfl
    | cons w ws ih =>
      intro τ h
      show (wipe τ ws).set w none = τ
      rw [ih fun i hi => h i (List.mem_cons_of_mem _ hi)]
      refine List.ext_getElem? fun n => ?_
      by_cases e : w = n
      · subst e
        by_cases l : w < τ.length
        · rw [List.getElem?_set_self l, List.getElem?_eq_getElem l]
          rw [h w (List.mem_cons_self ..) τ[w] (List.getElem?_eq_getElem l)]
        · rw [List.getElem?_eq_none (by rw [List.length_set]; omega), List.getElem?_eq_none (by omega)]
      · rw [List.getElem?_set_ne e]
  refine key fun i hi x hx => ?_
  cases x with
  | none => rfl
  | some y => exact absurd hi (wipe_some hx).2
/-- a comprehension changes nothing but its own new list -/
def WalkC (P O : List Addr) (J : It) (ds : List Dat) (H1 : Hp) : Prop := ∀ (D : Addr) (i : Nat) (H' : Hp), H1 D = none → D ∉ O → LeX P H1 (hid [D] H') → (∀ p ∈ D :: O, ∃ o, H' p = some o) →
  (∀ d, ds[i]? = some d → J.go i H' ∧ ∀ x H'', J.yld i H' x H'' → Le H' H'' ∧ Rp (hid (D :: O) H'') x d) ∧ (ds.length ≤ i → J.stop i H')
def XIc (z : Cz) (wi : TI) (g : List Sl) (m : Nat) (C : Nat → List Dat → Prop) : Prop := ∀ (O : List Addr) (σ : L2.St) (H : Hp), Real z O g m σ H → ∀ R : It → Hp → Prop,
  (∀ m' ds J H1, C m' ds → Real z O g m' σ H1 → LeX z.P H H1 → WalkC z.P O J ds H1 → R J H1) → wi σ H R
theorem XI.c (h : XI z wi g m CL) : XIc z wi g m CL := fun O σ H R Q k => h O σ H R Q fun m' ds J H1 c R1 l1 w => k m' ds J H1 c R1 l1 fun D i H' hD nO le' dom' => w (D :: O) i H' ⟨by
  have := le'.hid R1.po
  rw [hid_hid1] at this
  exact this, fun p hp => by
  rcases List.mem_cons.mp hp with e | hp
  · subst e; exact .inr hD
  · exact .inl hp⟩ dom'
theorem XN.lcC {vs : List Nat} (h : XIc z wi g m fun m1 ds => ∃ I : Nat → List Dat → Nat → Prop, I 0 [] m1 ∧ (∀ i d acc m2, ds[i]? = some d → I i acc m2 → XG z vs gt d (wipeG g vs) fun g3 => XT z tt g3 m2 fun m3 b => if b = true then XE z te g3 m3 fun m4 y => acc.length ≤ 1000 ∧ I (i + 1) (acc ++ [y]) m4 else I (i + 1) acc m3) ∧ ∀ acc m2, I ds.length acc m2 → CL m2 acc) : XN z (tLc wi gt tt te vs) g m CL := fun O σ H R Q k =>
  h O σ H R _ fun m1 ds J H1 ⟨I, h0, hs, hd⟩ R1 l1 w => fun D hD => by
    have nO : D ∉ O := fun q => by obtain ⟨o, ho⟩ := R1.dom D q; rw [hD] at ho; cases ho
    have nP : D ∉ z.P := fun q => nO (R1.po D q)
    have nB : z.B D = none := by
      cases q : z.B D with
      | none => rfl
      | some o => obtain ⟨o', ho⟩ := (R1.le D o nP q).get; rw [hD] at ho; cases ho
    have nH : H D = none := by
      cases q : H D with
      | none => rfl
      | some o => obtain ⟨o', ho⟩ := (l1 D o nP q).get; rw [hD] at ho; cases ho
    -- the state: all but D, as it was and more
    refine ⟨fun i n H' => n = ds.length - i ∧ i ≤ ds.length ∧ ∃ acc ws m', I i acc m' ∧ H' D = some (.lst ws) ∧ RpL (hid O (hid [D] H')) ws acc ∧ Real z O g m' σ (hid [D] H') ∧ LeX z.P H1 (hid [D] H'), ⟨_, rfl, Nat.zero_le _, [], [], m1, h0, upd_same, .nil, ?_, ?_⟩, ?_⟩
    · have e : hid [D] (upd H1 D (.lst [])) = H1 := (Fresh.of R1 hD .nil).2
      rw [e]; exact R1
    · have e : hid [D] (upd H1 D (.lst [])) = H1 := (Fresh.of R1 hD .nil).2
      rw [e]; exact LeX.refl _ _
    rintro i n H' ⟨rfl, hi, acc, ws, m', hI, hD', ra, R', le'⟩
    have dom' : ∀ p ∈ D :: O, ∃ o, H' p = some o := fun p hp => by
      rcases List.mem_cons.mp hp with e | hp
      · subst e; exact ⟨_, hD'⟩
      · obtain ⟨o, ho⟩ := R'.dom p hp; exact ⟨o, (hid_some ho).2⟩
    -- the body's state, D hidden
    have RD : Real z (D :: O) (wipeG g vs) m' (wipe σ vs) H' := by
      have a : Real z (D :: O) g m' σ H' := by
        refine ⟨dom', fun p hp => List.mem_cons_of_mem _ (R'.sub p hp), fun p hp => ?_, R'.pg, fun b hb => ?_, R'.le.trans (hid1_le H' D).x, R'.len, fun j x hj => ?_, R'.inj⟩
        · rcases List.mem_cons.mp hp with e | hp
          · subst e; exact .inr nB
          · exact R'.new p hp
        · obtain ⟨d, c, k, h, q⟩ := R'.pur b hb
          exact ⟨d, c, k, (hid_some h).2, q⟩
        · have q := R'.sl j x hj
          cases x with
          | un => trivial
          | dt d => obtain ⟨v, e, q⟩ := q; exact ⟨v, e, by rw [← hid_hid1]; exact q⟩
          | ow es =>
            obtain ⟨p, us, e, po, pg, hp, q⟩ := q
            exact ⟨p, us, e, List.mem_cons_of_mem _ po, pg, (hid_some hp).2, by rw [← hid_hid1]; exact q⟩
          | pu => exact q
          | raw v => exact q
      exact a.wipe vs
    -- back: the def's state once the body has run
    have back : ∀ {m2 : Nat} {σ2 : L2.St} {g2 : List Sl} {H2 : Hp}, LeX z.P H' H2 → Real z (D :: O) g2 m2 σ2 H2 → Real z O g m2 σ (hid [D] H2) ∧ LeX z.P H1 (hid [D] H2) ∧ RpL (hid O (hid [D] H2)) ws acc := fun {m2 σ2 g2 H2} l2 R2 => by
      have l3 : LeX z.P (hid [D] H') (hid [D] H2) := fun b o n hb => by
        obtain ⟨nb, hb⟩ := hid_some hb
        rw [hid_out nb]
        exact l2 b o n hb
      refine ⟨R'.lift l3 (fun b hb => ?_), le'.trans l3, ra.mono (l3.hid R1.po)⟩
      obtain ⟨d, c, k, h, q⟩ := R2.pur b hb
      exact ⟨d, c, k, by rw [hid_out (by simp; intro y; subst y; exact nP hb)]; exact h, q⟩
    obtain ⟨w1, w2⟩ := w D i H' hD nO le' dom'
    by_cases hlt : i < ds.length
    · obtain ⟨go, yl⟩ := w1 _ (List.getElem?_eq_getElem hlt)
      refine .inr ⟨go, fun H2 => ∃ acc ws m', I (i + 1) acc m' ∧ H2 D = some (.lst ws) ∧ RpL (hid O (hid [D] H2)) ws acc ∧ Real z O g m' σ (hid [D] H2) ∧ LeX z.P H1 (hid [D] H2), fun H2 q => ⟨_, by omega, rfl, hlt, q⟩, fun x H'' y => ?_⟩
      obtain ⟨l2, rx⟩ := yl x H'' y
      have RD2 := RD.up l2
      refine hs i _ acc m' (List.getElem?_eq_getElem hlt) hI (D :: O) m' (wipe σ vs) H'' x RD2 rx _ fun g3 σ3 c3 R3 w3 => ⟨by rw [w3, wipe_wipe], ?_⟩
      refine c3 (D :: O) σ3 H'' R3 _ fun m3 b H3 c R4 l4 => ?_
      have hD3 : H3 D = some (.lst ws) := l4.lst nP (l2.lst hD')
      have lx3 : LeX z.P H' H3 := l2.x.trans l4
      cases b with
      | false =>
        obtain ⟨r1, r2, r3⟩ := back lx3 R4
        exact ⟨acc, ws, m3, c, hD3, r3, r1, r2⟩
      | true =>
        refine c (D :: O) σ3 H3 R4 _ fun m4 yd v H4 ⟨hl, c4⟩ R5 l5 q5 => ?_
        have hD4 := l5.lst nP hD3
        obtain ⟨r1, r2, r3⟩ := back (lx3.trans l5) R5
        have e : hid [D] (upd H4 D (.lst (ws ++ [v]))) = hid [D] H4 := hid_upd (by simp)
        refine ⟨ws, hD4, small1000 (by rw [r3.length]; exact hl), acc ++ [yd], ws ++ [v], m4, c4, upd_same, ?_, by rw [e]; exact r1, by rw [e]; exact r2⟩
        rw [e]
        exact r3.append (.cons (by rw [hid_hid1]; exact q5) .nil)
    · have e : i = ds.length := by omega
      subst e
      refine .inl ⟨w2 (Nat.le_refl _), k m' acc D H' (hd _ _ hI) R' (l1.trans le') ⟨nO, nB, nH, ws, hD', ra⟩⟩
theorem XN.lc {vs : List Nat} (h : XI z wi g m fun m1 ds => ∃ I : Nat → List Dat → Nat → Prop, I 0 [] m1 ∧ (∀ i d acc m2, ds[i]? = some d → I i acc m2 → XG z vs gt d (wipeG g vs) fun g3 => XT z tt g3 m2 fun m3 b => if b = true then XE z te g3 m3 fun m4 y => acc.length ≤ 1000 ∧ I (i + 1) (acc ++ [y]) m4 else I (i + 1) acc m3) ∧ ∀ acc m2, I ds.length acc m2 → CL m2 acc) : XN z (tLc wi gt tt te vs) g m CL := XN.lcC h.c
end
end My

namespace My
open PySem PySem.Spec PyProof.Rows L2
open C8 (Cal pe_c pe_gc)
/-! ### defs, told of data -/
/-- an error that leaves: its class, its fields -/
structure Err where
  C : Addr
  fs : List (Str × Dat)
def ErrAt (O : List Addr) (H : Hp) (e : Err) (cls : Value) (d : Option Addr) : Prop := cls = .ref e.C ∧ ((e.fs = [] ∧ d = none) ∨ ∃ a fvs, d = some a ∧ a ∉ O ∧ H a = some (.xd fvs) ∧ RpF (hid O H) fvs e.fs)
abbrev WpD := List Dat → (Dat → Prop) → Prop
abbrev WpN := List Dat → (List Dat → Prop) → Prop
abbrev WpX := List Dat → (Dat → Prop) → (Err → Prop) → Prop
abbrev WpP := Nat → List Dat → (Nat → Dat → Prop) → Prop
def Dom (G : List Addr) (H : Hp) : Prop := ∀ p ∈ G, ∃ o, H p = some o
def spD (W : WpD) : Sp := fun vs H Q _ => ∃ (G : List Addr) (ds : List Dat) (C : Dat → Prop), Dom G H ∧ RpL (hid G H) vs ds ∧ W ds C ∧ ∀ d v H', C d → Le H H' → Rp (hid G H') v d → Q v H'
/-- the answer is a list made anew -/
def spN (W : WpN) : Sp := fun vs H Q _ => ∃ (G : List Addr) (ds : List Dat) (C : List Dat → Prop), Dom G H ∧ RpL (hid G H) vs ds ∧ W ds C ∧
  ∀ es p H', C es → Le H (hid [p] H') → H p = none → (∃ vs, H' p = some (.lst vs) ∧ RpL (hid G (hid [p] H')) vs es) → Q (.ref p) H'
/-- it may raise -/
def spX (W : WpX) : Sp := fun vs H Q E => ∃ (G : List Addr) (ds : List Dat) (C : Dat → Prop) (X : Err → Prop), Dom G H ∧ RpL (hid G H) vs ds ∧ W ds C X ∧ (∀ d v H', C d → Le H H' → Rp (hid G H') v d → Q v H') ∧
  ∀ e cls d H', X e → Le H H' → ErrAt G H' e cls d → E cls d H'
/-- the first argument is the purse -/
def spP (W : WpP) : Sp := fun vs H Q _ => ∃ (a : Addr) (us : List V) (G : List Addr) (m : Nat) (ds : List Dat) (C : Nat → Dat → Prop), vs = .ref a :: us ∧ a ∈ G ∧ Pur H a m ∧ Dom G H ∧ RpL (hid G H) us ds ∧ W m ds C ∧
  ∀ m' d v H', C m' d → LeX [a] H H' → Pur H' a m' → Rp (hid G H') v d → Q v H'
section
variable {z : Cz} {g : List Sl} {m : Nat} {C : Nat → Dat → Prop} {CL : Nat → List Dat → Prop} {tr : TA} {E : XK} {Es : L2.St → XK}
theorem XE.call {W : WpD} (h : XA z tr g m fun m1 ds => W ds (C m1)) : XE z (tCall (spD W) [] E tr) g m C := fun O σ H R Q k => h O σ H R _ fun m1 ds vs H1 c R1 l1 q1 => by
  show spD W (vs ++ []) H1 Q E
  rw [List.append_nil]
  exact ⟨O, ds, C m1, R1.dom, q1, c, fun d v H' c' l' q' => k m1 d v H' c' (R1.up l') (l1.trans l'.x) q'⟩
theorem XN.call {W : WpN} (h : XA z tr g m fun m1 ds => W ds (CL m1)) : XN z (tCall (spN W) [] E tr) g m CL := fun O σ H R Q k => h O σ H R _ fun m1 ds vs H1 c R1 l1 q1 => by
  show spN W (vs ++ []) H1 Q E
  rw [List.append_nil]
  refine ⟨O, ds, CL m1, R1.dom, q1, c, fun es p H' c' l' hp f => ?_⟩
  have no : p ∉ O := fun q => by obtain ⟨o, ho⟩ := R1.dom p q; rw [hp] at ho; cases ho
  have nP : p ∉ z.P := fun q => no (R1.po p q)
  have z0 : ∀ {B : Hp}, LeX z.P B H1 → B p = none := fun {B} l => by
    cases q : B p with
    | none => rfl
    | some o => obtain ⟨o', ho⟩ := (l p o nP q).get; rw [hp] at ho; cases ho
  exact k m1 es p H' c' (R1.up l') (l1.trans l'.x) ⟨no, z0 R1.le, z0 l1, f⟩
theorem XE.callP {W : WpP} {i : Nat} (hg : g[i]? = some .pu) (h : XA z tr g m fun m1 ds => W m1 ds C) : XE z (tCall (spP W) [] E (tCons (tVar i) tr)) g m C := fun O σ H R Q k => by
  obtain ⟨a, eP, e⟩ := R.sl i _ hg
  refine ⟨_, e, h O σ H R _ fun m1 ds vs H1 c R1 l1 q1 => ?_⟩
  show spP W (V.ref a :: vs ++ []) H1 Q E
  rw [List.append_nil]
  have ha : a ∈ z.P := by rw [eP]; simp
  refine ⟨a, vs, O, m1, ds, C, rfl, R1.po a ha, R1.pur a ha, R1.dom, q1, c, fun m' d v H' c' l' p' q' => ?_⟩
  rw [← eP] at l'
  exact k m' d v H' c' (R1.lift l' (fun b hb => by rw [eP] at hb; rw [List.mem_singleton.mp hb]; exact p')) (l1.trans l') q'
/-- a call that may raise, the wish Es at the state -/
theorem XE.callX {W : WpX} {X : Nat → Err → Prop} (hX : ∀ O σ m' H' e cls d, X m' e → Real z O g m' σ H' → ErrAt O H' e cls d → Es σ cls d H') (h : XA z tr g m fun m1 ds => W ds (C m1) (X m1)) : XE z (tCallS (spX W) Es tr) g m C := fun O σ H R Q k => h O σ H R _ fun m1 ds vs H1 c R1 l1 q1 =>
  ⟨O, ds, C m1, X m1, R1.dom, q1, c, fun d v H' c' l' q' => k m1 d v H' c' (R1.up l') (l1.trans l'.x) q', fun e cls d H' x l' q' => hX O σ m1 H' e cls d x (R1.up l') q'⟩
/-- where it doesn't raise -/
theorem XE.callX0 {W : WpX} (h : XA z tr g m fun m1 ds => W ds (C m1) fun _ => False) : XE z (tCall (spX W) [] E tr) g m C := fun O σ H R Q k => h O σ H R _ fun m1 ds vs H1 c R1 l1 q1 => by
  show spX W (vs ++ []) H1 Q E
  rw [List.append_nil]
  exact ⟨O, ds, C m1, fun _ => False, R1.dom, q1, c, fun d v H' c' l' q' => k m1 d v H' c' (R1.up l') (l1.trans l'.x) q', fun e cls d H' x l' q' => x.elim⟩
end
/-! a def's start -/
def argsG (n : Nat) (ds : List Dat) : List Sl := ds.map Sl.dt ++ List.replicate (n - ds.length) .un
theorem real_start {z : Cz} {H : Hp} {N : List Str} {vs : List V} {ds : List Dat} {m : Nat} (hB : z.B = H) (hd : Dom z.G H) (hp : ∀ p ∈ z.P, p ∈ z.G) (pur : ∀ p ∈ z.P, Pur H p m) (r : RpL (hid z.G H) vs ds) : Real z z.G (argsG N.length ds) m (L2.start N vs) H where
  dom := hd
  sub := fun _ h => h
  new := fun _ h => .inl h
  pg := hp
  pur := pur
  le := by rw [hB]; exact LeX.refl _ _
  len := by simp [L2.start, argsG, r.length]
  sl := fun i x h => by
    unfold argsG at h
    unfold L2.start
    by_cases l : i < ds.length
    · rw [List.getElem?_append_left (by rw [List.length_map]; exact l), List.getElem?_map, List.getElem?_eq_getElem l] at h
      cases h
      obtain ⟨v, hv, rv⟩ := r.get (List.getElem?_eq_getElem l)
      exact ⟨v, by rw [List.getElem?_append_left (by rw [List.length_map, r.length]; exact l), List.getElem?_map, hv]; rfl, rv⟩
    · rw [List.getElem?_append_right (by rw [List.length_map]; omega)] at h
      have := List.mem_of_getElem? h
      rw [(List.mem_replicate.mp this).2]
      trivial
  inj := fun i j p xs ys h => by
    unfold argsG at h
    by_cases l : i < ds.length
    · rw [List.getElem?_append_left (by rw [List.length_map]; exact l), List.getElem?_map, List.getElem?_eq_getElem l] at h
      cases h
    · rw [List.getElem?_append_right (by rw [List.length_map]; omega)] at h
      have := List.mem_of_getElem? h
      exact absurd (List.mem_replicate.mp this).2 (fun z => nomatch z)
theorem start_cons {N : List Str} {a : Addr} {us : List V} (h : 0 < N.length) : L2.start N (.ref a :: us) = some (.ref a) :: L2.start N.tail us := by
  unfold L2.start
  cases N with
  | nil => simp at h
  | cons x N => simp
/-- with the purse ahead -/
theorem Real.purse {z : Cz} {O : List Addr} {g : List Sl} {m : Nat} {σ : L2.St} {H : Hp} (R : Real z O g m σ H) {a : Addr} (e : z.P = [a]) : Real z O (.pu :: g) m (some (.ref a) :: σ) H where
  dom := R.dom
  sub := R.sub
  new := R.new
  pg := R.pg
  pur := R.pur
  le := R.le
  len := congrArg (· + 1) R.len
  sl := fun i x h => by
    cases i with
    | zero => cases (Option.some.inj h : _ = x); exact ⟨a, e, rfl⟩
    | succ i => exact R.sl i x (by simpa using h)
  inj := fun i j p xs ys hi hj si sj => by
    cases i with
    | zero => cases (Option.some.inj hi : _ = Sl.ow xs)
    | succ i =>
      cases j with
      | zero => cases (Option.some.inj hj : _ = Sl.ow ys)
      | succ j => exact congrArg (· + 1) (R.inj i j p xs ys (by simpa using hi) (by simpa using hj) (by simpa using si) (by simpa using sj))
section
variable {P : Program} {w : World} {K : PySem.W.Frag} {mg : Str → Option Value} {base : Heap} {x qual : Str} {st : Stmt} {f : Addr} {fd : FuncData} {N ps : List Str} {k : Nat}
theorem okD {W : WpD} (F : L2.Fun K x qual st f fd) (S : FnScope N ps (defScope st)) (hl : ∀ ds C, W ds C → ds.length = ps.length)
    (hb : ∀ (cdv : Value) (A : Around) (outer : List Env) (s : Shared) (H : Hp) (E : XK), Room k (A.deeper (envOfC qual (defScope st) s.heap.objs.size f cdv)) →
      ∃ t, PSs (cxOf CX0 P w K mg base N qual (defScope st) f cdv A outer s H E).nox (defBody st) t ∧ ∀ (z : Cz) (ds : List Dat) (C : Dat → Prop), W ds C → XS z t (argsG N.length ds) 0 { nx := fun _ _ => C .non, rt := fun _ d => C d, rn := fun _ es => C (.lst es) }) :
    FnOk P w K mg base CX0 (k + 1) f fd ps (spD W) := by
  refine F.ok S (fun vs H Q E h => ?_) (fun cdv A outer s H vs Q E hr h => ?_)
  · obtain ⟨G, ds, C, hd, r, hW, _⟩ := h
    rw [r.length]; exact hl ds C hW
  · obtain ⟨G, ds, C, hd, r, hW, hk⟩ := h
    obtain ⟨t, ht, hx⟩ := hb cdv A outer s H E hr
    refine ⟨t, ht, hx ⟨G, [], H⟩ ds C hW G _ H (real_start rfl hd (by simp) (by simp) r) _ ⟨fun O' g' m' σ' H' c R' l => ?_, fun O' g' m' σ' d v H' c R' q => ?_, fun O' g' m' σ' es p H' c R' n nb f => ?_, fun _ _ _ _ _ c => c.elim, fun _ _ _ _ _ c => c.elim⟩⟩
    · exact hk _ _ H' c (LeX.le R'.le) .non
    · exact hk d v H' c (LeX.le R'.le) (q.mono (hid_sub R'.sub))
    · obtain ⟨vs, hp, q⟩ := f
      have l := hid1_le H' p
      refine hk _ _ H' c ((LeX.le R'.le).trans l) (.lst (by rw [hid_out (fun z => n (R'.sub p z))]; exact hp) ((q.mono (hid_sub R'.sub)).mono l.hid))
theorem okN {W : WpN} (F : L2.Fun K x qual st f fd) (S : FnScope N ps (defScope st)) (hl : ∀ ds C, W ds C → ds.length = ps.length)
    (hb : ∀ (cdv : Value) (A : Around) (outer : List Env) (s : Shared) (H : Hp) (E : XK), Room k (A.deeper (envOfC qual (defScope st) s.heap.objs.size f cdv)) →
      ∃ t, PSs (cxOf CX0 P w K mg base N qual (defScope st) f cdv A outer s H E).nox (defBody st) t ∧ ∀ (z : Cz) (ds : List Dat) (C : List Dat → Prop), W ds C → XS z t (argsG N.length ds) 0 { nx := fun _ _ => False, rt := fun _ _ => False, rn := fun _ es => C es }) :
    FnOk P w K mg base CX0 (k + 1) f fd ps (spN W) := by
  refine F.ok S (fun vs H Q E h => ?_) (fun cdv A outer s H vs Q E hr h => ?_)
  · obtain ⟨G, ds, C, hd, r, hW, _⟩ := h
    rw [r.length]; exact hl ds C hW
  · obtain ⟨G, ds, C, hd, r, hW, hk⟩ := h
    obtain ⟨t, ht, hx⟩ := hb cdv A outer s H E hr
    refine ⟨t, ht, hx ⟨G, [], H⟩ ds C hW G _ H (real_start rfl hd (by simp) (by simp) r) _ ⟨fun _ _ _ _ _ c => c.elim, fun _ _ _ _ _ _ _ c => c.elim, fun O' g' m' σ' es p H' c R' n nb f => ?_, fun _ _ _ _ _ c => c.elim, fun _ _ _ _ _ c => c.elim⟩⟩
    obtain ⟨vs, hp, q⟩ := f
    exact hk es p H' c (LeX.le R'.le) nb ⟨vs, hp, q.mono (hid_sub R'.sub)⟩
theorem okX {W : WpX} (F : L2.Fun K x qual st f fd) (S : FnScope N ps (defScope st)) (hl : ∀ ds C X, W ds C X → ds.length = ps.length)
    (hb : ∀ (cdv : Value) (A : Around) (outer : List Env) (s : Shared) (H : Hp) (E : XK), Room k (A.deeper (envOfC qual (defScope st) s.heap.objs.size f cdv)) →
      ∃ t, PSs (cxOf (L2.CX P w) P w K mg base N qual (defScope st) f cdv A outer s H E) (defBody st) t ∧ ∀ (z : Cz) (ds : List Dat) (C : Dat → Prop) (X : Err → Prop), (∀ O g m σ H' e cls d, X e → Real z O g m σ H' → ErrAt O H' e cls d → E cls d H') → W ds C X →
        XS z t (argsG N.length ds) 0 { nx := fun _ _ => C .non, rt := fun _ d => C d, rn := fun _ es => C (.lst es) }) :
    FnOk P w K mg base (L2.CX P w) (k + 1) f fd ps (spX W) := by
  refine F.okX S (fun vs H Q E h => ?_) (fun cdv A outer s H vs Q E hr h => ?_)
  · obtain ⟨G, ds, C, X, hd, r, hW, _⟩ := h
    rw [r.length]; exact hl ds C X hW
  · obtain ⟨G, ds, C, X, hd, r, hW, hk, hx'⟩ := h
    obtain ⟨t, ht, hx⟩ := hb cdv A outer s H E hr
    refine ⟨t, ht, hx ⟨G, [], H⟩ ds C X (fun O g m σ H' e cls d x R' q => ?_) hW G _ H (real_start rfl hd (by simp) (by simp) r) _ ⟨fun O' g' m' σ' H' c R' l => ?_, fun O' g' m' σ' d v H' c R' q => ?_, fun O' g' m' σ' es p H' c R' n nb f => ?_, fun _ _ _ _ _ c => c.elim, fun _ _ _ _ _ c => c.elim⟩⟩
    · refine hx' e cls d H' x (LeX.le R'.le) ⟨q.1, ?_⟩
      rcases q.2 with q | ⟨a, fvs, e1, n, ha, rf⟩
      · exact .inl q
      · exact .inr ⟨a, fvs, e1, fun z => n (R'.sub a z), ha, rf.mono (hid_sub R'.sub)⟩
    · exact hk _ _ H' c (LeX.le R'.le) .non
    · exact hk d v H' c (LeX.le R'.le) (q.mono (hid_sub R'.sub))
    · obtain ⟨vs, hp, q⟩ := f
      have l := hid1_le H' p
      refine hk _ _ H' c ((LeX.le R'.le).trans l) (.lst (by rw [hid_out (fun z => n (R'.sub p z))]; exact hp) ((q.mono (hid_sub R'.sub)).mono l.hid))
theorem okP {W : WpP} (F : L2.Fun K x qual st f fd) (S : FnScope N ps (defScope st)) (hN : 0 < N.length) (hl : ∀ m ds C, W m ds C → ds.length + 1 = ps.length)
    (hb : ∀ (cdv : Value) (A : Around) (outer : List Env) (s : Shared) (H : Hp) (E : XK), Room k (A.deeper (envOfC qual (defScope st) s.heap.objs.size f cdv)) →
      ∃ t, PSs (cxOf CX0 P w K mg base N qual (defScope st) f cdv A outer s H E).nox (defBody st) t ∧ ∀ (z : Cz) (m : Nat) (ds : List Dat) (C : Nat → Dat → Prop), W m ds C → XS z t (.pu :: argsG N.tail.length ds) m { nx := fun _ m' => C m' .non, rt := fun m' d => C m' d, rn := fun m' es => C m' (.lst es) }) :
    FnOk P w K mg base CX0 (k + 1) f fd ps (spP W) := by
  refine F.ok S (fun vs H Q E h => ?_) (fun cdv A outer s H vs Q E hr h => ?_)
  · obtain ⟨a, us, G, m, ds, C, rfl, aG, hp, hd, r, hW, _⟩ := h
    have := hl m ds C hW
    rw [List.length_cons, r.length]; exact this
  · obtain ⟨a, us, G, m, ds, C, rfl, aG, hp, hd, r, hW, hk⟩ := h
    obtain ⟨t, ht, hx⟩ := hb cdv A outer s H E hr
    have R0 := (real_start (z := ⟨G, [a], H⟩) (N := N.tail) rfl hd (by intro p h; rw [List.mem_singleton.mp h]; exact aG) (by intro p h; rw [List.mem_singleton.mp h]; exact hp) r).purse rfl
    rw [← start_cons hN] at R0
    refine ⟨t, ht, hx ⟨G, [a], H⟩ m ds C hW G _ H R0 _ ⟨fun O' g' m' σ' H' c R' l => ?_, fun O' g' m' σ' d v H' c R' q => ?_, fun O' g' m' σ' es p H' c R' n nb f => ?_, fun _ _ _ _ _ c => c.elim, fun _ _ _ _ _ c => c.elim⟩⟩
    · exact hk _ _ _ H' c R'.le (R'.pur a (by simp)) .non
    · exact hk _ d v H' c R'.le (R'.pur a (by simp)) (q.mono (hid_sub R'.sub))
    · obtain ⟨vs, hp', q⟩ := f
      have l := hid1_le H' p
      have pu := R'.pur a (by simp)
      refine hk _ _ _ H' c (R'.le.trans l.x) ?_ (.lst (by rw [hid_out (fun z => n (R'.sub p z))]; exact hp') ((q.mono (hid_sub R'.sub)).mono l.hid))
      obtain ⟨d, c_, k_, h, q⟩ := pu
      exact ⟨d, c_, k_, l.lst h, q⟩
end
end My

/-! ### own rules: len(o), o == p, o != p by the class's own __len__, __eq__ -/
namespace My
open PySem PySem.Spec PyProof.Rows L2
theorem ns_some {K : PySem.W.Frag} {h : Heap} {N : Addr} {mg : Str → Option Value} {n : Str} {v : Value} (X : K.In h) (G : h.Ns N mg) (e : PySem.W.nsIn K N n = some (some v)) : mg n = some v := by
  obtain ⟨o, es, ep, ho, hd, _, hf⟩ := G
  unfold PySem.W.nsIn at e
  split at e
  · rename_i c d es' n' sl q
    have := X _ _ q
    rw [ho] at this
    cases this
    cases hd
    split at e
    · rename_i en he
      cases e
      rw [← hf]
      unfold nsFind findBy
      rw [← Array.find?_toList, he]
      rfl
    · split at e <;> cases e
  · cases e
section
variable {X : Cx} {n j : Nat} {C f : Addr} {fd : FuncData} {ps : List Str} {sp : Sp} {E : XK} {CX : CXT} {pins : List (Addr × Obj)} {σ : L2.St} {H : Hp} {s : Shared} {Q : VK} {A : Around}
theorem run_at (F : FnOk X.prog X.w X.K X.mg X.base CX n f fd ps sp) (hb : Binds X.K fd ps []) (hx : Passes CX X E) (sb : L2.Sub X n A) (I : Inv X pins σ H s) {vs : List V} {us : List Value} (r : Vals vs us) (h : sp vs H Q E) :
    wpAny (model X.prog X.w) A (call (.ref f) us) (EP X pins σ Q) X.xe s := by
  have e0 : Env0 X.prog X.w X.K X.mg X.base A X.stack s H := by
    have e := I.env0
    exact ⟨by rw [sb.fr]; exact e.frames, e.mod, e.bs, e.bsz, e.funs, e.frf, e.hok, e.bare⟩
  have hl := F.len _ _ _ _ h
  refine wpAny_call (codeAny_mono (F.run A X.stack s H ⟨us, []⟩ us vs Q E sb.room e0 (by
    have := hb s us I.kIn (by rw [← hl, r.length]; simp)
    simpa using this) r h) fun r s' hq => ?_)
  cases r with
  | error e => exact hx pins σ H s e s' I hq
  | ok fl =>
    cases fl with
    | ret w => exact I.after hq
    | next => exact False.elim hq
    | brk => exact False.elim hq
    | cont => exact False.elim hq
/-- a special method that the class tells -/
structure Spc (K : PySem.W.Frag) (C f : Addr) (name : Str) : Prop where
  at_ : PySem.W.findIn K (.ref C) name = some (some (.ref f))
  fn : PySem.W.isFn K (.ref f) = true
def rLenO (C : Addr) (sp : Sp) (E : XK) : List V → Hp → VK → Prop := fun xs H Q => ∃ a dx fs, xs = [.ref a] ∧ H a = some (.ins C dx fs) ∧ sp [.ref a] H (fun v H' => ∃ k : Int, v = .int k ∧ 0 ≤ k ∧ k < 2 ^ 63 ∧ Q (.int k) H') E
theorem call_lenO (F : FnOk X.prog X.w X.K X.mg X.base CX n f fd ps sp) (hs : Spc X.K C f "__len__") (hb : Binds X.K fd ps []) (hx : Passes CX X E) (hr : Room j X.A) (hk : n + 1 ≤ j) : CallR X (.builtin "len") (rLenO C sp E) := by
  intro pins s σ H xs us Q I r h
  obtain ⟨a, dx, fs, rfl, ha, h⟩ := h
  obtain ⟨u, rfl, rx⟩ := vals1 r
  cases rx
  obtain ⟨mA, J, _⟩ := ins_get I.hok ha
  obtain ⟨od, J, _⟩ := J.look
  obtain ⟨m, hF⟩ := I.fr
  have sb : L2.Sub X n X.A.in1 := L2.Sub.in1 ⟨hr.mono hk, rfl⟩
  refine PySem.W.len_K hF I.ok.mod.kin J hs.at_ hs.fn (thn (run_at F hb hx sb I (vs := [.ref a]) (.cons rfl .nil) h) fun v s1 ⟨y, H1, I1, r1, k, e, h0, h1, q⟩ => ?_)
  subst e
  obtain ⟨t, rfl⟩ := r1
  exact ⟨⟨h0, h1⟩, .int k, H1, I1.tok _, ⟨_, rfl⟩, q⟩
/-- == of two things, the left one of a class with its own __eq__ -/
def rEqO (C : Addr) (sp : Sp) (E : XK) : R2 := fun x y H Q => ∃ a b dx dy fs gs, x = .ref a ∧ y = .ref b ∧ H a = some (.ins C dx fs) ∧ H b = some (.ins C dy gs) ∧ sp [.ref a, .ref b] H (fun v H' => ∃ k : Bool, v = .bl k ∧ Q (.bl k) H') E
theorem op_eqO (F : FnOk X.prog X.w X.K X.mg X.base CX n f fd ps sp) (hs : Spc X.K C f "__eq__") (hb : Binds X.K fd ps []) (hx : Passes CX X E) (hr : Room j X.A) (hk : n ≤ j) : OpR X (compareOp .Eq) (rEqO C sp E) := by
  intro pins s σ H x y v u Q I rx ry h
  obtain ⟨a, b, dx, dy, fs, gs, rfl, rfl, ha, hb', h⟩ := h
  cases rx
  cases ry
  obtain ⟨mA, J, _⟩ := ins_get I.hok ha
  obtain ⟨mB, J', _⟩ := ins_get I.hok hb'
  obtain ⟨od, J, _⟩ := J.look
  obtain ⟨od', J', _⟩ := J'.look
  obtain ⟨m, hF⟩ := I.fr
  have sb : L2.Sub X n X.A := ⟨hr.mono hk, rfl⟩
  show wpAny (model X.prog X.w) X.A (richCompare .Eq (.ref a) (.ref b)) (EP X pins σ Q) X.xe s
  refine PySem.W.cmp_K (op := .Eq) (tb := .ref C) sb.room.units0 hF I.ok.mod.kin J J'.type (by simp [PySem.W.notFirst]) hs.at_ hs.fn (thn (run_at F hb hx sb I (vs := [.ref a, .ref b]) (.cons rfl (.cons rfl .nil)) h) fun v s1 ⟨y, H1, I1, r1, k, e, q⟩ => ?_)
  subst e
  cases r1
  exact ⟨.bl k, H1, I1, rfl, q⟩
/-- what is known of a class that has its own __eq__ and no __ne__ -/
structure OwnE (K : PySem.W.Frag) (C f : Addr) : Prop where
  cls : ∃ nm q N bs sn sub ab col dd k0 k1 k2 k3 k5, K.lookup C = some (excClassObj nm q C N bs [.type "object"] true sn sub ab col dd k0 k1 k2 k3 k5 "object.__new__") ∧ PySem.W.nsOkIn K N = true ∧ PySem.W.nsIn K N "__eq__" = some (some (.ref f)) ∧ PySem.W.nsIn K N "__ne__" = some none
  fn : ∃ of, K.lookup f = some of ∧ of.cls = .type "function"
theorem OwnE.ne {K : PySem.W.Frag} (o : OwnE K C f) {h : Heap} (X : K.In h) {x : Addr} {ox : Obj} (hx : h.get? x = some ox) (hc : ox.cls = .ref C) : h.OwnEqNoNe x C f "object" [.type "object"] := by
  obtain ⟨nm, q, N, bs, sn, sub, ab, col, dd, k0, k1, k2, k3, k5, hl, hN, he, hne⟩ := o.cls
  obtain ⟨of, hf, hfc⟩ := o.fn
  have G : h.Ns N (h.nsMap N) := .of_isNs (PySem.W.isNs_of_in X hN)
  refine ⟨ox, of, nm, q, N, bs, true, sn, sub, ab, col, dd, k0, k1, k2, k3, k5, "object.__new__", h.nsMap N, some (.builtin "object.__eq__"), hx, hc, X _ _ hl, G, ns_some X G he, X _ _ hf, hfc, PySem.F.mro_object, ?_, PySem.W.ns_none_of X G hne⟩
  rw [typeLookup_type, builtinLookup_eq_fast]; kernel_rfl
def rNeO (C : Addr) (sp : Sp) (E : XK) : R2 := fun x y H Q => ∃ a b dx dy fs gs, x = .ref a ∧ y = .ref b ∧ H a = some (.ins C dx fs) ∧ H b = some (.ins C dy gs) ∧ sp [.ref a, .ref b] H (fun v H' => ∃ k : Bool, v = .bl k ∧ Q (.bl (!k)) H') E
theorem op_neO (F : FnOk X.prog X.w X.K X.mg X.base CX n f fd ps sp) (o : OwnE X.K C f) (hb : Binds X.K fd ps []) (hx : Passes CX X E) (hr : Room j X.A) (hk : n + 1 ≤ j) : OpR X (compareOp .NotEq) (rNeO C sp E) := by
  intro pins s σ H x y v u Q I rx ry h
  obtain ⟨a, b, dx, dy, fs, gs, rfl, rfl, ha, hb', h⟩ := h
  cases rx
  cases ry
  obtain ⟨mA, J, _⟩ := ins_get I.hok ha
  obtain ⟨mB, J', _⟩ := ins_get I.hok hb'
  obtain ⟨od, J, _⟩ := J.look
  obtain ⟨od', J', _⟩ := J'.look
  have sb : L2.Sub X n X.A.in1 := L2.Sub.in1 ⟨hr.mono hk, rfl⟩
  have hu : X.A.units + 1 < cLine := (L2.Sub.in1 (n := 0) ⟨hr.mono (by omega), rfl⟩ : L2.Sub X 0 X.A.in1).room.units0
  obtain ⟨hh, g, d, t, os⟩ := s
  refine compareOp_ne_ownEq PySem.F.cmp_object (o.ne I.kIn J.at_ J.cls) J'.at_ J'.cls hu (thn (run_at F hb hx sb I (vs := [.ref a, .ref b]) (.cons rfl (.cons rfl .nil)) h) fun v s1 ⟨y, H1, I1, r1, k, e, q⟩ => ?_)
  subst e
  cases r1
  exact ⟨k, rfl, .bl (!k), H1, I1, rfl, q⟩
end
end My

/-! ### calls of defs and methods by places and by names, told of data -/
namespace My
open PySem PySem.Spec PyProof.Rows L2
/-- where a parameter's value comes from: a place, a name, the default -/
inductive Pk where
  | p (i : Nat) | k (i : Nat) | c (v : V)
def pickV (tm : List Pk) (vs zs : List V) : List V := tm.map fun
  | .p i => vs.getD i .non
  | .k i => zs.getD i .non
  | .c v => v
def pickD (tm : List Pk) (ds es : List Dat) : List Dat := tm.map fun
  | .p i => ds.getD i .non
  | .k i => es.getD i .non
  | .c v => vd v
def pkOk (n m : Nat) : Pk → Bool
  | .p i => decide (i < n)
  | .k i => decide (i < m)
  | .c v => simV v
theorem RpL.getD {H : Hp} : ∀ {vs : List V} {ds : List Dat} (i : Nat), RpL H vs ds → Rp H (vs.getD i .non) (ds.getD i .non)
  | _, _, _, .nil => .non
  | _, _, 0, .cons r _ => r
  | _, _, i + 1, .cons _ t => RpL.getD i t
theorem RpL.pick {H : Hp} {vs zs : List V} {ds es : List Dat} (r : RpL H vs ds) (q : RpL H zs es) {n m : Nat} : ∀ {tm : List Pk}, tm.all (pkOk n m) = true → RpL H (pickV tm vs zs) (pickD tm ds es)
  | [], _ => .nil
  | x :: tm, h => by
    have h' := and_t (show (pkOk n m x && tm.all (pkOk n m)) = true from h)
    refine .cons ?_ (RpL.pick r q h'.2)
    cases x with
    | p i => exact r.getD i
    | k i => exact q.getD i
    | c v => exact rp_vd h'.1
/-- a callee: its def at f, called with n places and the names ks -/
structure Kl (CX : CXT) (P : Program) (w : World) (K : PySem.W.Frag) (mg : Str → Option Value) (base : Heap) (k : Nat) (f : Addr) (sp : Sp) (n : Nat) (ks : List Str) (tm : List Pk) : Prop where
  ex : ∃ (fd : FuncData) (ps : List Str) (g : List Value → List Value → List Value), FnOk P w K mg base CX k f fd ps sp ∧ PySem.W.keepIn K (.ref f) = true ∧
    (∀ (s : Shared) (us ws : List Value), K.In s.heap → us.length = n → ws.length = ks.length → BindsTo s fd ⟨us, ks.zip ws⟩ (ps.zip (g us ws))) ∧
    (∀ {vs : List V} {us : List Value} {zs : List V} {ws : List Value}, vs.length = n → zs.length = ks.length → Vals vs us → Vals zs ws → Vals (pickV tm vs zs) (g us ws))
  ok : tm.all (pkOk n ks.length) = true
/-- a method of C -/
structure KMet (CX : CXT) (P : Program) (w : World) (K : PySem.W.Frag) (mg : Str → Option Value) (base : Heap) (k : Nat) (C : Addr) (x : Str) (sp : Sp) (n : Nat) (ks : List Str) (tm : List Pk) : Prop where
  ex : ∃ f, Cls K C ∧ Meth K C x f ∧ Kl CX P w K mg base k f sp n ks tm
/-- a def of the module -/
structure KDef (CX : CXT) (P : Program) (w : World) (K : PySem.W.Frag) (mg : Str → Option Value) (base : Heap) (k : Nat) (x : Str) (sp : Sp) (n : Nat) (ks : List Str) (tm : List Pk) : Prop where
  ex : ∃ f, mg x = some (.ref f) ∧ Kl CX P w K mg base k f sp n ks tm
def PsAt (CX : CXT) (X : Cx) (σ : L2.St) (E : XK) : Prop := ∀ (pins : List (Addr × Obj)) (H : Hp) (s : Shared) (e : Value) (s' : Shared), Inv X pins σ H s → CX X.stack H s E e s' → X.xe e s'
def tKc (sp : Sp) (n m : Nat) (tm : List Pk) (E : L2.St → XK) (t tk : TA) : TE := fun σ H Q => t σ H fun vs H1 => tk σ H1 fun zs H2 => vs.length = n ∧ zs.length = m ∧ sp (pickV tm vs zs) H2 Q (E σ)
def tKm (C : Addr) (x : Str) (sp : Sp) (n m : Nat) (tm : List Pk) (E : L2.St → XK) (to : TE) (t tk : TA) : TE := fun σ H Q => to σ H fun o H0 => ∃ a dx fs, o = .ref a ∧ H0 a = some (.ins C dx fs) ∧ fs.lookup x = none ∧
  t σ H0 fun vs H1 => tk σ H1 fun zs H2 => vs.length + 1 = n ∧ zs.length = m ∧ sp (pickV tm (o :: vs) zs) H2 Q (E σ)
section
variable {X : Cx} {CX : CXT} {k j n : Nat} {C f : Addr} {x : Str} {ks : List Str} {sp : Sp} {tm : List Pk} {E : L2.St → XK} {p pos apos : Pos} {o e : Expr} {es : List Expr} {kws : List Keyword} {to : TE} {t tk : TA} {pl : Sem Bool}
theorem run_kl (c : Kl CX X.prog X.w X.K X.mg X.base k f sp n ks tm) (hr : Room j X.A) (hk : k ≤ j) {pins : List (Addr × Obj)} {σ : L2.St} {H : Hp} {s : Shared} {Q : VK} {us ws : List Value} {vs zs : List V} (hx : PsAt CX X σ (E σ))
    (I : Inv X pins σ H s) (r : Vals vs us) (rz : Vals zs ws) (l1 : vs.length = n) (l2 : zs.length = ks.length) (h : sp (pickV tm vs zs) H Q (E σ)) : wpAny (model X.prog X.w) X.A (call (.ref f) us (ks.zip ws)) (EP X pins σ Q) X.xe s := by
  obtain ⟨fd, ps, g, F, _, to, rel⟩ := c.ex
  have r2 := rel l1 l2 r rz
  refine wpAny_call (codeAny_mono (F.run X.A X.stack s H ⟨us, ks.zip ws⟩ (g us ws) (pickV tm vs zs) Q (E σ) (hr.mono hk) I.env0 (to s us ws I.kIn (by rw [← r.length]; exact l1) (by rw [← rz.length]; exact l2)) r2 h) fun r s' hq => ?_)
  cases r with
  | error e => exact hx pins H s e s' I hq
  | ok fl =>
    cases fl with
    | ret u => exact I.after hq
    | next => exact False.elim hq
    | brk => exact False.elim hq
    | cont => exact False.elim hq
/-- x(a, .., k=b, ..) -/
theorem pe_kc (c : KDef CX X.prog X.w X.K X.mg X.base k x sp n ks tm) (hr : Room j X.A) (hk : k ≤ j) (hg : Gl X x) (hx : ∀ σ, PsAt CX X σ (E σ)) (ha : PA X (e :: es) t) (hkw : PK X kws tk)
    (hall : (backToKw pos (keywordEach kws X.env)).all (·.1.isSome) = true := by rfl) (hks : (backToKw pos (keywordEach kws X.env)).filterMap (·.1) = ks := by rfl) (hdb : (x == ("__debug__" : Str)) = false := by decide)
    (he : starEach (e :: es) X.env = (false, eval e X.env) :: starEach es X.env := by rfl) (hpl : ((backTo pos (starEach (e :: es) X.env)).any (·.1) || (backToKw pos (keywordEach kws X.env)).any (·.1.isNone)) = false := by rfl) :
    PE X (.Call (.Name x p) (e :: es) kws pos) (tKc sp n ks.length tm E t tk) := by
  obtain ⟨f, hm, c⟩ := c.ex
  obtain ⟨_, _, _, _, kp, _⟩ := id c.ex
  refine ⟨fun pins s σ H Q I h => ?_⟩
  refine wpAny_Call_Name_kw (ld_glob I hg hm ?_ hdb)
  refine PySem.W.callWith_KW (h₀ := X.base) I.ok.mod.kin kp hall (thn (ha.run pos pins s σ H _ I h) fun us s1 ⟨vs, H1, I1, r, q⟩ => ?_) hpl he
  refine thn (hkw.run pos pins s1 σ H1 _ I1 q) fun ws s2 ⟨zs, H2, I2, rz, l1, l2, q2⟩ => ⟨I2.kIn, ?_⟩
  rw [hks]
  exact run_kl c hr hk (hx σ) I2 r rz l1 l2 q2
theorem pe_kc0 (c : KDef CX X.prog X.w X.K X.mg X.base k x sp 0 ks tm) (hr : Room j X.A) (hk : k ≤ j) (hg : Gl X x) (hx : ∀ σ, PsAt CX X σ (E σ)) (hkw : PK X kws tk)
    (hall : (backToKw pos (keywordEach kws X.env)).all (·.1.isSome) = true := by rfl) (hks : (backToKw pos (keywordEach kws X.env)).filterMap (·.1) = ks := by rfl) (hdb : (x == ("__debug__" : Str)) = false := by decide)
    (hpl : ((backTo pos (starEach [] X.env)).any (·.1) || (backToKw pos (keywordEach kws X.env)).any (·.1.isNone)) = false := by rfl) :
    PE X (.Call (.Name x p) [] kws pos) (tKc sp 0 ks.length tm E tNil tk) := by
  obtain ⟨f, hm, c⟩ := c.ex
  obtain ⟨_, _, _, _, kp, _⟩ := id c.ex
  refine ⟨fun pins s σ H Q I h => ?_⟩
  refine wpAny_Call_Name_kw (ld_glob I hg hm ?_ hdb)
  refine PySem.W.callWith_KW0 (h₀ := X.base) I.ok.mod.kin kp hall ?_ hpl
  refine thn (hkw.run pos pins s σ H _ I h) fun ws s2 ⟨zs, H2, I2, rz, l1, l2, q2⟩ => ⟨I2.kIn, ?_⟩
  rw [hks]
  exact run_kl (us := []) (vs := []) c hr hk (hx σ) I2 .nil rz l1 l2 q2
/-- o.x(a, .., k=b, ..) -/
theorem pe_km (ho : PE X o to) (c : KMet CX X.prog X.w X.K X.mg X.base k C x sp n ks tm) (hr : Room j X.A) (hk : k ≤ j) (hx : ∀ σ, PsAt CX X σ (E σ)) (ha : PA X (e :: es) t) (hkw : PK X kws tk)
    (hall : (backToKw pos (keywordEach kws X.env)).all (·.1.isSome) = true := by rfl) (hks : (backToKw pos (keywordEach kws X.env)).filterMap (·.1) = ks := by rfl)
    (he : starEach (e :: es) X.env = (false, eval e X.env) :: starEach es X.env := by rfl) (hpl : ((backTo pos (starEach (e :: es) X.env)).any (·.1) || (backToKw pos (keywordEach kws X.env)).any (·.1.isNone)) = false := by rfl)
    (ht : eval (.Call (.Attribute o x apos) (e :: es) kws pos) X.env = (do
      let ov ← eval o X.env
      standAt apos.atName
      let (f, first) ← holding [ov] (getMethod ov x pl)
      callWith pos f first (backTo pos (starEach (e :: es) X.env)) (backToKw pos (keywordEach kws X.env))) := by rfl) :
    PE X (.Call (.Attribute o x apos) (e :: es) kws pos) (tKm C x sp n ks.length tm E to t tk) := by
  obtain ⟨f, cl, hm, c⟩ := c.ex
  refine ⟨fun pins s σ H Q I h => ?_⟩
  refine PySem.W.methodCall_KW (pl := pl) (thn (ho.run pins s σ H _ I h) fun u s1 ⟨y, H1, I1, rx, a, dx, fs, ex, ea, l, q⟩ => ?_) ht
  subst ex
  obtain rfl : u = Value.ref a := rx
  refine getmeth_ok I1 ea cl hm l ?_
  refine PySem.W.callWith_KW (first := [.ref a]) (h₀ := X.base) I.ok.mod.kin hm.kp hall (thn (ha.run pos pins s1 σ H1 _ I1 q) fun us s2 ⟨vs, H2, I2, r, q2⟩ => ?_) hpl he
  refine thn (hkw.run pos pins s2 σ H2 _ I2 q2) fun ws s3 ⟨zs, H3, I3, rz, l1, l2, q3⟩ => ⟨I3.kIn, ?_⟩
  rw [hks]
  exact run_kl (us := .ref a :: us) (vs := .ref a :: vs) c hr hk (hx σ) I3 (.cons rfl r) rz l1 l2 q3
/-- o.x(k=b, ..), o.x() -/
theorem pe_km0 (ho : PE X o to) (c : KMet CX X.prog X.w X.K X.mg X.base k C x sp 1 ks tm) (hr : Room j X.A) (hk : k ≤ j) (hx : ∀ σ, PsAt CX X σ (E σ)) (hkw : PK X kws tk)
    (hall : (backToKw pos (keywordEach kws X.env)).all (·.1.isSome) = true := by rfl) (hks : (backToKw pos (keywordEach kws X.env)).filterMap (·.1) = ks := by rfl)
    (hpl : ((backTo pos (starEach [] X.env)).any (·.1) || (backToKw pos (keywordEach kws X.env)).any (·.1.isNone)) = false := by rfl)
    (ht : eval (.Call (.Attribute o x apos) [] kws pos) X.env = (do
      let ov ← eval o X.env
      standAt apos.atName
      let (f, first) ← holding [ov] (getMethod ov x pl)
      callWith pos f first (backTo pos (starEach [] X.env)) (backToKw pos (keywordEach kws X.env))) := by rfl) :
    PE X (.Call (.Attribute o x apos) [] kws pos) (tKm C x sp 1 ks.length tm E to tNil tk) := by
  obtain ⟨f, cl, hm, c⟩ := c.ex
  refine ⟨fun pins s σ H Q I h => ?_⟩
  refine PySem.W.methodCall_KW (pl := pl) (thn (ho.run pins s σ H _ I h) fun u s1 ⟨y, H1, I1, rx, a, dx, fs, ex, ea, l, q⟩ => ?_) ht
  subst ex
  obtain rfl : u = Value.ref a := rx
  refine getmeth_ok I1 ea cl hm l ?_
  refine PySem.W.callWith_KW0 (first := [.ref a]) (h₀ := X.base) I.ok.mod.kin hm.kp hall ?_ hpl
  refine thn (hkw.run pos pins s1 σ H1 _ I1 q) fun ws s3 ⟨zs, H3, I3, rz, l1, l2, q3⟩ => ⟨I3.kIn, ?_⟩
  rw [hks]
  exact run_kl (us := [.ref a]) (vs := [.ref a]) c hr hk (hx σ) I3 (.cons rfl .nil) rz rfl l2 q3
end
theorem psAt0 {X : Cx} {σ : L2.St} {E : XK} : PsAt CX0 X σ E := fun _ _ _ _ _ _ h => h.elim
theorem psAtL {X : Cx} {σ : L2.St} : PsAt (L2.CX X.prog X.w) X σ E0 := fun pins H s e s' I h => passL pins σ H s e s' I h
/-! told of data -/
section
variable {z : Cz} {g : List Sl} {m n nk : Nat} {C : Nat → Dat → Prop} {CL : Nat → List Dat → Prop} {t tk : TA} {to : TE} {tm : List Pk} {E : L2.St → XK}
theorem XE.kc {W : WpD} (ok : tm.all (pkOk n nk) = true) (h : XA z t g m fun m1 ds => XA z tk g m1 fun m2 es => ds.length = n ∧ es.length = nk ∧ W (pickD tm ds es) (C m2)) : XE z (tKc (spD W) n nk tm E t tk) g m C := fun O σ H R Q k =>
  h O σ H R _ fun m1 ds vs H1 c1 R1 l1 q1 => c1 O σ H1 R1 _ fun m2 es zs H2 ⟨e1, e2, c⟩ R2 l2 q2 => by
    have q1' := q1.mono (l2.hid R1.po)
    exact ⟨by rw [q1.length]; exact e1, by rw [q2.length]; exact e2, O, _, C m2, R2.dom, q1'.pick q2 ok, c, fun d v H' c' l' q' => k m2 d v H' c' (R2.up l') ((l1.trans l2).trans l'.x) q'⟩
theorem XN.kc {W : WpN} (ok : tm.all (pkOk n nk) = true) (h : XA z t g m fun m1 ds => XA z tk g m1 fun m2 es => ds.length = n ∧ es.length = nk ∧ W (pickD tm ds es) (CL m2)) : XN z (tKc (spN W) n nk tm E t tk) g m CL := fun O σ H R Q k =>
  h O σ H R _ fun m1 ds vs H1 c1 R1 l1 q1 => c1 O σ H1 R1 _ fun m2 es zs H2 ⟨e1, e2, c⟩ R2 l2 q2 => by
    have q1' := q1.mono (l2.hid R1.po)
    refine ⟨by rw [q1.length]; exact e1, by rw [q2.length]; exact e2, O, _, CL m2, R2.dom, q1'.pick q2 ok, c, fun es p H' c' l' hp f => ?_⟩
    have no : p ∉ O := fun q => by obtain ⟨o, ho⟩ := R2.dom p q; rw [hp] at ho; cases ho
    have nP : p ∉ z.P := fun q => no (R2.po p q)
    have z0 : ∀ {B : Hp}, LeX z.P B H2 → B p = none := fun {B} l => by
      cases q : B p with
      | none => rfl
      | some o => obtain ⟨o', ho⟩ := (l p o nP q).get; rw [hp] at ho; cases ho
    exact k m2 es p H' c' (R2.up l') ((l1.trans l2).trans l'.x) ⟨no, z0 R2.le, z0 (l1.trans l2), f⟩
theorem XE.kcX {W : WpX} {X : Nat → Err → Prop} (ok : tm.all (pkOk n nk) = true) (hX : ∀ O σ m' H' e cls d, X m' e → Real z O g m' σ H' → ErrAt O H' e cls d → E σ cls d H') (h : XA z t g m fun m1 ds => XA z tk g m1 fun m2 es => ds.length = n ∧ es.length = nk ∧ W (pickD tm ds es) (C m2) (X m2)) : XE z (tKc (spX W) n nk tm E t tk) g m C := fun O σ H R Q k =>
  h O σ H R _ fun m1 ds vs H1 c1 R1 l1 q1 => c1 O σ H1 R1 _ fun m2 es zs H2 ⟨e1, e2, c⟩ R2 l2 q2 => by
    have q1' := q1.mono (l2.hid R1.po)
    exact ⟨by rw [q1.length]; exact e1, by rw [q2.length]; exact e2, O, _, C m2, X m2, R2.dom, q1'.pick q2 ok, c, fun d v H' c' l' q' => k m2 d v H' c' (R2.up l') ((l1.trans l2).trans l'.x) q', fun e cls d H' x l' q' => hX O σ m2 H' e cls d x (R2.up l') q'⟩
/-! methods -/
def IsIns (C : Addr) (x : Str) (d : Dat) : Prop := ∃ fs, d = .ins C fs ∧ cachF x = false ∧ fs.lookup x = none
theorem IsIns.get {H : Hp} {C : Addr} {x : Str} {d : Dat} {v : V} {O : List Addr} (h : IsIns C x d) (r : Rp (hid O H) v d) : ∃ a dx fs, v = .ref a ∧ H a = some (.ins C dx fs) ∧ fs.lookup x = none := by
  obtain ⟨fs, rfl, hc, hl⟩ := h
  cases r with
  | ins ha rf n => exact ⟨_, _, _, rfl, (hid_some ha).2, n x hc hl⟩
theorem XE.km {W : WpD} {Ca : Addr} {x : Str} (ok : tm.all (pkOk n nk) = true) (h : XE z to g m fun m0 d0 => IsIns Ca x d0 ∧ XA z t g m0 fun m1 ds => XA z tk g m1 fun m2 es => ds.length + 1 = n ∧ es.length = nk ∧ W (pickD tm (d0 :: ds) es) (C m2)) : XE z (tKm Ca x (spD W) n nk tm E to t tk) g m C := fun O σ H R Q k =>
  h O σ H R _ fun m0 d0 v0 H0 ⟨hi, c0⟩ R0 l0 q0 => by
    obtain ⟨a, dx, fs, ev, ha, hl⟩ := hi.get q0
    refine ⟨a, dx, fs, ev, ha, hl, c0 O σ H0 R0 _ fun m1 ds vs H1 c1 R1 l1 q1 => c1 O σ H1 R1 _ fun m2 es zs H2 ⟨e1, e2, c⟩ R2 l2 q2 => ?_⟩
    have q1' := RpL.cons (q0.mono ((l1.trans l2).hid R0.po)) (q1.mono (l2.hid R1.po))
    exact ⟨by rw [q1.length]; exact e1, by rw [q2.length]; exact e2, O, _, C m2, R2.dom, q1'.pick q2 ok, c, fun d v H' c' l' q' => k m2 d v H' c' (R2.up l') (((l0.trans l1).trans l2).trans l'.x) q'⟩
theorem XE.kmX {W : WpX} {X : Nat → Err → Prop} {Ca : Addr} {x : Str} (ok : tm.all (pkOk n nk) = true) (hX : ∀ O σ m' H' e cls d, X m' e → Real z O g m' σ H' → ErrAt O H' e cls d → E σ cls d H') (h : XE z to g m fun m0 d0 => IsIns Ca x d0 ∧ XA z t g m0 fun m1 ds => XA z tk g m1 fun m2 es => ds.length + 1 = n ∧ es.length = nk ∧ W (pickD tm (d0 :: ds) es) (C m2) (X m2)) : XE z (tKm Ca x (spX W) n nk tm E to t tk) g m C := fun O σ H R Q k =>
  h O σ H R _ fun m0 d0 v0 H0 ⟨hi, c0⟩ R0 l0 q0 => by
    obtain ⟨a, dx, fs, ev, ha, hl⟩ := hi.get q0
    refine ⟨a, dx, fs, ev, ha, hl, c0 O σ H0 R0 _ fun m1 ds vs H1 c1 R1 l1 q1 => c1 O σ H1 R1 _ fun m2 es zs H2 ⟨e1, e2, c⟩ R2 l2 q2 => ?_⟩
    have q1' := RpL.cons (q0.mono ((l1.trans l2).hid R0.po)) (q1.mono (l2.hid R1.po))
    exact ⟨by rw [q1.length]; exact e1, by rw [q2.length]; exact e2, O, _, C m2, X m2, R2.dom, q1'.pick q2 ok, c, fun d v H' c' l' q' => k m2 d v H' c' (R2.up l') (((l0.trans l1).trans l2).trans l'.x) q', fun e cls d H' x l' q' => hX O σ m2 H' e cls d x (R2.up l') q'⟩
theorem XN.km {W : WpN} {Ca : Addr} {x : Str} (ok : tm.all (pkOk n nk) = true) (h : XE z to g m fun m0 d0 => IsIns Ca x d0 ∧ XA z t g m0 fun m1 ds => XA z tk g m1 fun m2 es => ds.length + 1 = n ∧ es.length = nk ∧ W (pickD tm (d0 :: ds) es) (CL m2)) : XN z (tKm Ca x (spN W) n nk tm E to t tk) g m CL := fun O σ H R Q k =>
  h O σ H R _ fun m0 d0 v0 H0 ⟨hi, c0⟩ R0 l0 q0 => by
    obtain ⟨a, dx, fs, ev, ha, hl⟩ := hi.get q0
    refine ⟨a, dx, fs, ev, ha, hl, c0 O σ H0 R0 _ fun m1 ds vs H1 c1 R1 l1 q1 => c1 O σ H1 R1 _ fun m2 es zs H2 ⟨e1, e2, c⟩ R2 l2 q2 => ?_⟩
    have q1' := RpL.cons (q0.mono ((l1.trans l2).hid R0.po)) (q1.mono (l2.hid R1.po))
    refine ⟨by rw [q1.length]; exact e1, by rw [q2.length]; exact e2, O, _, CL m2, R2.dom, q1'.pick q2 ok, c, fun es p H' c' l' hp f => ?_⟩
    have no : p ∉ O := fun q => by obtain ⟨o, ho⟩ := R2.dom p q; rw [hp] at ho; cases ho
    have nP : p ∉ z.P := fun q => no (R2.po p q)
    have z0 : ∀ {B : Hp}, LeX z.P B H2 → B p = none := fun {B} l => by
      cases q : B p with
      | none => rfl
      | some o => obtain ⟨o', ho⟩ := (l p o nP q).get; rw [hp] at ho; cases ho
    exact k m2 es p H' c' (R2.up l') (((l0.trans l1).trans l2).trans l'.x) ⟨no, z0 R2.le, z0 ((l0.trans l1).trans l2), f⟩
/-- o.f, a field -/
theorem XE.fld {K : PySem.W.Frag} {Ca : Addr} {f : Str} (cl : Cls K Ca) (na : NoAttr K Ca f) (h : XE z to g m fun m1 d => ∃ fs x, d = .ins Ca fs ∧ fs.lookup f = some x ∧ C m1 x) : XE z (tFld K to f) g m C := fun O σ H R Q k =>
  h O σ H R _ fun m1 d v H1 ⟨fs, x, e, hl, c⟩ R1 l1 q1 => by
    subst e
    cases q1 with
    | ins ha rf n =>
      obtain ⟨u, hu, ru⟩ := rf.look hl
      exact ⟨_, Ca, _, _, u, rfl, (hid_some ha).2, cl, na, hu, k m1 x u H1 c R1 l1 ru⟩
end
end My

namespace My
open PySem PySem.Spec PyProof.Rows L2
open C8 (Cal pe_c pe_gc)
/-! ### single steps, for going through a text by one tactic -/
theorem go_I0 {f : Int → Int → V} {i j : Int} {C : Dat → Prop} (c : C (vd (f i j))) : dI0 f (.int i) (.int j) C := ⟨i, j, rfl, rfl, c⟩
theorem go_I {cd : Int → Int → Prop} {f : Int → Int → V} {i j : Int} {C : Dat → Prop} (hc : cd i j) (c : C (vd (f i j))) : dI cd f (.int i) (.int j) C := ⟨i, j, rfl, rfl, hc, c⟩
theorem go_ix {ds : List Dat} {j : Int} {x : Dat} {C : Dat → Prop} (h : atI ds j = some x) (c : C x) : dIx (.lst ds) (.int j) C := ⟨ds, j, x, rfl, rfl, h, c⟩
theorem go_ixT {ds : List Dat} {j : Int} {x : Dat} {C : Dat → Prop} (h : atI ds j = some x) (c : C x) : dIxT (.tup ds) (.int j) C := ⟨ds, j, x, rfl, rfl, h, c⟩
theorem go_eq {d e : Dat} {C : Dat → Prop} (h1 : isSc d = true) (h2 : isSc e = true) (h3 : scal (dv d) (dv e) = true) (c : C (.bl (eqS d e))) : dEq d e C := ⟨h1, h2, h3, c⟩
theorem go_ne {d e : Dat} {C : Dat → Prop} (h1 : isSc d = true) (h2 : isSc e = true) (h3 : scal (dv d) (dv e) = true) (c : C (.bl (!eqS d e))) : dNe d e C := ⟨h1, h2, h3, c⟩
theorem go_eqD {d e : Dat} {C : Dat → Prop} (h1 : Cmp d) (h2 : Cmp e) (c : C (.bl (eqD d e))) : dEqD d e C := ⟨h1, h2, c⟩
theorem go_neD {d e : Dat} {C : Dat → Prop} (h1 : Cmp d) (h2 : Cmp e) (c : C (.bl (!eqD d e))) : dNeD d e C := ⟨h1, h2, c⟩
theorem go_cat {xs ys : List Dat} {C : List Dat → Prop} (h : xs.length + ys.length ≤ 1000) (c : C (xs ++ ys)) : dCat (.lst xs) (.lst ys) C := ⟨xs, ys, rfl, rfl, h, c⟩
theorem go_rep {xs : List Dat} {k : Int} {C : List Dat → Prop} (h1 : -(2 ^ 63) ≤ k) (h2 : k < 2 ^ 63) (h : xs.length * k.toNat ≤ 1000) (c : C (List.replicate k.toNat xs).flatten) : dRep (.lst xs) (.int k) C := ⟨xs, k, rfl, rfl, h1, h2, h, c⟩
theorem go_un {f : Int → V} {i : Int} {C : Dat → Prop} (c : C (vd (f i))) : dUn f (.int i) C := ⟨i, rfl, c⟩
theorem go_int {i : Int} {C : Int → Prop} (c : C i) : dInt (.int i) C := ⟨i, rfl, c⟩
theorem go_lst {ds : List Dat} {C : List Dat → Prop} (c : C ds) : dLst (.lst ds) C := ⟨ds, rfl, c⟩
theorem go_tup {ds : List Dat} {C : List Dat → Prop} (c : C ds) : dTup (.tup ds) C := ⟨ds, rfl, c⟩
theorem go_str {x : Str} {C : Str → Prop} (c : C x) : dStr (.str x) C := ⟨x, rfl, c⟩
theorem go_bl {b : Bool} {C : Bool → Prop} (c : C b) : dBl (.bl b) C := ⟨b, rfl, c⟩
theorem go_ixO {ds : List Dat} {j : Int} {x : Dat} {C : Dat → Prop} (h : atI ds j = some x) (c : C x) : dIxO ds (.int j) C := ⟨j, x, rfl, h, c⟩
theorem go_put {n j : Nat} {k : Int} {C : Nat → Prop} (h : ixN n k = some j) (c : C j) : dPut n (.int k) C := ⟨k, j, rfl, h, c⟩
theorem go_ext {n : Nat} {es : List Dat} {C : List Dat → Prop} (h : n + es.length ≤ 1000) (c : C es) : dExt n (.lst es) C := by unfold dExt; exact ⟨es, rfl, h, c⟩
theorem go_app {n : Nat} {d : Dat} {C : Dat → Prop} (h : n ≤ 1000) (c : C d) : dApp n [d] C := ⟨d, rfl, h, c⟩
theorem go_rg1 {j : Int} {C : Int → Prop} (h : -(2 ^ 62) ≤ j ∧ j < 2 ^ 62) (c : C j) : dRg1 [.int j] C := ⟨j, rfl, h.1, h.2, c⟩
theorem go_rg2 {i j : Int} {C : Int → Int → Prop} (h : -(2 ^ 62) ≤ i ∧ i < 2 ^ 62 ∧ -(2 ^ 62) ≤ j ∧ j < 2 ^ 62) (c : C i j) : dRg2 [.int i, .int j] C := ⟨i, j, rfl, h, c⟩
theorem go_rg3 {i j c : Int} {n : Nat} {C : Int → Int → Nat → Prop} (h : RgC i j c n) (q : C i c n) : dRg3 [.int i, .int j, .int c] C := ⟨i, j, c, n, rfl, h, q⟩
theorem go_enum {ds : List Dat} {C : List Dat → Prop} (c : C ds) : dEnum [.lst ds] C := ⟨ds, rfl, c⟩
theorem go_zip {ds es : List Dat} {C : List Dat → List Dat → Prop} (c : C ds es) : dZip [.lst ds, .lst es] C := ⟨ds, es, rfl, c⟩
theorem go_zipS {ds es : List Dat} {C : List Dat → List Dat → Prop} (h : ds.length = es.length) (c : C ds es) : dZipS [.lst ds, .lst es] C := ⟨ds, es, rfl, h, c⟩
theorem go_len {ds : List Dat} {q : Prop} (h : Nat.ble ds.length 1000 = true) (c : q) : ds.length ≤ 1000 ∧ q := ⟨Nat.le_of_ble_eq_true h, c⟩
section
variable {z : Cz} {g : List Sl} {m : Nat} {C : Nat → Dat → Prop} {CL : Nat → List Dat → Prop} {CT : Nat → Bool → Prop} {t ta tb tc te : TE} {tr : TA} {tt tu : TT} {ts us : TS} {E : DE} {wi : TI} {gt : TG} {K : PySem.W.Frag}
/-- a loop, turn by turn -/
def XFor0 (z : Cz) (gt : TG) (ts : TS) (E : DE) : List Dat → List Sl → Nat → Prop
  | [], g, m => E.nx g m
  | d :: ds, g, m => XG z (List.range 64) gt d g fun g3 => XS z ts g3 m { E with nx := XFor0 z gt ts E ds, ct := XFor0 z gt ts E ds, bk := E.nx }
@[irreducible] def XFor (z : Cz) (gt : TG) (ts : TS) (E : DE) : List Dat → List Sl → Nat → Prop := XFor0 z gt ts E
theorem XFor_e : XFor z gt ts E = XFor0 z gt ts E := by delta XFor; rfl
theorem XFor.at {ds : List Dat} {i : Nat} {d : Dat} (h : ds[i]? = some d) : XFor z gt ts E (ds.drop i) g m ↔ XG z (List.range 64) gt d g fun g3 => XS z ts g3 m { E with nx := XFor z gt ts E (ds.drop (i + 1)), ct := XFor z gt ts E (ds.drop (i + 1)), bk := E.nx } := by
  obtain ⟨hl, e⟩ := List.getElem?_eq_some_iff.mp h
  rw [XFor_e, List.drop_eq_getElem_cons hl, e]
  exact Iff.rfl
theorem XS.forU (h : XI z wi g m fun m1 ds => XFor z gt ts E ds g m1) : XS z (tFor wi gt ts) g m E := XS.for fun O σ H R Q k => h O σ H R Q fun m1 ds J H1 c R1 l1 w =>
  k m1 ds J H1 ⟨fun i g2 m2 => XFor z gt ts E (ds.drop i) g2 m2, c, fun i d g2 m2 hi hI => XFor.at hi |>.mp hI, fun g2 m2 hI => by
    have hI : XFor z gt ts E (ds.drop ds.length) g2 m2 := hI
    rw [List.drop_length, XFor_e] at hI
    exact hI⟩ R1 l1 w
theorem XFor.nil (c : E.nx g m) : XFor z gt ts E [] g m := by rw [XFor_e]; exact c
theorem XFor.cons {d : Dat} {ds : List Dat} (h : XG z (List.range 64) gt d g fun g3 => XS z ts g3 m { E with nx := XFor z gt ts E ds, ct := XFor z gt ts E ds, bk := E.nx }) : XFor z gt ts E (d :: ds) g m := by
  rw [XFor_e] at h ⊢
  exact h
theorem XE.cmp {r : R2} {rd : Dat → Dat → (Dat → Prop) → Prop} (hr : DR2 r rd) (h : XE z ta g m fun m1 d1 => XE z tb g m1 fun m2 d2 => rd d1 d2 (C m2)) : XE z (tOp r ta tb) g m C := XE.op hr h
theorem XG.tupG {n : Nat} {gs : TGs} {ds : List Dat} {vs : List Nat} {k : List Sl → Prop} (hn : ds.length = n) (h : XGs z vs gs ds g k) : XG z vs (gTup K n gs) (.tup ds) g k := XG.tup ⟨ds, rfl, hn, h⟩
theorem XG.unlG {n : Nat} {gs : TGs} {ds : List Dat} {vs : List Nat} {k : List Sl → Prop} (hn : ds.length = n) (h : XGs z vs gs ds g k) : XG z vs (gUnl K n gs) (.lst ds) g k := XG.unl ⟨ds, rfl, hn, h⟩
def dLen (d : Dat) (C : Dat → Prop) : Prop := ∃ xs, seqOf d = some xs ∧ C (.int xs.length)
theorem XE.len1 (h : XE z ta g m fun m1 d => dLen d (C m1)) : XE z (tCB (fun xs H Q => ∃ p ys, xs = [.ref p] ∧ (SqL K H p ys ∨ SqT K H p ys) ∧ Q (.int ys.length) H) (tCons ta tNil)) g m C := XE.cb db_len (XA.cons fun O σ H R Q k => h O σ H R Q fun m1 d v H1 ⟨xs, e, c⟩ R1 l1 q1 => k m1 d v H1 (XA.nil ⟨d, xs, rfl, e, c⟩) R1 l1 q1)
theorem go_len1 {d : Dat} {xs : List Dat} {C : Dat → Prop} (h : seqOf d = some xs) (c : C (.int xs.length)) : dLen d C := ⟨xs, h, c⟩
theorem XE.len (h : XA z tr g m fun m1 ds => ∃ d xs, ds = [d] ∧ seqOf d = some xs ∧ C m1 (.int xs.length)) : XE z (tCB (fun xs H Q => ∃ p ys, xs = [.ref p] ∧ (SqL K H p ys ∨ SqT K H p ys) ∧ Q (.int ys.length) H) tr) g m C := XE.cb db_len h
/-- a list by its turns: each item gives one -/
theorem XN.map {vs : List Nat} (h : XI z wi g m fun m1 ds => ∃ f : Dat → Dat, ds.length ≤ 1000 ∧ (∀ d, d ∈ ds → XG z vs gt d (wipeG g vs) fun g3 => XE z te g3 m1 fun m4 y => m4 = m1 ∧ y = f d) ∧ CL m1 (ds.map f)) : XN z (tLc wi gt tYes te vs) g m CL := XN.lc fun O σ H R Q k => h O σ H R Q fun m1 ds J H1 ⟨f, hl, hb, c⟩ R1 l1 w =>
  k m1 ds J H1 ⟨fun i acc m2 => acc = (ds.take i).map f ∧ m2 = m1, ⟨rfl, rfl⟩, fun i d acc m2 hi ⟨e1, e2⟩ => by
    subst e1 e2
    have hd : d ∈ ds := List.mem_of_getElem? hi
    intro O m σ H v R q R' k'
    refine hb d hd O m σ H v R q R' fun g' σ' c' R'' w' => k' g' σ' (XT.yes ?_) R'' w'
    rw [if_pos rfl]
    intro O σ H R Q k
    refine c' O σ H R Q fun m' y v H' ⟨e1, e2⟩ => k m' y v H' ⟨?_, ?_, e1⟩
    · rw [List.length_map, List.length_take]; omega
    · rw [e2, take_more hi, List.map_append]; rfl, fun acc m2 ⟨e1, e2⟩ => by
    subst e1 e2
    rw [List.take_of_length_le (Nat.le_refl _)]
    exact c⟩ R1 l1 w
/-- a list by its turns, what it is known -/
theorem XN.to {vs : List Nat} (h : XI z wi g m fun m1 ds => ∃ out : List Dat, ds.length = out.length ∧ ds.length ≤ 1000 ∧ (∀ (i : Nat) (d o : Dat), ds[i]? = some d → out[i]? = some o → XG z vs gt d (wipeG g vs) fun g3 => XE z te g3 m1 fun m4 y => m4 = m1 ∧ y = o) ∧ CL m1 out) : XN z (tLc wi gt tYes te vs) g m CL := XN.lc fun O σ H R Q k => h O σ H R Q fun m1 ds J H1 ⟨out, hl, h1, hb, c⟩ R1 l1 w =>
  k m1 ds J H1 ⟨fun i acc m2 => acc = out.take i ∧ m2 = m1, ⟨rfl, rfl⟩, fun i d acc m2 hi ⟨e1, e2⟩ => by
    subst e1 e2
    have hlt : i < out.length := by rw [← hl]; exact (List.getElem?_eq_some_iff.mp hi).1
    have ho := List.getElem?_eq_getElem hlt
    intro O m σ H v R q R' k'
    refine hb i d _ hi ho O m σ H v R q R' fun g' σ' c' R'' w' => k' g' σ' (XT.yes ?_) R'' w'
    rw [if_pos rfl]
    intro O σ H R Q k
    refine c' O σ H R Q fun m' y v H' ⟨e1, e2⟩ => k m' y v H' ⟨?_, ?_, e1⟩
    · rw [List.length_take]; omega
    · rw [e2, take_more ho], fun acc m2 ⟨e1, e2⟩ => by
    subst e1 e2
    rw [hl, List.take_of_length_le (Nat.le_refl _)]
    exact c⟩ R1 l1 w
end
/-! ### classes with their own __len__, __eq__ -/
/-- a special method, called by what is built in -/
structure SpM (P : Program) (w : World) (K : PySem.W.Frag) (mg : Str → Option Value) (base : Heap) (k : Nat) (C : Addr) (name : Str) (sp : Sp) : Prop where
  ex : ∃ (f : Addr) (fd : FuncData) (ps : List Str), FnOk P w K mg base CX0 k f fd ps sp ∧ Spc K C f name ∧ Binds K fd ps []
structure SpE (P : Program) (w : World) (K : PySem.W.Frag) (mg : Str → Option Value) (base : Heap) (k : Nat) (C : Addr) (sp : Sp) : Prop where
  ex : ∃ (f : Addr) (fd : FuncData) (ps : List Str), FnOk P w K mg base CX0 k f fd ps sp ∧ Spc K C f "__eq__" ∧ Binds K fd ps [] ∧ OwnE K C f
section
variable {X : Cx} {C : Addr} {sp : Sp} {k j : Nat}
theorem call_lenS (c : SpM X.prog X.w X.K X.mg X.base k C "__len__" sp) (hr : Room j X.A) (hk : k + 1 ≤ j) : CallR X (.builtin "len") (rLenO C sp E0) := by
  obtain ⟨f, fd, ps, F, s, b⟩ := c.ex
  exact call_lenO F s b pass0 hr hk
theorem op_eqS (c : SpE X.prog X.w X.K X.mg X.base k C sp) (hr : Room j X.A) (hk : k ≤ j) : OpR X (compareOp .Eq) (rEqO C sp E0) := by
  obtain ⟨f, fd, ps, F, s, b, _⟩ := c.ex
  exact op_eqO F s b pass0 hr hk
theorem op_neS (c : SpE X.prog X.w X.K X.mg X.base k C sp) (hr : Room j X.A) (hk : k + 1 ≤ j) : OpR X (compareOp .NotEq) (rNeO C sp E0) := by
  obtain ⟨f, fd, ps, F, s, b, o⟩ := c.ex
  exact op_neO F o b pass0 hr hk
end
theorem ins_at {O : List Addr} {H : Hp} {v : V} {C : Addr} {fs : List (Str × Dat)} (r : Rp (hid O H) v (.ins C fs)) : ∃ a dx gs, v = .ref a ∧ H a = some (.ins C dx gs) := by
  cases r with
  | ins h _ _ => exact ⟨_, _, _, rfl, (hid_some h).2⟩
theorem db_lenO {C : Addr} {W : WpD} {E : XK} : DCB (rLenO C (spD W) E) (fun ds k => ∃ d fs, ds = [d] ∧ d = .ins C fs ∧ W [d] fun r => ∃ n : Int, r = .int n ∧ 0 ≤ n ∧ n < 2 ^ 63 ∧ k (.int n)) := fun O H xs ds k Q hd r ⟨d, fs, e1, e2, w⟩ c => by
  subst e1 e2
  cases r with
  | cons r t =>
    cases t
    obtain ⟨a, dx, gs, rfl, ha⟩ := ins_at r
    refine ⟨a, dx, gs, rfl, ha, O, _, _, hd, .cons r .nil, w, fun d v H' ⟨n, e, h0, h1, q⟩ l q' => ?_⟩
    subst e; cases q'
    exact ⟨n, rfl, h0, h1, c _ _ H' q l (.int n)⟩
theorem dr_eqO {C : Addr} {W : WpD} {E : XK} : DR2 (rEqO C (spD W) E) (fun d e k => ∃ fs gs, d = .ins C fs ∧ e = .ins C gs ∧ W [d, e] fun r => ∃ b : Bool, r = .bl b ∧ k (.bl b)) := fun O H x y d e k Q hd rx ry ⟨fs, gs, e1, e2, w⟩ c => by
  subst e1 e2
  obtain ⟨a, dx, us, rfl, ha⟩ := ins_at rx
  obtain ⟨b, dy, ws, rfl, hb⟩ := ins_at ry
  refine ⟨a, b, dx, dy, us, ws, rfl, rfl, ha, hb, O, _, _, hd, .cons rx (.cons ry .nil), w, fun d v H' ⟨n, e, q⟩ l q' => ?_⟩
  subst e; cases q'
  exact ⟨n, rfl, c _ _ H' q l (.bl n)⟩
theorem dr_neO {C : Addr} {W : WpD} {E : XK} : DR2 (rNeO C (spD W) E) (fun d e k => ∃ fs gs, d = .ins C fs ∧ e = .ins C gs ∧ W [d, e] fun r => ∃ b : Bool, r = .bl b ∧ k (.bl (!b))) := fun O H x y d e k Q hd rx ry ⟨fs, gs, e1, e2, w⟩ c => by
  subst e1 e2
  obtain ⟨a, dx, us, rfl, ha⟩ := ins_at rx
  obtain ⟨b, dy, ws, rfl, hb⟩ := ins_at ry
  refine ⟨a, b, dx, dy, us, ws, rfl, rfl, ha, hb, O, _, _, hd, .cons rx (.cons ry .nil), w, fun d v H' ⟨n, e, q⟩ l q' => ?_⟩
  subst e; cases q'
  exact ⟨n, rfl, c _ _ H' q l (.bl _)⟩
end My

namespace My
open PySem PySem.Spec PyProof.Rows L2
open C8 (Cal pe_c pe_gc)
/-! ### fractions as rational numbers -/
theorem den_nz (x : Rat) : (x.den : Int) ≠ 0 := by have := x.den_pos; omega
theorem low_rat {t b : Int} (hb : b ≠ 0) : low (t, b) = ((Rat.divInt t b).num, ((Rat.divInt t b).den : Int)) := by
  have e : (Rat.divInt t b).num * b = t * ((Rat.divInt t b).den : Int) := (Rat.divInt_eq_divInt_iff (den_nz _) hb).mp (Rat.num_divInt_den _)
  have := low_unique hb (by have := (Rat.divInt t b).den_pos; omega) (show Int.gcd (Rat.divInt t b).num ((Rat.divInt t b).den : Int) = 1 from (Rat.divInt t b).reduced) e.symm
  exact Prod.ext this.1 this.2
/-- a fraction, its two numbers -/
def nd (x : Rat) : Int × Int := (x.num, (x.den : Int))
theorem add_nd (x y : Rat) : addQ (nd x) (nd y) = nd (x + y) := by
  have h := low_rat (t := x.num * y.den + y.num * x.den) (b := x.den * y.den) (Int.mul_ne_zero (den_nz x) (den_nz y))
  rw [← Rat.divInt_add_divInt _ _ (den_nz x) (den_nz y), Rat.num_divInt_den, Rat.num_divInt_den] at h
  exact h
theorem mul_nd (x y : Rat) : mulQ (nd x) (nd y) = nd (x * y) := by
  have h := low_rat (t := x.num * y.num) (b := x.den * y.den) (Int.mul_ne_zero (den_nz x) (den_nz y))
  rw [← Rat.divInt_mul_divInt, Rat.num_divInt_den, Rat.num_divInt_den] at h
  exact h
/-- sizes of both numbers -/
def RSz (n : Nat) (x : Rat) : Prop := OkQ n (nd x)
theorem RSz.mono {n m : Nat} {x : Rat} (h : RSz n x) (l : n ≤ m) : RSz m x := OkQ.mono h l
theorem RSz.add {n m : Nat} {x y : Rat} (h : RSz n x) (l : RSz m y) : RSz (n + m + 1) (x + y) := by
  have := add_ok h l
  rw [add_nd] at this
  exact this
theorem RSz.mul {n m : Nat} {x y : Rat} (h : RSz n x) (l : RSz m y) : RSz (n + m) (x * y) := by
  have := mul_ok h l
  rw [mul_nd] at this
  exact this
theorem RSz.zero {n : Nat} (h : 1 ≤ n) : RSz n 0 := OkQ.mono (n := 1) ⟨by decide, (by decide : (0 : Int).natAbs < 2 ^ 1), (by decide : (1 : Int).natAbs < 2 ^ 1)⟩ h
theorem RSz.one {n : Nat} (h : 1 ≤ n) : RSz n 1 := OkQ.mono (n := 1) ⟨by decide, (by decide : (1 : Int).natAbs < 2 ^ 1), (by decide : (1 : Int).natAbs < 2 ^ 1)⟩ h
def frD (x : Rat) : Dat := .tup [.int x.num, .int (x.den : Int)]
def rsD (xs : List Rat) : Dat := .lst (xs.map frD)
theorem frD_inj {x y : Rat} (h : frD x = frD y) : x = y := by
  unfold frD at h
  injection h with h
  injection h with h1 h2
  injection h2 with h2 _
  injection h1 with h1
  injection h2 with h2
  exact Rat.ext h1 (by omega)
theorem rp_fr {K : PySem.W.Frag} {G : List Addr} {H : Hp} {v : V} {x : Rat} (r : Rp (hid G H) v (frD x)) : FrAt K H v (nd x) := by
  unfold frD at r
  cases r with
  | tup h r =>
    cases r with
    | cons a t =>
      cases t with
      | cons b t =>
        cases a; cases b; cases t
        exact ⟨_, rfl, (hid_some h).2⟩
theorem no_of_dom {G : List Addr} {H : Hp} (hd : Dom G H) {p : Addr} (n : H p = none) : p ∉ G := fun q => by
  obtain ⟨o, ho⟩ := hd p q
  rw [n] at ho; cases ho
theorem fr_rp {G : List Addr} {H H' : Hp} {p : Addr} {x : Rat} (hd : Dom G H) (n : H p = none) (h : H' p = some (.tup (frV (nd x)))) : Rp (hid G H') (.ref p) (frD x) :=
  .tup (by rw [hid_out (no_of_dom hd n)]; exact h) (.cons (.int _) (.cons (.int _) .nil))
theorem Cal.imp {P : Program} {w : World} {K : PySem.W.Frag} {mg : Str → Option Value} {base : Heap} {k : Nat} {x : Str} {sp sp' : Sp} {dvs : List V} (c : Cal P w K mg base k x sp dvs) (h : ∀ vs H Q E, sp' vs H Q E → sp vs H Q E) : Cal P w K mg base k x sp' dvs := by
  obtain ⟨f, fd, ps, ds, F, q⟩ := c.ex
  exact ⟨f, fd, ps, ds, ⟨fun vs H Q E z => F.len vs H Q E (h _ _ _ _ z), fun A st s H args us vs Q E r e b v z => F.run A st s H args us vs Q E r e b v (h _ _ _ _ z)⟩, q⟩
theorem CalX.imp {P : Program} {w : World} {K : PySem.W.Frag} {mg : Str → Option Value} {base : Heap} {k : Nat} {x : Str} {sp sp' : Sp} (c : CalX P w K mg base k x sp) (h : ∀ vs H Q E, sp' vs H Q E → sp vs H Q E) : CalX P w K mg base k x sp' := by
  obtain ⟨f, fd, ps, F, q⟩ := c.ex
  exact ⟨f, fd, ps, ⟨fun vs H Q E z => F.len vs H Q E (h _ _ _ _ z), fun A st s H args us vs Q E r e b v z => F.run A st s H args us vs Q E r e b v (h _ _ _ _ z)⟩, q⟩
/-- the lowest form -/
def W_lowest : WpD := fun ds C => ∃ a b : Int, ds = [.int a, .int b] ∧ b ≠ 0 ∧ Sz 8000 b ∧ C (frD (Rat.divInt a b))
def W_two (f : Rat → Rat → Rat) : WpD := fun ds C => ∃ (x y : Rat) (n m : Nat), ds = [frD x, frD y] ∧ RSz n x ∧ RSz m y ∧ n + m ≤ 8000 ∧ C (frD (f x y))
theorem ad_lowest {K : PySem.W.Frag} {vs : List V} {H : Hp} {Q : VK} {E : XK} (h : spD W_lowest vs H Q E) : sp_lowest K vs H Q E := by
  obtain ⟨G, ds, C, hd, r, ⟨a, b, rfl, hb, hs, c⟩, k⟩ := h
  cases r with
  | cons r t => cases t with
    | cons r' t =>
      cases r; cases r'; cases t
      refine ⟨(a, b), rfl, hb, hs, fun H' p s hp n => k _ _ H' c (.of s) (fr_rp hd n ?_)⟩
      rw [hp, low_rat hb]; rfl
theorem OkQ.one_le {n : Nat} {q : Int × Int} (h : OkQ n q) : 1 ≤ n := by
  have h1 := h.b
  have h2 := h.pos
  unfold Sz at h1
  rcases n with _ | n
  · omega
  · omega
end My

namespace My
open PySem PySem.Spec PyProof.Rows L2
open C8 (Cal pe_c pe_gc)
/-! ### fields, methods, classes: single steps -/
abbrev rListOf (K : PySem.W.Frag) : List V → Hp → VK → Prop := fun xs H Q => ∃ p ys, xs = [.ref p] ∧ (SqL K H p ys ∨ SqT K H p ys) ∧ ∀ l, H l = none → Q (.ref l) (upd H l (.lst ys))
def tyN : Dat → Option String
  | .non => some "NoneType"
  | .bl _ => some "bool"
  | .int _ => some "int"
  | .str _ => some "str"
  | .lst _ => some "list"
  | .tup _ => some "tuple"
  | _ => none
theorem rp_tyX {K : PySem.W.Frag} {O : List Addr} {H : Hp} {v : V} {d : Dat} {a : String} (r : Rp (hid O H) v d) (h : tyN d = some a) : TyX K H v (.type a) := by
  cases r with
  | non => cases h; exact .base .non
  | bl b => cases h; exact .base (.bl b)
  | int i => cases h; exact .base (.int i)
  | str x => cases h; exact .base (.str x)
  | lst e r => cases h; exact .base (.lst (hid_some e).2)
  | tup e r => cases h; exact .base (.tup (hid_some e).2)
  | ins _ _ _ => cases h
  | exc0 _ => cases h
  | exc1 _ _ _ => cases h
section
variable {z : Cz} {g : List Sl} {m n nk : Nat} {C : Nat → Dat → Prop} {CL : Nat → List Dat → Prop} {t tk : TA} {ta to : TE} {tm : List Pk} {E : L2.St → XK} {K : PySem.W.Frag}
theorem XE.isTy {n : String} (h : XE z ta g m fun m1 d => ∃ a b, tyN d = some a ∧ kitB a n = some b ∧ C m1 (.bl b)) : XE z (tCB (rIsi K) (tCons ta (tCons (tC (.ty n)) tNil))) g m C := fun O σ H R Q k =>
  h O σ H R _ fun m1 d v H1 ⟨a, b, e, kb, c⟩ R1 l1 q1 => ⟨v, .ty n, .type a, .type n, b, rfl, .ty n, rp_tyX q1 e, kit_ty kb, k m1 _ _ H1 c R1 l1 (.bl b)⟩
theorem XE.isC {Ca : Addr} (h : XE z ta g m fun m1 d => ∃ fs, d = .ins Ca fs ∧ C m1 (.bl true)) : XE z (tCB (fun xs H Q => ∃ a dx fs, xs = [.ref a, .ref Ca] ∧ H a = some (.ins Ca dx fs) ∧ Q (.bl true) H) (tCons ta (tCons (tC (.ref Ca)) tNil))) g m C := fun O σ H R Q k =>
  h O σ H R _ fun m1 d v H1 ⟨fs, e, c⟩ R1 l1 q1 => by
    subst e
    obtain ⟨a, dx, gs, rfl, ha⟩ := ins_at q1
    exact ⟨a, dx, gs, rfl, ha, k m1 _ _ H1 c R1 l1 (.bl true)⟩
theorem XE.kmX0 {W : WpX} {Ca : Addr} {x : Str} (ok : tm.all (pkOk n nk) = true) (h : XE z to g m fun m0 d0 => IsIns Ca x d0 ∧ XA z t g m0 fun m1 ds => XA z tk g m1 fun m2 es => ds.length + 1 = n ∧ es.length = nk ∧ W (pickD tm (d0 :: ds) es) (C m2) fun _ => False) : XE z (tKm Ca x (spX W) n nk tm E to t tk) g m C :=
  XE.kmX (X := fun _ _ => False) ok (fun _ _ _ _ _ _ _ x _ _ => x.elim) h
theorem XE.kcX0 {W : WpX} (ok : tm.all (pkOk n nk) = true) (h : XA z t g m fun m1 ds => XA z tk g m1 fun m2 es => ds.length = n ∧ es.length = nk ∧ W (pickD tm ds es) (C m2) fun _ => False) : XE z (tKc (spX W) n nk tm E t tk) g m C :=
  XE.kcX (X := fun _ _ => False) ok (fun _ _ _ _ _ _ _ x _ _ => x.elim) h
theorem XS.rai {F : Hp → Prop} {D : DE} (h : ∀ O σ H, Real z O g m σ H → F H) : XS z (fun _ _ H => F H) g m D := fun O σ H R _ _ => h O σ H R
/-- a compare with an own list -/
theorem XE.neDO {i : Nat} {ds : List Dat} (hg : g[i]? = some (.ow ds)) (h : XE z ta g m fun m1 d1 => Cmp d1 ∧ Cmp (.lst ds) ∧ C m1 (.bl (!eqD d1 (.lst ds)))) : XE z (tOp (rNeD K) ta (tVar i)) g m C := fun O σ H R Q k =>
  h O σ H R _ fun m1 d1 x H1 ⟨c1, c2, c⟩ R1 l1 q1 => by
    obtain ⟨p, vs, e, po, pG, hp, q⟩ := R1.sl i _ hg
    exact ⟨_, e, toP d1, toP (.lst ds), q1.dp c1.p, .lst (SqL.of hp) (q.dp (by simpa [plain] using c2.p)), c1.s, c2.s, k m1 _ _ H1 c R1 l1 (.bl _)⟩
theorem XE.eqDO {i : Nat} {ds : List Dat} (hg : g[i]? = some (.ow ds)) (h : XE z ta g m fun m1 d1 => Cmp d1 ∧ Cmp (.lst ds) ∧ C m1 (.bl (eqD d1 (.lst ds)))) : XE z (tOp (rEqD K) ta (tVar i)) g m C := fun O σ H R Q k =>
  h O σ H R _ fun m1 d1 x H1 ⟨c1, c2, c⟩ R1 l1 q1 => by
    obtain ⟨p, vs, e, po, pG, hp, q⟩ := R1.sl i _ hg
    exact ⟨_, e, toP d1, toP (.lst ds), q1.dp c1.p, .lst (SqL.of hp) (q.dp (by simpa [plain] using c2.p)), c1.s, c2.s, k m1 _ _ H1 c R1 l1 (.bl _)⟩
end
theorem go_fld {Ca : Addr} {gs : List (Str × Dat)} {f : Str} {x : Dat} {q : Dat → Prop} (h : gs.lookup f = some x) (c : q x) : ∃ fs y, Dat.ins Ca gs = .ins Ca fs ∧ fs.lookup f = some y ∧ q y := ⟨gs, x, rfl, h, c⟩
theorem go_ins {Ca : Addr} {gs : List (Str × Dat)} {x : Str} {q : Prop} (h1 : cachF x = false) (h2 : gs.lookup x = none) (c : q) : IsIns Ca x (.ins Ca gs) ∧ q := ⟨⟨gs, rfl, h1, h2⟩, c⟩
theorem go_kc {a b n k : Nat} {q : Prop} (h1 : a = n) (h2 : b = k) (c : q) : a = n ∧ b = k ∧ q := ⟨h1, h2, c⟩
theorem go_isC {Ca : Addr} {gs : List (Str × Dat)} {q : Prop} (c : q) : ∃ fs, Dat.ins Ca gs = .ins Ca fs ∧ q := ⟨gs, rfl, c⟩
theorem go_isTy {d : Dat} {n a : String} {b : Bool} {q : Bool → Prop} (h1 : tyN d = some a) (h2 : kitB a n = some b) (c : q b) : ∃ a b, tyN d = some a ∧ kitB a n = some b ∧ q b := ⟨a, b, h1, h2, c⟩
theorem kb_int_int : kitB "int" "int" = some true := by decide +kernel
theorem kb_int_bool : kitB "int" "bool" = some false := by decide +kernel
theorem kb_bool_int : kitB "bool" "int" = some true := by decide +kernel
theorem kb_bool_bool : kitB "bool" "bool" = some true := by decide +kernel
theorem kb_str_str : kitB "str" "str" = some true := by decide +kernel
theorem kb_list_list : kitB "list" "list" = some true := by decide +kernel
theorem kb_tuple_tuple : kitB "tuple" "tuple" = some true := by decide +kernel
theorem kb_tuple_list : kitB "tuple" "list" = some false := by decide +kernel
theorem kb_list_tuple : kitB "list" "tuple" = some false := by decide +kernel
theorem kb_NoneType_list : kitB "NoneType" "list" = some false := by decide +kernel
theorem kb_NoneType_int : kitB "NoneType" "int" = some false := by decide +kernel
theorem kb_str_int : kitB "str" "int" = some false := by decide +kernel
theorem kb_int_list : kitB "int" "list" = some false := by decide +kernel
theorem kb_int_tuple : kitB "int" "tuple" = some false := by decide +kernel
theorem kb_NoneType_tuple : kitB "NoneType" "tuple" = some false := by decide +kernel
theorem kb_list_int : kitB "list" "int" = some false := by decide +kernel
theorem kb_tuple_int : kitB "tuple" "int" = some false := by decide +kernel
theorem kb_str_bool : kitB "str" "bool" = some false := by decide +kernel
end My

/-! ### == and != between an object with its own __eq__ and anything; bool(o), str(o), o in a list -/
namespace My
open PySem PySem.Spec PyProof.Rows L2
/-- what type a value has: data's, or an own class -/
inductive TyV (H : Hp) : V → Value → Prop
  | non : TyV H .non (.type "NoneType")
  | bl (b : Bool) : TyV H (.bl b) (.type "bool")
  | int (i : Int) : TyV H (.int i) (.type "int")
  | str (x : Str) : TyV H (.str x) (.type "str")
  | lst {a : Addr} {xs : List V} : H a = some (.lst xs) → TyV H (.ref a) (.type "list")
  | tup {a : Addr} {xs : List V} : H a = some (.tup xs) → TyV H (.ref a) (.type "tuple")
  | ins {a C dx : Addr} {fs : List (Str × V)} : H a = some (.ins C dx fs) → TyV H (.ref a) (.ref C)
section
variable {X : Cx} {n j : Nat} {C f : Addr} {fd : FuncData} {ps : List Str} {sp : Sp} {E : XK} {CX : CXT} {pins : List (Addr × Obj)} {σ : L2.St} {H : Hp} {s : Shared} {Q : VK} {A : Around}
theorem TyV.looks {x : V} {u t : Value} (I : Inv X pins σ H s) (r : RelV x u) (h : TyV H x t) : PySem.W.Looks (model X.prog X.w) s.heap (typeOf u) t := by
  cases h with
  | non => cases (show u = Value.none from r); exact PySem.W.Looks.of_pure rfl
  | bl b => cases (show u = Value.bool b from r); exact PySem.W.Looks.of_pure rfl
  | int i => obtain ⟨t, q⟩ := (show ∃ t, u = Value.int i t from r); cases q; exact PySem.W.Looks.of_pure rfl
  | str y => obtain ⟨t, q⟩ := (show ∃ t, u = Value.str y t from r); cases q; exact PySem.W.Looks.of_pure rfl
  | @lst a xs ea =>
    cases (show u = Value.ref a from r)
    obtain ⟨_, _, n, _, h1⟩ := (show ObjOk X.prog X.w H s.heap a (.lst xs) from I.hok a _ ea)
    exact (PySem.W.Looks.ld (part := none) h1).andThen .now
  | @tup a xs ea =>
    cases (show u = Value.ref a from r)
    obtain ⟨_, _, _, o, h1, h2, _⟩ := (show ObjOk X.prog X.w H s.heap a (.tup xs) from I.hok a _ ea)
    rw [← h2]
    exact (PySem.W.Looks.ld (part := none) h1).andThen .now
  | @ins a C dx fs ea =>
    cases (show u = Value.ref a from r)
    obtain ⟨mA, J, _⟩ := ins_get I.hok ea
    obtain ⟨od, J, _⟩ := J.look
    exact J.type
/-- a type that is none of C's -/
def NotF (K : PySem.W.Frag) (C : Addr) (t : Value) : Prop := PySem.W.notFirst K C t = true
theorem notF_self {K : PySem.W.Frag} : NotF K C (.ref C) := by simp [NotF, PySem.W.notFirst]
theorem notF_ref {K : PySem.W.Frag} {D : Addr} (h : PySem.W.subIn K (.ref D) (.ref C) = some false) : NotF K C (.ref D) := by
  unfold NotF PySem.W.notFirst; rw [h]; simp
theorem notF_ty {K : PySem.W.Frag} {T : String} {l : List String} (h : fastBuiltinMro T = some (l.map .type)) : NotF K C (.type T) := by
  have e : ∀ l : List String, (l.map Value.type).contains (.ref C) = false := fun l => by
    induction l with
    | nil => rfl
    | cons a l ih => rw [List.map_cons, List.contains_cons, ih]; rfl
  unfold NotF PySem.W.notFirst PySem.W.subIn
  show ((Value.type T == Value.ref C) || ((fastBuiltinMro T).map (·.contains (.ref C)) == some false)) = true
  rw [h, Option.map_some, e]; rfl
theorem mro_none : fastBuiltinMro "NoneType" = some (["NoneType", "object"].map .type) := by decide +kernel
theorem mro_int : fastBuiltinMro "int" = some (["int", "object"].map .type) := by decide +kernel
theorem mro_bool : fastBuiltinMro "bool" = some (["bool", "int", "object"].map .type) := by decide +kernel
theorem mro_str : fastBuiltinMro "str" = some (["str", "object"].map .type) := by decide +kernel
theorem mro_list : fastBuiltinMro "list" = some (["list", "object"].map .type) := by decide +kernel
theorem mro_tuple : fastBuiltinMro "tuple" = some (["tuple", "object"].map .type) := by decide +kernel
/-- x == y, x of a class with its own __eq__, y anything -/
def rEqL (K : PySem.W.Frag) (C : Addr) (sp : Sp) (E : XK) : R2 := fun x y H Q => ∃ a dx fs t, x = .ref a ∧ H a = some (.ins C dx fs) ∧ TyV H y t ∧ NotF K C t ∧ sp [x, y] H (fun v H' => ∃ k : Bool, v = .bl k ∧ Q (.bl k) H') E
theorem eqL_at (F : FnOk X.prog X.w X.K X.mg X.base CX n f fd ps sp) (hs : Spc X.K C f "__eq__") (hb : Binds X.K fd ps []) (hx : Passes CX X E) (sb : L2.Sub X n A) (I : Inv X pins σ H s) {x y : V} {v u : Value} (rx : RelV x v) (ry : RelV y u) {Q : VK} (h : rEqL X.K C sp E x y H Q) :
    wpAny (model X.prog X.w) A (richCompare .Eq v u) (fun v s' => ∃ (k : Bool) (H' : Hp), v = .bool k ∧ Inv X pins σ H' s' ∧ Q (.bl k) H') X.xe s := by
  obtain ⟨a, dx, fs, t, rfl, ha, ty, nf, h⟩ := h
  cases rx
  obtain ⟨mA, J, _⟩ := ins_get I.hok ha
  obtain ⟨od, J, _⟩ := J.look
  obtain ⟨m, hF⟩ := I.fr
  refine PySem.W.cmp_K (op := .Eq) (tb := t) sb.room.units0 hF I.ok.mod.kin J (ty.looks I ry) nf hs.at_ hs.fn (thn (run_at F hb hx sb I (vs := [.ref a, y]) (.cons rfl (.cons ry .nil)) h) fun v s1 ⟨y, H1, I1, r1, k, e, q⟩ => ?_)
  subst e
  cases r1
  exact ⟨k, H1, rfl, I1, q⟩
theorem op_eqL (F : FnOk X.prog X.w X.K X.mg X.base CX n f fd ps sp) (hs : Spc X.K C f "__eq__") (hb : Binds X.K fd ps []) (hx : Passes CX X E) (hr : Room j X.A) (hk : n ≤ j) : OpR X (compareOp .Eq) (rEqL X.K C sp E) := by
  intro pins s σ H x y v u Q I rx ry h
  show wpAny (model X.prog X.w) X.A (richCompare .Eq v u) (EP X pins σ Q) X.xe s
  exact thn (eqL_at F hs hb hx ⟨hr.mono hk, rfl⟩ I rx ry h) fun v s1 ⟨k, H1, e, I1, q⟩ => by subst e; exact ⟨.bl k, H1, I1, rfl, q⟩
theorem OpR.or {g : Value → Value → Sem Value} {r r' : R2} (h : OpR X g r) (h' : OpR X g r') : OpR X g (fun x y H Q => r x y H Q ∨ r' x y H Q) := fun pins s σ H x y v u Q I rx ry q => by
  rcases q with q | q
  · exact h pins s σ H x y v u Q I rx ry q
  · exact h' pins s σ H x y v u Q I rx ry q
/-! != -/
section
variable {h : Heap} {g : Array GenState} {d : Drawn} {t : Nat} {os : OsState} {x : Addr} {B : String} {bm : List Value} {y tb : Value}
open Builtin in
theorem objNe_any (X' : h.OwnEqNoNe x C f B bm) (hu : A.units < cLine) {E : Value → Shared → Prop} {Q : Fin → Shared → Prop}
    (hcall : wpAny (model X.prog X.w) A (call (.ref f) [.ref x, y]) (fun v s' => ∃ b, v = .bool b ∧ Q (.done (.ret (.bool (!b)))) s') E ⟨h, g, d, t, os⟩) :
    wpAny (model X.prog X.w) A (Builtin.«object.__ne__» ⟨[.ref x, y], []⟩) Q E ⟨h, g, d, t, os⟩ := by
  unfold Builtin.«object.__ne__»
  repeat (first
    | with_reducible refine wpAny_cRoomFor hu ?_
    | (refine wpAny_bind (m := callSpecialIfBound? (.ref x) (Str.ofString "__eq__") [y])
        (wpAny_callSpecialIfBound?_own X'.ownEq (wpAny_mono hcall (fun r s' hr => by
          obtain ⟨b, rfl, hq⟩ := hr
          repeat (first | exact hq | exact wpAny_pure hq | exact wpAny_truthy_bool hq | (refine wpAny_bind (m := truthy (.bool _)) (wpAny_truthy_bool ?_)) | wp_step)) fun _ _ e => e)))
    | wp_step)
theorem tryNe_any (FB : CmpFacts B bm) (X' : h.OwnEqNoNe x C f B bm) (hu : A.units + 1 < cLine) {E : Value → Shared → Prop} {Q : Option Value → Shared → Prop}
    (hcall : wpAny (model X.prog X.w) A.in1 (call (.ref f) [.ref x, y]) (fun v s' => ∃ b, v = .bool b ∧ Q (some (.bool (!b))) s') E ⟨h, g, d, t, os⟩) :
    wpAny (model X.prog X.w) A (tryCompare (.ref x) "__ne__" y) Q E ⟨h, g, d, t, os⟩ := by
  obtain ⟨o, of, nm, q, N, bs, hdct, sn, sub, ab, col, dd, k0, k1, k2, k3, k5, newId, mN, yv, hx, hc, hC, hn, _, _, _, _, _, hne⟩ := id X'
  simp only [tryCompare]
  refine wpAny_bind (wpAny_callSpecialIfBound?_inst hx hc hC hn hne FB.mro FB.ne (wpAny_call (codeAny_call_builtin FB.ne.plain F.cmpEntry_ne
    (wpAny_check_slot_inst F.cmpKind_ne F.cmpSplit_ne (F.cmpArgs_ne _ _) FB.hasObject hx hc hC
      (objNe_any (A := A.in1) X' hu (wpAny_mono hcall (fun v s' hv => ?_) fun _ _ e => e))))))
  obtain ⟨b, rfl, hq⟩ := hv
  first | exact ⟨b, rfl, wpAny_pure hq⟩ | exact ⟨b, rfl, wpAny_pure (wpAny_pure hq)⟩ | exact ⟨b, rfl, hq⟩
theorem rcNe_any {K : PySem.W.Frag} (FB : CmpFacts B bm) (X' : h.OwnEqNoNe x C f B bm) (XK : K.In h) (hb : PySem.W.Looks (model X.prog X.w) h (typeOf y) tb) (nf : NotF K C tb) (hu : A.units + 1 < cLine) {E : Value → Shared → Prop} {Q : Value → Shared → Prop}
    (hcall : wpAny (model X.prog X.w) A.in1 (call (.ref f) [.ref x, y]) (fun v s' => ∃ b, v = .bool b ∧ Q (.bool (!b)) s') E ⟨h, g, d, t, os⟩) :
    wpAny (model X.prog X.w) A (richCompare .NotEq (.ref x) y) Q E ⟨h, g, d, t, os⟩ := by
  have X2 := X'
  obtain ⟨o, of, nm, q, N, bs, hdct, sn, sub, ab, col, dd, k0, k1, k2, k3, k5, newId, mN, yv, hx, hc, _⟩ := X2
  have one : wpAny (model X.prog X.w) A (tryCompare (.ref x) "__ne__" y) (fun r s' => ∃ v, r = some v ∧ Q v s') E ⟨h, g, d, t, os⟩ := tryNe_any FB X' hu (wpAny_mono hcall (fun v s' ⟨b, e, hq⟩ => ⟨b, e, _, rfl, hq⟩) fun _ _ e => e)
  unfold richCompare
  simp only [oneThing_ref]
  refine wpAny_holding ?_
  refine wpAny_bind (wpAny_cRoomFor (Nat.lt_of_succ_lt hu) ?_)
  rw [cmpInfo_NotEq]
  dsimp only
  refine wpAny_bind (wpAny_typeOf_ref hx ?_)
  rw [hc]
  refine wpAny_bind (hb.here ?_)
  split
  · rename_i q
    have e : PySem.W.subIn K tb (.ref C) = some false := by
      rcases Bool.or_eq_true_iff.mp (show (tb == Value.ref C || PySem.W.subIn K tb (.ref C) == some false) = true from nf) with e | e
      · rw [beq_iff_eq.mp e] at q; simp at q
      · exact beq_iff_eq.mp e
    refine wpAny_bind ((PySem.W.looks_subIn XK e).here ?_)
    simp only [Bool.false_eq_true, if_false]
    refine wpAny_bind (wpAny_mono one (fun r s' z => ?_) fun _ _ e => e)
    obtain ⟨v, rfl, hq⟩ := z
    exact wpAny_pure hq
  · refine wpAny_bind (wpAny_pure ?_)
    simp only [Bool.false_eq_true, if_false]
    refine wpAny_bind (wpAny_mono one (fun r s' z => ?_) fun _ _ e => e)
    obtain ⟨v, rfl, hq⟩ := z
    exact wpAny_pure hq
end
def rNeL (K : PySem.W.Frag) (C : Addr) (sp : Sp) (E : XK) : R2 := fun x y H Q => ∃ a dx fs t, x = .ref a ∧ H a = some (.ins C dx fs) ∧ TyV H y t ∧ NotF K C t ∧ sp [x, y] H (fun v H' => ∃ k : Bool, v = .bl k ∧ Q (.bl (!k)) H') E
theorem op_neL (F : FnOk X.prog X.w X.K X.mg X.base CX n f fd ps sp) (o : OwnE X.K C f) (hb : Binds X.K fd ps []) (hx : Passes CX X E) (hr : Room j X.A) (hk : n + 1 ≤ j) : OpR X (compareOp .NotEq) (rNeL X.K C sp E) := by
  intro pins s σ H x y v u Q I rx ry h
  obtain ⟨a, dx, fs, t, rfl, ha, ty, nf, h⟩ := h
  cases rx
  obtain ⟨mA, J, _⟩ := ins_get I.hok ha
  obtain ⟨od, J, _⟩ := J.look
  have L := ty.looks I ry
  have sb : L2.Sub X n X.A.in1 := L2.Sub.in1 ⟨hr.mono hk, rfl⟩
  have hu : X.A.units + 1 < cLine := (L2.Sub.in1 (n := 0) ⟨hr.mono (by omega), rfl⟩ : L2.Sub X 0 X.A.in1).room.units0
  obtain ⟨hh, g, d, t, os⟩ := s
  show wpAny (model X.prog X.w) X.A (richCompare .NotEq (.ref a) u) (EP X pins σ Q) X.xe _
  refine rcNe_any PySem.F.cmp_object (o.ne I.kIn J.at_ J.cls) I.kIn L nf hu (thn (run_at F hb hx sb I (vs := [.ref a, y]) (.cons rfl (.cons ry .nil)) h) fun v s1 ⟨y, H1, I1, r1, k, e, q⟩ => ?_)
  subst e
  cases r1
  exact ⟨k, rfl, .bl (!k), H1, I1, rfl, q⟩
end
end My
namespace My
open PySem PySem.Spec PyProof.Rows L2
section
variable {prog : Program} {w : World} {A : Around} {E : Value → Shared → Prop} {s : Shared} {b dx C : Addr} {Q : Value → Shared → Prop}
open AutoSeq1 (wpAny_loadPart')
theorem dcl_none (h : Q .notImplemented s) : wpAny (model prog w) A (call (.builtin "NoneType.__eq__") [.none, .ref b]) Q E s := by
  refine GQ.call_here PySem.F.slot_NoneType_eq (by first | exact typeIs_none _ | rfl) PySem.F.entry_NoneType_eq (PySem.F.args_NoneType_eq_2 _ _) ?_
  obtain ⟨hp, g, d, tk, os⟩ := s
  wp_walk
  exact h
theorem dcl_int {i : Int} {t : Tok} (hb : s.heap.get? b = some (PySem.W.instObj C dx)) (h : Q .notImplemented s) : wpAny (model prog w) A (call (.builtin "int.__eq__") [.int i t, .ref b]) Q E s := by
  refine GQ.call_here PySem.F.slot_int_eq (typeIs_int _ _ _) PySem.F.entry_int_eq (PySem.F.args_int_eq_2 _ _) ?_
  obtain ⟨hp, g, d, tk, os⟩ := s
  have hb' : hp.get? b = some { cls := .ref C, dict := some dx, data := .plain } := hb
  wp_walk using wpAny_loadPart' hb'
  exact h
theorem dcl_bool {i : Bool} (hb : s.heap.get? b = some (PySem.W.instObj C dx)) (h : Q .notImplemented s) : wpAny (model prog w) A (call (.builtin "int.__eq__") [.bool i, .ref b]) Q E s := by
  refine GQ.call_here PySem.F.slot_bool_eq (PySem.typeIs_bool _ _) PySem.F.entry_int_eq (PySem.F.args_int_eq_2 _ _) ?_
  obtain ⟨hp, g, d, tk, os⟩ := s
  have hb' : hp.get? b = some { cls := .ref C, dict := some dx, data := .plain } := hb
  wp_walk using wpAny_loadPart' hb'
  exact h
theorem dcl_str {x : Str} {t : Tok} (hb : s.heap.get? b = some (PySem.W.instObj C dx)) (h : Q .notImplemented s) : wpAny (model prog w) A (call (.builtin "str.__eq__") [.str x t, .ref b]) Q E s := by
  refine GQ.call_here PySem.F.slot_str_eq (typeIs_str _ _ _) PySem.F.entry_str_eq (PySem.F.args_str_eq_2 _ _) ?_
  obtain ⟨hp, g, d, tk, os⟩ := s
  have hb' : hp.get? b = some { cls := .ref C, dict := some dx, data := .plain } := hb
  wp_walk using wpAny_loadPart' hb'
  exact h
theorem dcl_list {l : Addr} {o : Obj} (hl : s.heap.get? l = some o) (hc : o.cls = .type "list") (hb : PySem.W.Looks (model prog w) s.heap (isInstance (.ref b) (.type "list")) false) (h : Q .notImplemented s) : wpAny (model prog w) A (call (.builtin "list.__eq__") [.ref l, .ref b]) Q E s := by
  refine GQ.call_here PySem.F.slot_list_eq ⟨_, hl, hc⟩ PySem.F.entry_list_eq (PySem.F.args_list_eq_2 _ _) ?_
  obtain ⟨hp, g, d, tk, os⟩ := s
  wp_walk using hb.here
  exact h
theorem dcl_tup {l : Addr} {o : Obj} (hl : s.heap.get? l = some o) (hc : o.cls = .type "tuple") (hb : PySem.W.Looks (model prog w) s.heap (isInstance (.ref b) (.type "tuple")) false) (h : Q .notImplemented s) : wpAny (model prog w) A (call (.builtin "tuple.__eq__") [.ref l, .ref b]) Q E s := by
  refine GQ.call_here PySem.F.slot_tuple_eq ⟨_, hl, hc⟩ PySem.F.entry_tuple_eq (PySem.F.args_tuple_eq_2 _ _) ?_
  obtain ⟨hp, g, d, tk, os⟩ := s
  wp_walk using hb.here
  exact h
end
section
variable {X : Cx} {n j : Nat} {C f : Addr} {fd : FuncData} {ps : List Str} {sp : Sp} {E : XK} {CX : CXT} {pins : List (Addr × Obj)} {σ : L2.St} {H : Hp} {s : Shared} {A : Around}
/-- x == y, x of a builtin type, y of a class with its own __eq__ -/
def rEqR (K : PySem.W.Frag) (C : Addr) (sp : Sp) (E : XK) : R2 := fun x y H Q => ∃ a dx fs T, y = .ref a ∧ H a = some (.ins C dx fs) ∧ TyV H x (.type T) ∧ PySem.W.mroIn K C (.type T) = some false ∧ sp [y, x] H (fun v H' => ∃ k : Bool, v = .bl k ∧ Q (.bl k) H') E
theorem eqR_at (F : FnOk X.prog X.w X.K X.mg X.base CX n f fd ps sp) (hs : Spc X.K C f "__eq__") (hb : Binds X.K fd ps []) (hx : Passes CX X E) (sb : L2.Sub X n A) (I : Inv X pins σ H s) {x y : V} {v u : Value} (rx : RelV x v) (ry : RelV y u) {Q : VK} (h : rEqR X.K C sp E x y H Q) :
    wpAny (model X.prog X.w) A (richCompare .Eq v u) (fun v s' => ∃ (k : Bool) (H' : Hp), v = .bool k ∧ Inv X pins σ H' s' ∧ Q (.bl k) H') X.xe s := by
  obtain ⟨a, dx, fs, T, rfl, ha, ty, sub, h⟩ := h
  cases ry
  obtain ⟨mA, J, _⟩ := ins_get I.hok ha
  have hobj := J.obj
  obtain ⟨od, J, _⟩ := J.look
  have LB := J.type (M := model X.prog X.w)
  have LS : PySem.W.Looks (model X.prog X.w) s.heap (isSubtype (.ref C) (.type T)) false := PySem.W.looks_mroIn I.kIn sub
  have LI : PySem.W.Looks (model X.prog X.w) s.heap (isInstance (.ref a) (.type T)) false := LB.andThen LS
  have L := ty.looks I rx
  have ot : oneThing? .Eq v (.ref a) = none := by
    cases ty with
    | non => cases (show v = Value.none from rx); rfl
    | bl b => cases (show v = Value.bool b from rx); rfl
    | int i => obtain ⟨t, q⟩ := (show ∃ t, v = Value.int i t from rx); cases q; rfl
    | str y => obtain ⟨t, q⟩ := (show ∃ t, v = Value.str y t from rx); cases q; rfl
    | lst ea => cases (show v = Value.ref _ from rx); rfl
    | tup ea => cases (show v = Value.ref _ from rx); rfl
  have dec : ∀ {R : Option Value → Shared → Prop}, R none s → wpAny (model X.prog X.w) A (tryCompare v (cmpInfo .Eq).2.1 (.ref a)) R X.xe s := fun {R} q => by
    cases ty with
    | non => cases (show v = Value.none from rx); exact wpAny_tryCompare_declines (by first | exact typeIs_none _ | rfl) PySem.F.slot_NoneType_eq (dcl_none ⟨rfl, q⟩)
    | bl b => cases (show v = Value.bool b from rx); exact wpAny_tryCompare_declines (PySem.typeIs_bool _ _) PySem.F.slot_bool_eq (dcl_bool hobj ⟨rfl, q⟩)
    | int i => obtain ⟨t, z⟩ := (show ∃ t, v = Value.int i t from rx); cases z; exact wpAny_tryCompare_declines (typeIs_int _ _ _) PySem.F.slot_int_eq (dcl_int hobj ⟨rfl, q⟩)
    | str y => obtain ⟨t, z⟩ := (show ∃ t, v = Value.str y t from rx); cases z; exact wpAny_tryCompare_declines (typeIs_str _ _ _) PySem.F.slot_str_eq (dcl_str hobj ⟨rfl, q⟩)
    | @lst l xs ea =>
      cases (show v = Value.ref _ from rx)
      obtain ⟨_, _, n, _, h1⟩ := (show ObjOk X.prog X.w H s.heap l (.lst xs) from I.hok l _ ea)
      exact wpAny_tryCompare_declines ⟨_, h1, rfl⟩ PySem.F.slot_list_eq (dcl_list h1 rfl LI ⟨rfl, q⟩)
    | @tup l xs ea =>
      cases (show v = Value.ref _ from rx)
      obtain ⟨_, _, _, o, h1, h2, _⟩ := (show ObjOk X.prog X.w H s.heap l (.tup xs) from I.hok l _ ea)
      exact wpAny_tryCompare_declines ⟨_, h1, h2⟩ PySem.F.slot_tuple_eq (dcl_tup h1 h2 LI ⟨rfl, q⟩)
  have one : wpAny (model X.prog X.w) A (tryCompare (.ref a) (cmpInfo .Eq).2.2 v) (fun r s' => ∃ (k : Bool) (H' : Hp), r = some (.bool k) ∧ Inv X pins σ H' s' ∧ Q (.bl k) H') X.xe s := by
    unfold tryCompare
    refine wpAny_bind (PySem.W.ifBound_K I.kIn J hs.at_ hs.fn (thn (run_at F hb hx sb I (vs := [.ref a, x]) (.cons rfl (.cons rx .nil)) h) fun v s1 ⟨y, H1, I1, r1, k, e, q⟩ => ?_))
    subst e
    cases r1
    exact wpAny_pure ⟨k, H1, rfl, I1, q⟩
  unfold richCompare
  simp only [ot]
  refine wpAny_holding (wpAny_bind (wpAny_cRoomFor sb.room.units0 ?_))
  refine wpAny_bind (L.here (wpAny_bind (LB.here ?_)))
  rw [if_pos (show (Value.type T != Value.ref C) = true from rfl)]
  refine wpAny_bind (LS.here ?_)
  simp only [Bool.false_eq_true, if_false, Bool.not_false, if_true]
  refine wpAny_bind (dec (wpAny_bind (wpAny_mono one (fun r s' z => ?_) fun _ _ e => e)))
  obtain ⟨k, H', rfl, I', q⟩ := z
  exact wpAny_pure ⟨k, H', rfl, I', q⟩
theorem op_eqR (F : FnOk X.prog X.w X.K X.mg X.base CX n f fd ps sp) (hs : Spc X.K C f "__eq__") (hb : Binds X.K fd ps []) (hx : Passes CX X E) (hr : Room j X.A) (hk : n ≤ j) : OpR X (compareOp .Eq) (rEqR X.K C sp E) := by
  intro pins s σ H x y v u Q I rx ry h
  show wpAny (model X.prog X.w) X.A (richCompare .Eq v u) (EP X pins σ Q) X.xe s
  exact thn (eqR_at F hs hb hx ⟨hr.mono hk, rfl⟩ I rx ry h) fun v s1 ⟨k, H1, e, I1, q⟩ => by subst e; exact ⟨.bl k, H1, I1, rfl, q⟩
end
end My

/-! ### truth, bool(o), str(o) by the class's own defs; isinstance of anything; o in a list by own == -/
namespace My
open PySem PySem.Spec PyProof.Rows L2
section
variable {prog : Program} {w : World} {A : Around} {E : Value → Shared → Prop} {s : Shared} {K : PySem.W.Frag} {x C f : Addr} {ox : Obj} {od : Option Obj}
def TruBack (Q : Bool → Shared → Prop) (v : Value) (s' : Shared) : Prop := match v with
  | .int n _ => (0 ≤ n ∧ n < 2 ^ 63) ∧ Q (n != 0) { s' with toks := s'.toks + 1 }
  | _ => False
open PySem.W PySem.Calls PySem.Builtin in
theorem truthy_len {Q : Bool → Shared → Prop} (X : K.In s.heap) (I : InstAt s.heap x ox C od) (hb : findIn K (.ref C) "__bool__" = some none) (hs : findIn K (.ref C) "__len__" = some (some (.ref f))) (hf : isFn K (.ref f) = true)
    (h : wpAny (model prog w) A.in1 (call (.ref f) [.ref x]) (TruBack Q) E s) : wpAny (model prog w) A (truthy (.ref x)) Q E s := by
  unfold truthy
  refine wpAny_bind (m := callSpecial? (.ref x) (Str.ofString "__bool__")) (wpAny_bind (wpAny_bind (I.type.here ((looks_findIn X hb).here (wpAny_pure ?_)))))
  refine wpAny_bind (wpAny_bind (I.type.here ((looks_findIn X hs).here ?_)))
  have key : wpAny (model prog w) A (runValue (.builtin "len" ⟨[.ref x], []⟩)) (fun r s' => ∃ n t, r = .int n t ∧ Q (n != 0) s') E s := by
    refine wpAny_runValue (codeAny_builtin entry_len ?_)
    rw [Around.under_plainId plain_len _]
    unfold Builtin.«len»
    refine wpAny_bind (m := oneArg "len" _) (wpAny_pure ?_)
    refine wpAny_bind (m := callSpecial? (.ref x) (Str.ofString "__len__")) (special_fn X I hs (beq_iff_eq.mp hf) (wpAny_mono h (fun r s' hr => ?_) fun _ _ y => y))
    cases r <;> first | exact hr.elim | skip
    rename_i n u
    obtain ⟨⟨h0, h1⟩, hq⟩ := hr
    refine wpAny_bind (wpAny_holding (wpAny_pure ?_))
    refine wpAny_bind (wpAny_letGo ?_)
    show wpAny _ _ (if n < 0 then _ else _) _ _ _
    rw [if_neg (by omega)]
    show wpAny _ _ (if n ≥ 2 ^ 63 then _ else _) _ _ _
    rw [if_neg (by omega)]
    exact wpAny_bind (wpAny_mkInt (wpAny_pure ⟨_, _, rfl, hq⟩))
  show wpAny _ _ (if (some (Value.ref f)).isNone = true then _ else _) _ _ _
  rw [if_neg (by simp)]
  refine wpAny_bind (wpAny_mono key (fun r s' h' => ?_) fun _ _ e => e)
  obtain ⟨n, t, rfl, hq⟩ := h'
  exact wpAny_pure hq
open PySem.W PySem.Calls PySem.Builtin in
theorem call_bool_own {Q : Value → Shared → Prop} (h : wpAny (model prog w) A.in1.in1 (truthy (.ref x)) (fun b s' => Q (.bool b) s') E s) : wpAny (model prog w) A (call (.type "bool") [.ref x]) Q E s := by
  refine callType_codes (T := "bool") (Bi := Builtin.«object.__init__») (Q₁ := fun r s₁ => ∃ b, r = .bool b ∧ Q r s₁) PySem.F.called_bool (PySem.F.typeCall_bool_1 _) PySem.F.entry_object_init ?_ ?_
  · refine codeAny_of_tree ?_
    show wpAny _ A.in1.in1 (do checkBuiltinCall "bool.__new__" ⟨[.type "bool", .ref x], []⟩; again (.builtin "bool.__new__" ⟨[.type "bool", .ref x], []⟩)) _ _ s
    refine wpAny_bind (wpAny_of_eq (PySem.F.newCall_bool_1 _) (wpAny_pure ⟨plainId_quiet (by decide +kernel) _, codeAny_builtin PySem.F.entry_bool_new ?_⟩))
    rw [Around.under_plainId (by decide +kernel) _]
    have f1 := PySem.F.conv_sub_bool
    obtain ⟨hp, g, d, tk, os⟩ := s
    repeat (any_goals (first | assumption | (with_reducible refine wpAny_bind (m := truthy (.ref x)) (wpAny_mono h (fun b s' hq => ?_) fun _ _ e => e)) | wp_step))
    all_goals exact ⟨_, rfl, hq⟩
  · rintro obj s₁ ⟨b, rfl, hq⟩
    exact ⟨PySem.typeIs_bool _ _, PySem.F.args_object_init_2 _ _, object_init_meets PySem.F.called_bool.init.lookup PySem.F.called_bool.made (by decide) prog w A.in1 _ s₁ ⟨PySem.typeIs_bool _ _, rfl, hq⟩⟩
/-! in -/
open MeetsSeq MeetsSeq2 MeetsSeq3 SeqRoads2 PySem.SeqAt in
open AutoSeq1 (wpAny_loadPart') in
theorem contains_loopG {R : Result → Shared → Prop} (l : Addr) (y : Value) (N : Nat) (I : Nat → Shared → Prop) (k : Nat → Bool)
    (hl : ∀ i s, I i s → ∃ (items : Array Value) (n : Nat), s.heap.get? l = some { cls := .type "list", data := .seq items n } ∧ items.size = N ∧ ∀ (h : i < items.size), wpAny (model prog w) A.in1 (eqBool items[i] y) (fun r s' => if r = true then R (.ok (.ret (.bool true))) s' else I (i + 1) s') (fun e s' => R (.error e) s') s)
    (fin : ∀ s, I N s → R (.ok (.ret (.bool false))) s) (q : Nat) :
    ∀ i : Nat, N - i = q → i ≤ N → ∀ s, I i s → wpAny (model prog w) A.in1 (Builtin.«list.__contains__.loop» ⟨[.ref l, y, rawInt i], []⟩) (GQ.FinOf prog w A R) (fun e s' => R (.error e) s') s := by
  induction q with
  | zero =>
    intro i hk hi s h
    obtain ⟨items, n, hl1, hs1, _⟩ := hl _ _ h
    have hi' : i = N := by omega
    have hR := fin s (hi' ▸ h)
    obtain ⟨hp, g, d, tk, os⟩ := s
    wp_walk using wpAny_loadPart' hl1
    have hi1 : items[((i : Nat) : Int).toNat]? = none := by simp; omega
    rw [hi1]
    wp_walk
    exact hR
  | succ q ih =>
    intro i hk hi s h
    obtain ⟨items, n, hl1, hs1, turn⟩ := hl _ _ h
    have hlt : i < items.size := by omega
    have ht := turn hlt
    obtain ⟨hp, g, d, tk, os⟩ := s
    wp_walk using wpAny_loadPart' hl1
    have hi1 : items[((i : Nat) : Int).toNat]? = some items[i] := by simp [hlt]
    have hc : ((i : Int) + 1) = ((i + 1 : Nat) : Int) := by omega
    rw [hi1]
    refine wpAny_bind (wpAny_mono ht (fun r s2 h2 => ?_) fun _ _ x => x)
    cases r with
    | true =>
      rw [if_pos rfl] at h2
      obtain ⟨hp2, g2, d2, tk2, os2⟩ := s2
      wp_walk
      exact h2
    | false =>
      rw [if_neg Bool.false_ne_true] at h2
      have hrec := ih (i + 1) (by omega) (by omega) s2 h2
      obtain ⟨hp2, g2, d2, tk2, os2⟩ := s2
      wp_walk
      rw [hc]
      exact ⟨plainId_quiet plain_contains_loop _, codeAny_builtin entry_contains_loop (by
        rw [Around.under_plainId plain_contains_loop _]
        exact hrec)⟩
end
section
variable {X : Cx} {n j : Nat} {C f : Addr} {fd : FuncData} {ps : List Str} {sp : Sp} {E : XK} {CX : CXT} {pins : List (Addr × Obj)} {σ : L2.St} {H : Hp} {s : Shared} {A : Around}
/-- truth by __len__ -/
theorem truthy_at (F : FnOk X.prog X.w X.K X.mg X.base CX n f fd ps sp) (hs : Spc X.K C f "__len__") (nb : PySem.W.findIn X.K (.ref C) "__bool__" = some none) (hb : Binds X.K fd ps []) (hx : Passes CX X E) (sb : L2.Sub X (n + 1) A) (I : Inv X pins σ H s) {a dx : Addr} {fs : List (Str × V)} (ha : H a = some (.ins C dx fs))
    {Q : Bool → Hp → Prop} (h : sp [.ref a] H (fun v H' => ∃ k : Int, v = .int k ∧ 0 ≤ k ∧ k < 2 ^ 63 ∧ Q (k != 0) H') E) : wpAny (model X.prog X.w) A (truthy (.ref a)) (fun b s' => ∃ H', Inv X pins σ H' s' ∧ Q b H') X.xe s := by
  obtain ⟨mA, J, _⟩ := ins_get I.hok ha
  obtain ⟨od, J, _⟩ := J.look
  refine truthy_len I.kIn J nb hs.at_ hs.fn (thn (run_at F hb hx (L2.Sub.in1 sb) I (vs := [.ref a]) (.cons rfl .nil) h) fun v s1 ⟨y, H1, I1, r1, k, e, h0, h1, q⟩ => ?_)
  subst e
  obtain ⟨t, rfl⟩ := r1
  exact ⟨⟨h0, h1⟩, H1, I1.tok _, q⟩
def rTruO (C : Addr) (sp : Sp) (E : XK) : V → Hp → (Bool → Hp → Prop) → Prop := fun x H Q => ∃ a dx fs, x = .ref a ∧ H a = some (.ins C dx fs) ∧ sp [.ref a] H (fun v H' => ∃ k : Int, v = .int k ∧ 0 ≤ k ∧ k < 2 ^ 63 ∧ Q (k != 0) H') E
def rBoolO (C : Addr) (sp : Sp) (E : XK) : List V → Hp → VK → Prop := fun xs H Q => ∃ a dx fs, xs = [.ref a] ∧ H a = some (.ins C dx fs) ∧ sp [.ref a] H (fun v H' => ∃ k : Int, v = .int k ∧ 0 ≤ k ∧ k < 2 ^ 63 ∧ Q (.bl (k != 0)) H') E
theorem tru_lenO (F : FnOk X.prog X.w X.K X.mg X.base CX n f fd ps sp) (hs : Spc X.K C f "__len__") (nb : PySem.W.findIn X.K (.ref C) "__bool__" = some none) (hb : Binds X.K fd ps []) (hx : Passes CX X E) (hr : Room j X.A) (hk : n + 1 ≤ j) : TruR X (rTruO C sp E) := by
  intro pins s σ H x v Q I rx h
  obtain ⟨a, dx, fs, rfl, ha, h⟩ := h
  cases rx
  exact thn (truthy_at F hs nb hb hx ⟨hr.mono hk, rfl⟩ I ha h) fun b s1 ⟨H1, I1, q⟩ => ⟨H1, I1, q⟩
theorem call_boolO (F : FnOk X.prog X.w X.K X.mg X.base CX n f fd ps sp) (hs : Spc X.K C f "__len__") (nb : PySem.W.findIn X.K (.ref C) "__bool__" = some none) (hb : Binds X.K fd ps []) (hx : Passes CX X E) (hr : Room j X.A) (hk : n + 3 ≤ j) : CallR X (.type "bool") (rBoolO C sp E) := by
  intro pins s σ H xs us Q I r h
  obtain ⟨a, dx, fs, rfl, ha, h⟩ := h
  obtain ⟨u, rfl, rx⟩ := vals1 r
  cases rx
  have sb : L2.Sub X (n + 1) X.A.in1.in1 := L2.Sub.in1 (L2.Sub.in1 ⟨hr.mono hk, rfl⟩)
  exact call_bool_own (thn (truthy_at F hs nb hb hx sb I ha h) fun b s1 ⟨H1, I1, q⟩ => ⟨.bl b, H1, I1, rfl, q⟩)
def rStrO (C : Addr) (sp : Sp) (E : XK) : List V → Hp → VK → Prop := fun xs H Q => ∃ a dx fs, xs = [.ref a] ∧ H a = some (.ins C dx fs) ∧ sp [.ref a] H (fun v H' => ∃ k : Str, v = .str k ∧ Q (.str k) H') E
theorem call_strO (F : FnOk X.prog X.w X.K X.mg X.base CX n f fd ps sp) (hs : Spc X.K C f "__str__") (hb : Binds X.K fd ps []) (hx : Passes CX X E) (hr : Room j X.A) (hk : n + 2 ≤ j) : CallR X (.type "str") (rStrO C sp E) := by
  intro pins s σ H xs us Q I r h
  obtain ⟨a, dx, fs, rfl, ha, h⟩ := h
  obtain ⟨u, rfl, rx⟩ := vals1 r
  cases rx
  obtain ⟨mA, J, _⟩ := ins_get I.hok ha
  obtain ⟨od, J, _⟩ := J.look
  have sb : L2.Sub X n X.A.in1.in1 := L2.Sub.in1 (L2.Sub.in1 ⟨hr.mono hk, rfl⟩)
  refine PySem.W.kso_call sb.room.units0 I.kIn J hs.at_ hs.fn (thn (run_at F hb hx sb I (vs := [.ref a]) (.cons rfl .nil) h) fun v s1 ⟨y, H1, I1, r1, k, e, q⟩ => ?_)
  subst e
  obtain ⟨t, rfl⟩ := r1
  exact ⟨.str k, H1, I1, ⟨_, rfl⟩, q⟩
/-! == inside a builtin, and in -/
/-- r is what == tells -/
def RcR (X : Cx) (n : Nat) (r : R2) : Prop := ∀ (A : Around) (pins : List (Addr × Obj)) (σ : L2.St) (H : Hp) (s : Shared) (x y : V) (v u : Value) (Q : VK), L2.Sub X n A → Inv X pins σ H s → RelV x v → RelV y u → r x y H Q →
  wpAny (model X.prog X.w) A (richCompare .Eq v u) (fun v s' => ∃ (k : Bool) (H' : Hp), v = .bool k ∧ Inv X pins σ H' s' ∧ Q (.bl k) H') X.xe s
theorem RcR.or {r r' : R2} (h : RcR X n r) (h' : RcR X n r') : RcR X n (fun x y H Q => r x y H Q ∨ r' x y H Q) := fun A pins σ H s x y v u Q sb I rx ry q => by
  rcases q with q | q
  · exact h A pins σ H s x y v u Q sb I rx ry q
  · exact h' A pins σ H s x y v u Q sb I rx ry q
theorem RcR.mono {r : R2} (h : RcR X n r) {m : Nat} (k : n ≤ m) : RcR X m r := fun A pins σ H s x y v u Q sb => h A pins σ H s x y v u Q (sb.mono k)
theorem rc_eqL (F : FnOk X.prog X.w X.K X.mg X.base CX n f fd ps sp) (hs : Spc X.K C f "__eq__") (hb : Binds X.K fd ps []) (hx : Passes CX X E) : RcR X n (rEqL X.K C sp E) := fun A pins σ H s x y v u Q sb I rx ry h => eqL_at F hs hb hx sb I rx ry h
theorem rc_eqR (F : FnOk X.prog X.w X.K X.mg X.base CX n f fd ps sp) (hs : Spc X.K C f "__eq__") (hb : Binds X.K fd ps []) (hx : Passes CX X E) : RcR X n (rEqR X.K C sp E) := fun A pins σ H s x y v u Q sb I rx ry h => eqR_at F hs hb hx sb I rx ry h
theorem RcR.op {r : R2} (h : RcR X n r) (hr : Room j X.A) (hk : n ≤ j) : OpR X (compareOp .Eq) r := fun pins s σ H x y v u Q I rx ry q => by
  show wpAny (model X.prog X.w) X.A (richCompare .Eq v u) (EP X pins σ Q) X.xe s
  exact thn (h X.A pins σ H s x y v u Q ⟨hr.mono hk, rfl⟩ I rx ry q) fun v s1 ⟨k, H1, e, I1, q⟩ => by subst e; exact ⟨.bl k, H1, I1, rfl, q⟩
/-- y == x for the members y of a list, one after the other, till one is it -/
def inCh (K : PySem.W.Frag) (r : R2) (x : V) (p : Addr) (xs : List V) : List V → Hp → (Bool → Hp → Prop) → Prop
  | [], H, Q => Q false H
  | y :: ys, H, Q => (y = x → Q true H) ∧ r y x H (fun v H' => ∃ k, v = .bl k ∧ H' p = some (.lst xs) ∧ if k = true then Q true H' else inCh K r x p xs ys H' Q)
def rInO (K : PySem.W.Frag) (r : R2) (neg : Bool) : R2 := fun x y H Q => ∃ (a : Addr) (p : Addr) (xs : List V), x = .ref a ∧ y = .ref p ∧ H p = some (.lst xs) ∧ inCh K r x p xs xs H (fun k H' => Q (.bl (if neg then !k else k)) H')
theorem eqBool_any {prog : Program} {w : World} {E : Value → Shared → Prop} {v : Value} {a : Addr} {Q : Bool → Shared → Prop} (h1 : v = .ref a → Q true s) (h : wpAny (model prog w) A (richCompare .Eq v (.ref a)) (fun v s' => ∃ r, v = .bool r ∧ Q r s') E s) : wpAny (model prog w) A (eqBool v (.ref a)) Q E s := by
  unfold eqBool
  refine wpAny_holding ?_
  refine wpAny_ite_split (fun hab => ?_) (fun _ => ?_)
  · have h1' := h1 (eq_of_beq hab)
    repeat (first | exact h1' | wp_step)
  · cases v <;> (refine wpAny_bind (wpAny_mono h (fun v s' hv => ?_) fun _ _ x => x); obtain ⟨r, rfl, q⟩ := hv; exact wpAny_truthy_bool q)
theorem in_loopR {r : R2} (h : RcR X n r) (sb : L2.Sub X n A) (I : Inv X pins σ H s) {a p : Addr} {xs : List V} {Q : Bool → Hp → Prop} (hp : H p = some (.lst xs)) (q : inCh X.K r (.ref a) p xs xs H Q) {R : Result → Shared → Prop}
    (hR : ∀ k H' s', Inv X pins σ H' s' → Q k H' → R (.ok (.ret (.bool k))) s') (hE : ∀ e s', X.xe e s' → R (.error e) s') {B : Around} (e : B.in1 = A) :
    wpAny (model X.prog X.w) A (Builtin.«list.__contains__.loop» ⟨[.ref p, .ref a, rawInt 0], []⟩) (GQ.FinOf X.prog X.w B R) (fun e s' => R (.error e) s') s := by
  subst e
  refine contains_loopG p (.ref a) xs.length (fun i s' => ∃ H', Inv X pins σ H' s' ∧ H' p = some (.lst xs) ∧ inCh X.K r (.ref a) p xs (xs.drop i) H' Q) (fun _ => true) (fun i s' ⟨H', I', hp', q'⟩ => ?_) (fun s' ⟨H', I', hp', q'⟩ => ?_) _ 0 rfl (Nat.zero_le _) s ⟨H, I, hp, by simpa using q⟩
  · obtain ⟨_, its, m, rv, h1⟩ := (show ObjOk X.prog X.w H' s'.heap p (.lst xs) from I'.hok p _ hp')
    refine ⟨its.toArray, m, h1, by rw [List.size_toArray, ← rv.length], fun hi => ?_⟩
    have hi2 : i < its.length := by simpa using hi
    have hi3 : i < xs.length := by rw [rv.length]; exact hi2
    have e1 : xs.drop i = xs[i] :: xs.drop (i + 1) := List.drop_eq_getElem_cons hi3
    rw [e1] at q'
    obtain ⟨qe, qr⟩ := q'
    have rx : RelV xs[i] its[i] := by
      obtain ⟨u, hu, ru⟩ := rv.get (List.getElem?_eq_getElem hi3)
      rw [List.getElem?_eq_getElem hi2] at hu
      cases hu; exact ru
    show wpAny _ _ (eqBool its[i] (.ref a)) _ _ _
    refine wpAny_mono (Q := fun r s' => if r = true then R (.ok (.ret (.bool true))) s' else _) (E := X.xe) (eqBool_any (fun e => ?_) (thn (h B.in1 pins σ H' s' xs[i] (.ref a) its[i] (.ref a) _ sb I' rx rfl qr) fun v s1 ⟨k, H1, ev, I1, k', ek, hp1, q1⟩ => ⟨k, ev, ?_⟩)) (fun _ _ z => z) hE
    · rw [if_pos rfl]
      rw [e] at rx
      refine hR _ _ _ I' (qe ?_)
      generalize xs[i] = z at rx
      cases z <;> first | (cases rx; rfl) | (obtain ⟨_, rx⟩ := rx; cases rx; done) | (obtain ⟨_, rx⟩ := rx)
    · cases ek
      cases k with
      | true => rw [if_pos rfl]; rw [if_pos rfl] at q1; exact hR _ _ _ I1 q1
      | false => rw [if_neg Bool.false_ne_true]; rw [if_neg Bool.false_ne_true] at q1; exact ⟨H1, I1, hp1, q1⟩
  · rw [List.drop_length] at q'
    exact hR _ _ _ I' q'
open MeetsSeq MeetsSeq2 MeetsSeq3 SeqRoads2 PySem.SeqAt in
theorem contains_at {r : R2} (h : RcR X n r) (sb : L2.Sub X n A.in1) (I : Inv X pins σ H s) {a p : Addr} {xs : List V} {Q : Bool → Hp → Prop} (hp : H p = some (.lst xs)) (q : inCh X.K r (.ref a) p xs xs H Q) :
    wpAny (model X.prog X.w) A (contains (.ref p) (.ref a)) (fun b s' => ∃ H', Inv X pins σ H' s' ∧ Q b H') X.xe s := by
  obtain ⟨_, its, m, rv, h1⟩ := (show ObjOk X.prog X.w H s.heap p (.lst xs) from I.hok p _ hp)
  refine wpAny_contains_slot (T := "list") ⟨_, h1, rfl⟩ PySem.F.slot_list_contains (GQ.call_here PySem.F.slot_list_contains ⟨_, h1, rfl⟩ PySem.F.entry_list_contains (PySem.F.args_list_contains_2 _ _) ?_)
  have hrec := in_loopR (R := wants (fun r s' => wpAny (model X.prog X.w) A (truthy r) (fun b s' => ∃ H', Inv X pins σ H' s' ∧ Q b H') X.xe s') X.xe) h sb I hp q (fun k H' s' I' q' => wpAny_truthy_bool ⟨H', I', q'⟩) (fun e s' z => z) (B := A) rfl
  obtain ⟨hp', g, d, tk, os⟩ := s
  wp_walk using AutoSeq1.wpAny_loadPart' h1
  refine ⟨plainId_quiet plain_contains_loop _, codeAny_builtin entry_contains_loop ?_⟩
  rw [Around.under_plainId plain_contains_loop _]
  exact hrec
theorem op_inO {r : R2} (h : RcR X n r) (hr : Room j X.A) (hk : n + 1 ≤ j) : OpR X (compareOp .In) (rInO X.K r false) := by
  intro pins s σ H x y v u Q I rx ry ⟨a, p, xs, e1, e2, hp, q⟩
  subst e1 e2
  cases rx
  cases ry
  show wpAny _ X.A (do return Value.bool (← contains (.ref p) (.ref a))) _ _ s
  refine wpAny_bind (thn (contains_at h (L2.Sub.in1 ⟨hr.mono hk, rfl⟩) I hp q) fun b s1 ⟨H1, I1, q1⟩ => wpAny_pure ⟨.bl b, H1, I1, rfl, q1⟩)
theorem op_notInO {r : R2} (h : RcR X n r) (hr : Room j X.A) (hk : n + 1 ≤ j) : OpR X (compareOp .NotIn) (rInO X.K r true) := by
  intro pins s σ H x y v u Q I rx ry ⟨a, p, xs, e1, e2, hp, q⟩
  subst e1 e2
  cases rx
  cases ry
  show wpAny _ X.A (do return Value.bool (!(← contains (.ref p) (.ref a)))) _ _ s
  refine wpAny_bind (thn (contains_at h (L2.Sub.in1 ⟨hr.mono hk, rfl⟩) I hp q) fun b s1 ⟨H1, I1, q1⟩ => wpAny_pure ⟨.bl (!b), H1, I1, rfl, q1⟩)
end
end My

/-! ### zip(a, x) of a list and an ascii text that is no shorter -/
namespace PySem
section
variable {prog : Program} {w : World} {A : Around} {E : Value → Shared → Prop} {s : Shared}
abbrev ZKeepT (z TO i1 i2 : Addr) (h h' : Heap) : Prop := ∀ c o, c ≠ z → c ≠ TO → c ≠ i1 → c ≠ i2 → h.get? c = some o → h'.get? c = some o
theorem zipT_item {z TI TO i1 i2 l1 l2 : Addr} {k1 k2 : Nat} {xs : Array Value} {v : Str} {t : Tok} {c : Nat} {x a b : Value} {Q : Value → Shared → Prop} (D : ZipApart z TI TO i1 i2 l1 l2)
    (hz : IsZip s.heap z TI TO .none) (hTI : IsPair s.heap TI (.ref i1) (.ref i2)) (hTO : IsPair s.heap TO a b)
    (h1 : s.heap.IsListIter i1 l1 k1) (h2 : s.heap.IsStrIter i2 "str_ascii_iterator" v t k2) (hl1 : s.heap.IsList l1 xs) (hx : xs[k1]? = some x) (hy : v.cps[k2]? = some c)
    (hQ : ∀ h', IsZip h' z TI TO (rawInt s.heap.objs.size) → IsPair h' TO x (.str ⟨#[c]⟩ s.toks) → h'.IsListIter i1 l1 (k1 + 1) → h'.IsStrIter i2 "str_ascii_iterator" v t (k2 + 1) → IsPair h' s.heap.objs.size x (.str ⟨#[c]⟩ s.toks) → h'.objs.size = s.heap.objs.size + 1 →
      ZKeepT z TO i1 i2 s.heap h' → Q (.ref s.heap.objs.size) { s with heap := h', toks := s.toks + 1 }) :
    wpAny (model prog w) A (Builtin.«zip.__next__» ⟨[.ref z], []⟩) (fun fin s' => ∃ v, fin = .done (.ret v) ∧ Q v s') E s := by
  show wpAny _ _ (field (.ref z) 2 >>= _) _ _ _
  refine wpAny_bind (wpAny_field hz rfl (x := .bool false) rfl ?_)
  show wpAny _ _ (field (.ref z) 3 >>= _) _ _ _
  refine wpAny_bind (wpAny_field hz rfl (x := .ref TI) rfl ?_)
  refine wpAny_bind (wpAny_seqItems hTI rfl ?_)
  show wpAny _ _ (Builtin.SmallTypes.ownedTupleIsFree (.ref z) >>= _) _ _ _
  refine wpAny_bind ?_
  unfold Builtin.SmallTypes.ownedTupleIsFree
  refine wpAny_bind (wpAny_field hz rfl (x := .none) rfl (wpAny_pure ?_))
  simp only [if_true]
  refine wpAny_bind (wpAny_rule ?_)
  refine wpAny_bind (wpAny_field hz rfl (x := .ref TO) rfl ?_)
  refine wpAny_bind (wpAny_setField_rec hz (by simp) fun g1 gz g1s => ?_)
  have hz1 : IsZip g1 z TI TO .ellipsis := gz
  refine wpAny_bind ?_
  simp only [List.zipIdx_cons, List.zipIdx_nil, List.forIn_cons, List.forIn_nil]
  refine wpAny_bind (wpAny_bind (wpAny_onRaise ?_))
  show wpAny _ _ (Builtin.SmallTypes.nextOf (.ref i1) >>= _) _ _ _
  refine wpAny_bind (wpAny_nextOf_list_item (h1.extBut g1s.extBut D.i1z) (hl1.extBut g1s.extBut D.l1z) hx fun g2 i12 g2s => wpAny_pure ?_)
  have hTO2 : IsPair g2 TO a b := g2s.extBut _ _ D.TOi1 (g1s.extBut _ _ D.TOz hTO)
  refine wpAny_bind (wpAny_seqItems hTO2 rfl ?_)
  refine wpAny_bind (wpAny_updateSeq_pair hTO2 fun g3 t3 g3s => ?_)
  have hTO3 : IsPair g3 TO x b := t3
  refine wpAny_bind (wpAny_letGo (wpAny_pure ?_))
  refine wpAny_bind (wpAny_bind (wpAny_onRaise ?_))
  show wpAny _ _ (Builtin.SmallTypes.nextOf (.ref i2) >>= _) _ _ _
  refine wpAny_bind (wpAny_nextOf_ascii_item (((h2.extBut g1s.extBut D.i2z).extBut g2s.extBut D.i12.symm).extBut g3s.extBut D.TOi2.symm) hy fun g4 i24 g4s => wpAny_pure ?_)
  have hTO4 : IsPair g4 TO x b := g4s.extBut _ _ D.TOi2 hTO3
  refine wpAny_bind (wpAny_seqItems hTO4 rfl ?_)
  refine wpAny_bind (wpAny_updateSeq_pair hTO4 fun g5 t5 g5s => ?_)
  have hTO5 : IsPair g5 TO x (.str ⟨#[c]⟩ s.toks) := t5
  refine wpAny_bind (wpAny_letGo (wpAny_pure (wpAny_pure ?_)))
  refine wpAny_bind (wpAny_seqItems hTO5 rfl ?_)
  refine wpAny_bind (wpAny_newTuple ?_)
  have sz : g5.objs.size = s.heap.objs.size := by rw [g5s.1, g4s.1, g3s.1, g2s.1, g1s.1]
  have hz5 : IsZip g5 z TI TO .ellipsis := g5s.extBut _ _ D.TOz.symm (g4s.extBut _ _ D.i2z.symm (g3s.extBut _ _ D.TOz.symm (g2s.extBut _ _ D.i1z.symm hz1)))
  have kp : ZKeepT z TO i1 i2 s.heap g5 := fun c o c1 c2 c3 c4 e => g5s.extBut _ _ c2 (g4s.extBut _ _ c4 (g3s.extBut _ _ c2 (g2s.extBut _ _ c3 (g1s.extBut _ _ c1 e))))
  have i15 : g5.IsListIter i1 l1 (k1 + 1) := ((i12.extBut g3s.extBut D.TOi1.symm).extBut g4s.extBut D.i12).extBut g5s.extBut D.TOi1.symm
  have i25 : g5.IsStrIter i2 "str_ascii_iterator" v t (k2 + 1) := i24.extBut g5s.extBut D.TOi2.symm
  have zlt : z < g5.objs.size := Heap.lt_size hz5
  show wpAny _ _ (Builtin.SmallTypes.ownedTupleHandOut (.ref z) (.ref g5.objs.size) >>= _) _ _ _
  refine wpAny_bind ?_
  unfold Builtin.SmallTypes.ownedTupleHandOut
  have hz6 : IsZip (g5.push { cls := .type "tuple", data := .seq #[x, .str ⟨#[c]⟩ s.toks] }) z TI TO .ellipsis := Heap.get?_push_of_some _ hz5
  refine wpAny_bind (wpAny_setField_rec hz6 (by simp) fun g7 z7 g7s => ?_)
  have hz7 : IsZip g7 z TI TO (rawInt g5.objs.size) := z7
  refine wpAny_setField_rec hz7 (by simp) fun g8 z8 g8s => ?_
  have hz8 : IsZip g8 z TI TO (rawInt g5.objs.size) := z8
  have up : ∀ c o, c ≠ z → g5.get? c = some o → g8.get? c = some o := fun c o c1 e => g8s.extBut _ _ c1 (g7s.extBut _ _ c1 (Heap.get?_push_of_some _ e))
  have T8 : IsPair g8 g5.objs.size x (.str ⟨#[c]⟩ s.toks) := g8s.extBut _ _ (Nat.ne_of_gt zlt) (g7s.extBut _ _ (Nat.ne_of_gt zlt) (Heap.get?_push_size _ rfl))
  have s8 : g8.objs.size = g5.objs.size + 1 := by rw [g8s.1, g7s.1, Heap.size_push]
  rw [sz] at hz8 T8 s8
  refine wpAny_pure ⟨_, rfl, ?_⟩
  show Q (.ref g5.objs.size) _
  rw [sz]
  obtain ⟨oi, hoi, hci, hdi⟩ := i25
  exact hQ g8 hz8 (up _ _ D.TOz hTO5) (i15.at fun o e => up _ o D.i1z e) ⟨oi, up _ oi D.i2z hoi, hci, hdi⟩ T8 s8 fun c o c1 c2 c3 c4 e => up c o c1 (kp c o c1 c2 c3 c4 e)
theorem zipT_end {z TI TO i1 i2 l1 l2 : Addr} {k1 : Nat} {xs : Array Value} {a b : Value} {Q : Fin → Shared → Prop} (hh : A.handled = none) (D : ZipApart z TI TO i1 i2 l1 l2)
    (hz : IsZip s.heap z TI TO .none) (hTI : IsPair s.heap TI (.ref i1) (.ref i2)) (hTO : IsPair s.heap TO a b)
    (h1 : s.heap.IsListIter i1 l1 k1) (hl1 : s.heap.IsList l1 xs) (hx : xs[k1]? = none)
    (hE : ∀ h' e, ZKeepT z TO i1 i2 s.heap h' → (∃ o, h'.get? e = some o ∧ o.cls = .type "StopIteration") → E (.ref e) { s with heap := h' }) :
    wpAny (model prog w) A (Builtin.«zip.__next__» ⟨[.ref z], []⟩) Q E s := by
  show wpAny _ _ (field (.ref z) 2 >>= _) _ _ _
  refine wpAny_bind (wpAny_field hz rfl (x := .bool false) rfl ?_)
  show wpAny _ _ (field (.ref z) 3 >>= _) _ _ _
  refine wpAny_bind (wpAny_field hz rfl (x := .ref TI) rfl ?_)
  refine wpAny_bind (wpAny_seqItems hTI rfl ?_)
  show wpAny _ _ (Builtin.SmallTypes.ownedTupleIsFree (.ref z) >>= _) _ _ _
  refine wpAny_bind ?_
  unfold Builtin.SmallTypes.ownedTupleIsFree
  refine wpAny_bind (wpAny_field hz rfl (x := .none) rfl (wpAny_pure ?_))
  simp only [if_true]
  refine wpAny_bind (wpAny_rule ?_)
  refine wpAny_bind (wpAny_field hz rfl (x := .ref TO) rfl ?_)
  refine wpAny_bind (wpAny_setField_rec hz (by simp) fun g1 gz g1s => ?_)
  have hz1 : IsZip g1 z TI TO .ellipsis := gz
  refine wpAny_bind ?_
  simp only [List.zipIdx_cons, List.zipIdx_nil, List.forIn_cons, List.forIn_nil]
  refine wpAny_bind (wpAny_bind (wpAny_onRaise ?_))
  show wpAny _ _ (Builtin.SmallTypes.nextOf (.ref i1) >>= _) _ _ _
  refine wpAny_bind (wpAny_nextOf_list_end hh (h1.extBut g1s.extBut D.i1z) (hl1.extBut g1s.extBut D.l1z) hx fun g2 e g2s he => ?_)
  obtain ⟨oe, hoe, hce⟩ := he
  have hz2 : IsZip g2 z TI TO .ellipsis := g2s _ _ D.i1z.symm hz1
  have hez : e ≠ z := fun x => by subst x; rw [hz2] at hoe; cases hoe; simp at hce
  exact wpAny_setField_rec hz2 (by simp) fun g3 _ g3s => hE g3 e (fun c o c1 _ c3 _ x => g3s.extBut _ _ c1 (g2s _ _ c3 (g1s.extBut _ _ c1 x))) ⟨oe, g3s.extBut _ _ hez hoe, hce⟩
theorem pyNext_zipT_item {z TI TO i1 i2 l1 l2 : Addr} {k1 k2 : Nat} {xs : Array Value} {v : Str} {t : Tok} {c : Nat} {x a b : Value} {Q : Option Value → Shared → Prop} (D : ZipApart z TI TO i1 i2 l1 l2)
    (hz : IsZip s.heap z TI TO .none) (hTI : IsPair s.heap TI (.ref i1) (.ref i2)) (hTO : IsPair s.heap TO a b)
    (h1 : s.heap.IsListIter i1 l1 k1) (h2 : s.heap.IsStrIter i2 "str_ascii_iterator" v t k2) (hl1 : s.heap.IsList l1 xs) (hx : xs[k1]? = some x) (hy : v.cps[k2]? = some c)
    (hQ : ∀ h', IsZip h' z TI TO (rawInt s.heap.objs.size) → IsPair h' TO x (.str ⟨#[c]⟩ s.toks) → h'.IsListIter i1 l1 (k1 + 1) → h'.IsStrIter i2 "str_ascii_iterator" v t (k2 + 1) → IsPair h' s.heap.objs.size x (.str ⟨#[c]⟩ s.toks) → h'.objs.size = s.heap.objs.size + 1 →
      ZKeepT z TO i1 i2 s.heap h' → Q (some (.ref s.heap.objs.size)) { s with heap := h', toks := s.toks + 1 }) :
    wpAny (model prog w) A (pyNext (.ref z)) Q E s := by
  have ty : s.TypeIs (.ref z) "zip" := ⟨_, hz, rfl⟩
  unfold pyNext
  exact wpAny_bind (wpAny_attempt (wpAny_callSpecial?_slot (name := Str.ofString "__next__") ty F.slot_zip_next (wpAny_call_entry F.slot_zip_next ty F.entry_zip_next
    (zipT_item D hz hTI hTO h1 h2 hl1 hx hy fun h' q1 q2 q3 q4 q5 q6 q7 => wpAny_pure (hQ h' q1 q2 q3 q4 q5 q6 q7)) (F.args_zip_next_1 _))))
theorem pyNext_zipT_end {z TI TO i1 i2 l1 l2 : Addr} {k1 : Nat} {xs : Array Value} {a b : Value} {Q : Option Value → Shared → Prop} (hh : A.handled = none) (D : ZipApart z TI TO i1 i2 l1 l2)
    (hz : IsZip s.heap z TI TO .none) (hTI : IsPair s.heap TI (.ref i1) (.ref i2)) (hTO : IsPair s.heap TO a b) (h1 : s.heap.IsListIter i1 l1 k1) (hl1 : s.heap.IsList l1 xs) (hx : xs[k1]? = none)
    (hQ : ∀ h', ZKeepT z TO i1 i2 s.heap h' → Q none { s with heap := h' }) : wpAny (model prog w) A (pyNext (.ref z)) Q E s := by
  have ty : s.TypeIs (.ref z) "zip" := ⟨_, hz, rfl⟩
  unfold pyNext
  refine wpAny_bind (wpAny_attempt (wpAny_callSpecial?_slot (name := Str.ofString "__next__") ty F.slot_zip_next (wpAny_call_entry F.slot_zip_next ty F.entry_zip_next
    (zipT_end hh D hz hTI hTO h1 hl1 hx fun h' e hk ⟨o, ho, hc⟩ => ?_) (F.args_zip_next_1 _))))
  exact wpAny_bind (wpAny_isInstance (T := "StopIteration") (b := true) ⟨o, ho, hc⟩ isSubtype_stop (wpAny_pure (hQ _ hk)))
abbrev ztH2 (h : Heap) (l1 : Addr) (v : Str) (t : Tok) : Heap := (zipH1 h l1).push { cls := .type "str_ascii_iterator", data := .fields #[.str v t, .int 0 0] }
abbrev ztH3 (h : Heap) (l1 : Addr) (v : Str) (t : Tok) : Heap := (ztH2 h l1 v t).push { cls := .type "tuple", data := .seq #[.ref h.objs.size, .ref (zipH1 h l1).objs.size] }
abbrev ztH4 (h : Heap) (l1 : Addr) (v : Str) (t : Tok) : Heap := (ztH3 h l1 v t).push { cls := .type "tuple", data := .seq #[.none, .none] }
abbrev ztH5 (h : Heap) (l1 : Addr) (v : Str) (t : Tok) : Heap := (ztH4 h l1 v t).push { cls := .type "zip", data := .fields #[.none, .bool false, .bool false, .ref (ztH2 h l1 v t).objs.size, .ref (ztH3 h l1 v t).objs.size] }
theorem meets_zipT_new (l1 : Addr) (xs : Array Value) (v : Str) (t : Tok) (ha : v.cps.all (· < 128) = true) :
    Meets (Builtin.«zip.__new__» ⟨[.type "zip", .ref l1, .str v t], []⟩) (fun _ R s => s.heap.IsList l1 xs ∧ R (.ok (.ret (.ref (ztH4 s.heap l1 v t).objs.size))) { s with heap := ztH5 s.heap l1 v t }) :=
  .of_wp fun prog w A R s h => by
    obtain ⟨hp, g, d, tk, os⟩ := s; obtain ⟨q1, h⟩ := h
    have hsub := sub_zip
    have hL1 : Heap.IsList (Shared.heap ⟨hp, g, d, tk, os⟩) l1 xs := q1
    wp_walk using wpAny_pyIter_list hL1, wpAny_pyIter_ascii ha
    exact ⟨_, rfl, h⟩
theorem call_zipT {l1 : Addr} {xs : Array Value} {v : Str} {t : Tok} {Q : Value → Shared → Prop} (ha : v.cps.all (· < 128) = true) (hl1 : s.heap.IsList l1 xs)
    (h : ∀ h', IsZip h' (s.heap.objs.size + 4) (s.heap.objs.size + 2) (s.heap.objs.size + 3) .none → IsPair h' (s.heap.objs.size + 2) (.ref s.heap.objs.size) (.ref (s.heap.objs.size + 1)) → IsPair h' (s.heap.objs.size + 3) .none .none →
      h'.IsListIter s.heap.objs.size l1 0 → h'.IsStrIter (s.heap.objs.size + 1) "str_ascii_iterator" v t 0 → h'.objs.size = s.heap.objs.size + 5 → (∀ c o, s.heap.get? c = some o → h'.get? c = some o) → Q (.ref (s.heap.objs.size + 4)) { s with heap := h' }) :
    wpAny (model prog w) A (call (.type "zip") [.ref l1, .str v t]) Q E s := by
  refine callType_new F.called_zip (by decide) (F.typeCall_zip_2 _ _) (F.newCall_zip_2 _ _) (fun obj => F.args_object_init_3 obj _ _) F.entry_zip_new (meets_zipT_new l1 xs v t ha) ⟨hl1, ?_⟩
  obtain ⟨z1, z2, z3, z4, z5⟩ : (zipH1 s.heap l1).objs.size = s.heap.objs.size + 1 ∧ (ztH2 s.heap l1 v t).objs.size = s.heap.objs.size + 2 ∧ (ztH3 s.heap l1 v t).objs.size = s.heap.objs.size + 3 ∧ (ztH4 s.heap l1 v t).objs.size = s.heap.objs.size + 4 ∧ (ztH5 s.heap l1 v t).objs.size = s.heap.objs.size + 5 := by
    refine ⟨?_, ?_, ?_, ?_, ?_⟩ <;> simp only [Heap.size_push]
  have up : ∀ {h : Heap} {c : Addr} {o o' : Obj}, h.get? c = some o → (h.push o').get? c = some o := fun e => Heap.get?_push_of_some _ e
  have g5 : (ztH5 s.heap l1 v t).get? (ztH4 s.heap l1 v t).objs.size = some _ := Heap.get?_push_size _ rfl
  have g4 : (ztH5 s.heap l1 v t).get? (ztH3 s.heap l1 v t).objs.size = some _ := up (Heap.get?_push_size _ rfl)
  have g3 : (ztH5 s.heap l1 v t).get? (ztH2 s.heap l1 v t).objs.size = some _ := up (up (Heap.get?_push_size _ rfl))
  have g2 : (ztH5 s.heap l1 v t).get? (zipH1 s.heap l1).objs.size = some _ := up (up (up (Heap.get?_push_size _ rfl)))
  have g1 : (ztH5 s.heap l1 v t).get? s.heap.objs.size = some _ := up (up (up (up (Heap.get?_push_size _ rfl))))
  show _ ∧ _
  rw [z2, z3, z4] at g5
  rw [z1, z2] at g3
  rw [z3] at g4
  rw [z1] at g2
  rw [z4]
  exact ⟨⟨_, g5, rfl⟩, h _ g5 g3 g4 ⟨_, g1, rfl, rfl⟩ ⟨_, g2, rfl, rfl⟩ z5 fun c o x => up (up (up (up (up x))))⟩
end
end PySem
namespace My
open PySem PySem.Spec PyProof.Rows L2
/-- the walk over zip of a list and a text, which ends with the list -/
def ItzX (K : PySem.W.Frag) (a : Addr) (v : Str) : It :=
  ⟨fun i H => ∃ (xs : List V) (x : V) (c : Nat), SqL K H a xs ∧ xs[i]? = some x ∧ v.cps[i]? = some c,
    fun i H u H' => ∃ T x c, u = .ref T ∧ H T = none ∧ H' = upd H T (.tup [x, .str ⟨#[c]⟩]) ∧ (∀ xs, SqL K H a xs → xs[i]? = some x) ∧ v.cps[i]? = some c,
    fun i H => ∃ xs : List V, SqL K H a xs ∧ xs.length ≤ i⟩
theorem turn_zipX {P : Program} {w : World} {K : PySem.W.Frag} {elts : List Expr} {kk : Nat} {tpos : Pos} {a z TI TO i1 i2 : Addr} {v : Str} (D : ZipApart z TI TO i1 i2 a a) :
    Turn P w K (.Tuple elts kk tpos) (ItzX K a v) [z, TI, TO, i1, i2] z (fun i h => IsZip h z TI TO .none ∧ IsPair h TI (.ref i1) (.ref i2) ∧ (∃ x y, IsPair h TO x y) ∧ h.IsListIter i1 a i ∧ ∃ t, h.IsStrIter i2 "str_ascii_iterator" v t i) := by
  have five : ∀ {c : Addr}, c ∈ [z, TI, TO, i1, i2] → c = z ∨ c = TI ∨ c = TO ∨ c = i1 ∨ c = i2 := fun h => by simpa using h
  refine ⟨by simp, fun i h ⟨hz, hTI, ⟨x, y, hTO⟩, ⟨o1, e1, _, d1⟩, ⟨t, o2, e2, _, d2⟩⟩ c hc => ?_, fun i h h' ⟨hz, hTI, ⟨x, y, hTO⟩, h1, ⟨t, o2, e2, c2, d2⟩⟩ k => ⟨k z (by simp) _ hz, k TI (by simp) _ hTI, ⟨x, y, k TO (by simp) _ hTO⟩, h1.at fun o q => k i1 (by simp) o q, t, o2, k i2 (by simp) o2 e2, c2, d2⟩, ?_, ?_, fun A i s Q E st h => wpAny_pyIter_zip st.1 h⟩
  · rcases five hc with q | q | q | q | q <;> subst q
    · exact ⟨_, hz, fun v q => nomatch q⟩
    · exact ⟨_, hTI, fun v q => nomatch q⟩
    · exact ⟨_, hTO, fun v q => nomatch q⟩
    · exact ⟨o1, e1, fun v q => by rw [d1] at q; cases q⟩
    · exact ⟨o2, e2, fun v q => by rw [d2] at q; cases q⟩
  · intro X hP hw hK hc i pins s σ H E I hf ⟨hz, hTI, ⟨x0, y0, hTO⟩, h1, ⟨t, h2⟩⟩ hg
    subst hP hw hK
    obtain ⟨xs, x, c, hqx, hx, hy⟩ := hg
    obtain ⟨its, rv, p, _⟩ := I.list hqx
    obtain ⟨u, hu, ru⟩ := rv.get hx
    have zl : z < s.heap.objs.size := Heap.lt_size hz
    refine pyNext_zipT_item D hz hTI hTO h1 h2 p.isList (x := u) (c := c) (by simpa using hu) hy fun h' z' TO' a1 a2 hT hsz hk => ?_
    refine ⟨_, rfl, wpAny_letOwnedTupleGo_zip (s := { s with heap := h', toks := s.toks + 1 }) z' fun h'' z'' sb => ?_⟩
    have hT2 : h''.get? s.heap.objs.size = some { cls := .type "tuple", data := .seq #[u, .str ⟨#[c]⟩ s.toks] } := (sb.2 _ (Nat.ne_of_gt zl)).trans hT
    have new : ObjOk X.prog X.w (upd H s.heap.objs.size (.tup [x, .str ⟨#[c]⟩])) h'' s.heap.objs.size (.tup [x, .str ⟨#[c]⟩]) := ⟨by show 2 ≤ sizeLine; decide, [u, .str ⟨#[c]⟩ s.toks], .cons ru (.cons ⟨_, rfl⟩ .nil), ⟨_, hT2, rfl, _, rfl⟩⟩
    have I1 : Inv X pins σ (upd H s.heap.objs.size (.tup [x, .str ⟨#[c]⟩])) { s with heap := h'', toks := s.toks + 1 } :=
      I.turnedNew (t' := s.toks + 1) (ch := [z, TI, TO, i1, i2]) (fun c o hb q => (sb.2 c (fun q' => hb (by simp [q']))).trans (hk c o (fun q' => hb (by simp [q'])) (fun q' => hb (by simp [q'])) (fun q' => hb (by simp [q'])) (fun q' => hb (by simp [q'])) q)) hf (Nat.le_refl _) new
    obtain ⟨oi, hoi, hci, hdi⟩ := a2
    refine ⟨.ref s.heap.objs.size, _, I1, rfl, ⟨_, x, c, rfl, I.hok.fresh (Nat.le_refl _), rfl, fun l hl => by rw [I.list_inj hl hqx]; exact hx, hy⟩, ⟨z'', (sb.2 _ D.TIz).trans (hk _ _ D.TIz D.TITO D.TIi1 D.TIi2 hTI), ⟨u, _, (sb.2 _ D.TOz).trans TO'⟩, a1.at fun o q => (sb.2 _ D.i1z).trans q, t, oi, (sb.2 _ D.i2z).trans hoi, hci, hdi⟩, fun c hcm => ?_⟩
    have hlt : c < s.heap.objs.size := by
      rcases five hcm with q | q | q | q | q <;> subst q
      · exact zl
      · exact Heap.lt_size hTI
      · exact Heap.lt_size hTO
      · obtain ⟨_, e1, _⟩ := h1; exact Heap.lt_size e1
      · obtain ⟨_, e2, _⟩ := h2; exact Heap.lt_size e2
    rw [upd_ne (Nat.ne_of_lt hlt)]
    exact (hf c hcm).1
  · intro X hP hw hK hc i pins s σ H E I hf ⟨hz, hTI, ⟨x0, y0, hTO⟩, h1, _⟩ hg
    subst hP hw hK
    obtain ⟨xs, hqx, le1⟩ := hg
    obtain ⟨its, rv, p, _⟩ := I.list hqx
    have l1 := rv.length
    exact pyNext_zipT_end (I.ok.hd hc) D hz hTI hTO h1 p.isList (by simp; omega) fun h' hk => ⟨rfl, I.turnedL (t' := s.toks) (ch := [z, TI, TO, i1, i2]) (fun c o hb q =>
      hk c o (fun q' => hb (by simp [q'])) (fun q' => hb (by simp [q'])) (fun q' => hb (by simp [q'])) (fun q' => hb (by simp [q'])) q) hf⟩
def iZipX (K : PySem.W.Frag) (ta : TA) : TI := fun σ H R => ta σ H fun vs H1 => ∃ a v xs, vs = [.ref a, .str v] ∧ v.cps.all (· < 128) = true ∧ SqL K H1 a xs ∧ R (ItzX K a v) H1
theorem pi_zipX {X : Cx} {e e2 : Expr} {ta : TA} {p pos tpos : Pos} {elts : List Expr} {kk : Nat} (hg : Gl X "zip") (hm : X.mg "zip" = none) (ha : PA X [e, e2] ta)
    (hs : starEach [e, e2] X.env = (false, eval e X.env) :: starEach [e2] X.env := by rfl) (hpl : (backTo pos (starEach [e2] X.env)).any (·.1) = false := by rfl) :
    PI X (.Tuple elts kk tpos) (.Call (.Name "zip" p) [e, e2] [] pos) (iZipX X.K ta) := by
  refine ⟨fun pins s σ H R I h => ?_⟩
  refine Call_ (ld_blt I hg hm PyProof.Rows.boot_zip (PyProof.Rows.callWith_type1 (thn (ha.run pos pins s σ H _ I h) fun us s1 ⟨vs, H1, I1, r1, q1⟩ => ?_) hs hpl))
  obtain ⟨a, v, xs, ex, hv, hqx, q⟩ := q1
  subst ex
  obtain ⟨u1, u2, rfl, ra, rb⟩ := vals2 r1
  cases ra
  obtain ⟨t, rfl⟩ := rb
  obtain ⟨its, rv, p1, _⟩ := I1.list hqx
  refine call_zipT hv p1.isList fun h' hz hTI hTO h1 h2 hsz hk => wpAny_pyIter_zip hz ?_
  have I3 : Inv X pins σ H1 { s1 with heap := h' } := I1.kept (t' := s1.toks) hk
  refine ⟨s1.heap.objs.size + 4, [s1.heap.objs.size + 4, s1.heap.objs.size + 2, s1.heap.objs.size + 3, s1.heap.objs.size, s1.heap.objs.size + 1], _, _, H1, rfl, I3, turn_zipX (PySem.W.ktu_apart s1.heap.objs.size a a p1.lt p1.lt), ⟨hz, hTI, ⟨_, _, hTO⟩, h1, t, h2⟩, fun c hcm => ?_, q⟩
  have hle : s1.heap.objs.size ≤ c := by
    have : c = s1.heap.objs.size + 4 ∨ c = s1.heap.objs.size + 2 ∨ c = s1.heap.objs.size + 3 ∨ c = s1.heap.objs.size ∨ c = s1.heap.objs.size + 1 := by simpa using hcm
    rcases this with q | q | q | q | q <;> subst q
    · exact Nat.le_add_right _ _
    · exact Nat.le_add_right _ _
    · exact Nat.le_add_right _ _
    · exact Nat.le_refl _
    · exact Nat.le_add_right _ _
  exact I1.fpOk hle (I1.hok.fresh hle)
end My

/-! ### texts, == with anything, in, told of data -/
namespace My
open PySem PySem.Spec PyProof.Rows L2
open C8 (Cal pe_c pe_gc InsC call_isC)
theorem DR2.or {r r' : R2} {rd rd' : Dat → Dat → (Dat → Prop) → Prop} (h : DR2 r rd) (h' : DR2 r' rd') : DR2 (fun x y H Q => r x y H Q ∨ r' x y H Q) (fun d e C => rd d e C ∨ rd' d e C) := fun O H x y d e C Q hd rx ry q k => by
  rcases q with q | q
  · exact .inl (h O H x y d e C Q hd rx ry q k)
  · exact .inr (h' O H x y d e C Q hd rx ry q k)
/-! texts -/
def dAddS (d e : Dat) (C : Dat → Prop) : Prop := ∃ i j : Str, d = .str i ∧ e = .str j ∧ i.length + j.length ≤ sizeLine ∧ C (.str (i ++ j))
def dMulS (d e : Dat) (C : Dat → Prop) : Prop := ∃ (z : Str) (b : Bool), d = .str z ∧ e = .int (if b = true then 1 else 0) ∧ C (.str (if b = true then z else ""))
def dIxS (d e : Dat) (C : Dat → Prop) : Prop := ∃ (z : Str) (i : Int) (c : Nat), d = .str z ∧ e = .int i ∧ z.length ≤ sizeLine ∧ atI z.cps.toList i = some c ∧ C (.str ⟨#[c]⟩)
def dStrI (ds : List Dat) (C : Dat → Prop) : Prop := ∃ i : Int, ds = [.int i] ∧ i.natAbs.log2 < 1920 ∧ C (.str (toString i))
def dStrS (ds : List Dat) (C : Dat → Prop) : Prop := ∃ a : Str, ds = [.str a] ∧ C (.str a)
def dJoin (ys : List Str) (d : Dat) (C : Dat → Prop) : Prop := ∃ a : Str, d = .str a ∧ (ys.map (·.length)).sum + ys.length * a.length ≤ 16777216 ∧ C (.str (PySem.Txt.join a ys))
def dOrS (d : Dat) (A : Dat → Prop) (B : Prop) : Prop := ∃ y : Str, d = .str y ∧ y.length ≤ sizeLine ∧ if y.length ≠ 0 then A (.str y) else B
def dZipX (fs : List Dat) (C : List Dat → List Dat → Prop) : Prop := ∃ (ds : List Dat) (v : Str), fs = [.lst ds, .str v] ∧ v.cps.all (· < 128) = true ∧ ds.length ≤ v.cps.size ∧ C ds (v.cps.toList.map fun c => .str ⟨#[c]⟩)
theorem dr_addS : DR2 (fun x y H Q => ∃ i j, x = .str i ∧ y = .str j ∧ i.length + j.length ≤ sizeLine ∧ Q (.str (i ++ j)) H) dAddS := fun O H x y d e C Q _ rx ry ⟨i, j, e1, e2, hl, c⟩ k => by
  subst e1 e2
  cases rx; cases ry
  exact ⟨i, j, rfl, rfl, hl, k _ _ H c (Le.refl H) (.str _)⟩
def rMulS : R2 := fun x y H Q => ∃ (z : Str) (b : Bool), x = .str z ∧ y = .int (if b = true then 1 else 0) ∧ Q (.str (if b = true then z else "")) H
theorem op_mulS {X : Cx} : OpR X (binaryOp .Mult) rMulS := by
  intro pins s σ H x y v u Q I rx ry ⟨z, b, e1, e2, q⟩
  subst e1 e2
  obtain ⟨t, rfl⟩ := rx
  obtain ⟨t', rfl⟩ := ry
  cases b with
  | true =>
    refine PySem.SB.mul (n := 1) ⟨by decide, fun _ h => by simp at h, fun _ h => by simp at h⟩ fun t' k => ?_
    exact ⟨.str z, H, I.tok k, ⟨t', rfl⟩, q⟩
  | false =>
    refine PySem.SB.mul (n := 0) ⟨by decide, fun h => absurd (by decide) h, fun h => absurd (by decide) h⟩ fun t' k => ?_
    exact ⟨.str "", H, I.tok k, ⟨t', by simp [PySem.Txt.mul]; rfl⟩, q⟩
theorem dr_mulS : DR2 rMulS dMulS := fun O H x y d e C Q _ rx ry ⟨z, b, e1, e2, c⟩ k => by
  subst e1 e2
  cases rx; cases ry
  exact ⟨z, b, rfl, rfl, k _ _ H c (Le.refl H) (.str _)⟩
theorem dr_ixS : DR2 rIxS dIxS := fun O H x y d e C Q _ rx ry ⟨z, i, c, e1, e2, h1, h2, q⟩ k => by
  subst e1 e2
  cases rx; cases ry
  exact ⟨z, i, c, rfl, rfl, h1, h2, k _ _ H q (Le.refl H) (.str _)⟩
theorem db_strI : DCB (fun xs H Q => ∃ i, xs = [.int i] ∧ i.natAbs.log2 < 1920 ∧ Q (.str (toString i)) H) dStrI := fun O H xs ds C Q _ r ⟨i, e, h, c⟩ k => by
  subst e
  cases r with
  | cons r t => cases t; cases r; exact ⟨i, rfl, h, k _ _ H c (Le.refl H) (.str _)⟩
theorem db_strS : DCB (fun xs H Q => ∃ a, xs = [.str a] ∧ Q (.str a) H) dStrS := fun O H xs ds C Q _ r ⟨i, e, c⟩ k => by
  subst e
  cases r with
  | cons r t => cases t; cases r; exact ⟨i, rfl, k _ _ H c (Le.refl H) (.str _)⟩
theorem db_boolO {C : Addr} {W : WpD} {E : XK} : DCB (rBoolO C (spD W) E) (fun ds k => ∃ d fs, ds = [d] ∧ d = .ins C fs ∧ W [d] fun r => ∃ n : Int, r = .int n ∧ 0 ≤ n ∧ n < 2 ^ 63 ∧ k (.bl (n != 0))) := fun O H xs ds k Q hd r ⟨d, fs, e1, e2, w⟩ c => by
  subst e1 e2
  cases r with
  | cons r t =>
    cases t
    obtain ⟨a, dx, gs, rfl, ha⟩ := ins_at r
    refine ⟨a, dx, gs, rfl, ha, O, _, _, hd, .cons r .nil, w, fun d v H' ⟨n, e, h0, h1, q⟩ l q' => ?_⟩
    subst e; cases q'
    exact ⟨n, rfl, h0, h1, c _ _ H' q l (.bl _)⟩
theorem db_strO {C : Addr} {W : WpD} {E : XK} : DCB (rStrO C (spD W) E) (fun ds k => ∃ d fs, ds = [d] ∧ d = .ins C fs ∧ W [d] fun r => ∃ n : Str, r = .str n ∧ k (.str n)) := fun O H xs ds k Q hd r ⟨d, fs, e1, e2, w⟩ c => by
  subst e1 e2
  cases r with
  | cons r t =>
    cases t
    obtain ⟨a, dx, gs, rfl, ha⟩ := ins_at r
    refine ⟨a, dx, gs, rfl, ha, O, _, _, hd, .cons r .nil, w, fun d v H' ⟨n, e, q⟩ l q' => ?_⟩
    subst e; cases q'
    exact ⟨n, rfl, c _ _ H' q l (.str _)⟩
theorem RpL.strs {H : Hp} : ∀ {vs : List V} {ys : List Str}, RpL H vs (ys.map Dat.str) → vs = ys.map V.str
  | _, [], r => by cases r; rfl
  | _, y :: ys, r => by
    cases r with
    | cons a t => cases a; rw [RpL.strs t]; rfl
section
variable {z : Cz} {g : List Sl} {m : Nat} {C : Nat → Dat → Prop} {CL : Nat → List Dat → Prop} {CT : Nat → Bool → Prop} {t ta tb to : TE} {tr : TA} {K : PySem.W.Frag}
/-- sep.join(xs), xs a list of the def's own -/
theorem XE.joinO {i : Nat} {ys : List Str} (hg : g[i]? = some (.ow (ys.map Dat.str))) (h : XE z to g m fun m1 d => dJoin ys d (C m1)) :
    XE z (tM1 (fun x xs H Q => ∃ a p, ∃ ys : List Str, x = .str a ∧ xs = [.ref p] ∧ (SqL K H p (ys.map V.str) ∨ SqT K H p (ys.map V.str)) ∧ (ys.map (·.length)).sum + ys.length * a.length ≤ 16777216 ∧ Q (.str (PySem.Txt.join a ys)) H) to (tVar i)) g m C := fun O σ H R Q k => h O σ H R _ fun m1 d v H1 ⟨a, e, hl, c⟩ R1 l1 q1 => by
  subst e; cases q1
  obtain ⟨p, vs, hv, hO, _, hp, r⟩ := R1.sl _ _ hg
  refine ⟨⟨a, rfl⟩, .ref p, hv, a, p, ys, rfl, rfl, .inl (SqL.of ?_), hl, k _ _ _ H1 c R1 l1 (.str _)⟩
  rw [← r.strs]; exact hp
theorem XE.orS (h : XE z ta g m fun m1 d => dOrS d (C m1) (XE z tb g m1 C)) : XE z (tOrT K ta tb) g m C := fun O σ H R Q k => h O σ H R _ fun m1 d v H1 ⟨y, e, hl, c⟩ R1 l1 q1 => by
  subst e; cases q1
  refine ⟨((y.length : Int) != 0), ⟨hl, rfl⟩, ?_⟩
  by_cases h0 : y.length = 0
  · rw [if_neg (by simpa using h0)] at c
    rw [h0, if_neg (by simp)]
    exact c O σ H1 R1 Q fun m' d' v' H' c' R' l' q' => k m' d' v' H' c' R' (l1.trans l') q'
  · rw [if_pos h0] at c
    have : ((y.length : Int) != 0) = true := by simpa using h0
    rw [this, if_pos rfl]
    exact k _ _ _ H1 c R1 l1 (.str y)
end
end My
namespace My
open PySem PySem.Spec PyProof.Rows L2
open C8 (Cal pe_c pe_gc InsC call_isC)
/-! == with anything -/
/-- a thing's type, built in -/
inductive BtD : Dat → String → Prop
  | non : BtD .non "NoneType"
  | bl (b : Bool) : BtD (.bl b) "bool"
  | int (i : Int) : BtD (.int i) "int"
  | str (x : Str) : BtD (.str x) "str"
  | lst (ds : List Dat) : BtD (.lst ds) "list"
  | tup (ds : List Dat) : BtD (.tup ds) "tuple"
theorem BtD.mro {d : Dat} {T : String} (h : BtD d T) : ∃ l : List String, fastBuiltinMro T = some (l.map .type) := by
  cases h
  · exact ⟨_, mro_none⟩
  · exact ⟨_, mro_bool⟩
  · exact ⟨_, mro_int⟩
  · exact ⟨_, mro_str⟩
  · exact ⟨_, mro_list⟩
  · exact ⟨_, mro_tuple⟩
theorem BtD.ty {O : List Addr} {H : Hp} {v : V} {d : Dat} {T : String} (h : BtD d T) (r : Rp (hid O H) v d) : TyV H v (.type T) := by
  cases h
  · cases r; exact .non
  · cases r; exact .bl _
  · cases r; exact .int _
  · cases r; exact .str _
  · cases r with
    | lst ha _ => exact .lst (hid_some ha).2
  · cases r with
    | tup ha _ => exact .tup (hid_some ha).2
/-- what may stand at the right of an own == -/
def RtD (K : PySem.W.Frag) (C : Addr) (e : Dat) : Prop := (∃ T, BtD e T) ∨ ∃ D fs, e = .ins D fs ∧ NotF K C (.ref D)
theorem RtD.ty {K : PySem.W.Frag} {C : Addr} {O : List Addr} {H : Hp} {v : V} {e : Dat} (h : RtD K C e) (r : Rp (hid O H) v e) : ∃ t, TyV H v t ∧ NotF K C t := by
  rcases h with ⟨T, h⟩ | ⟨D, fs, rfl, n⟩
  · obtain ⟨l, q⟩ := h.mro
    exact ⟨_, h.ty r, notF_ty q⟩
  · obtain ⟨a, dx, gs, rfl, ha⟩ := ins_at r
    exact ⟨_, .ins ha, n⟩
theorem dr_eqL {K : PySem.W.Frag} {C : Addr} {W : WpD} {E : XK} : DR2 (rEqL K C (spD W) E) (fun d e k => ∃ fs, d = .ins C fs ∧ RtD K C e ∧ W [d, e] fun r => ∃ b : Bool, r = .bl b ∧ k (.bl b)) := fun O H x y d e k Q hd rx ry ⟨fs, e1, ty, w⟩ c => by
  subst e1
  obtain ⟨a, dx, us, rfl, ha⟩ := ins_at rx
  obtain ⟨t, ty, nf⟩ := ty.ty ry
  refine ⟨a, dx, us, t, rfl, ha, ty, nf, O, _, _, hd, .cons rx (.cons ry .nil), w, fun d v H' ⟨n, e, q⟩ l q' => ?_⟩
  subst e; cases q'
  exact ⟨n, rfl, c _ _ H' q l (.bl n)⟩
theorem dr_neL {K : PySem.W.Frag} {C : Addr} {W : WpD} {E : XK} : DR2 (rNeL K C (spD W) E) (fun d e k => ∃ fs, d = .ins C fs ∧ RtD K C e ∧ W [d, e] fun r => ∃ b : Bool, r = .bl b ∧ k (.bl (!b))) := fun O H x y d e k Q hd rx ry ⟨fs, e1, ty, w⟩ c => by
  subst e1
  obtain ⟨a, dx, us, rfl, ha⟩ := ins_at rx
  obtain ⟨t, ty, nf⟩ := ty.ty ry
  refine ⟨a, dx, us, t, rfl, ha, ty, nf, O, _, _, hd, .cons rx (.cons ry .nil), w, fun d v H' ⟨n, e, q⟩ l q' => ?_⟩
  subst e; cases q'
  exact ⟨n, rfl, c _ _ H' q l (.bl _)⟩
theorem dr_eqR {K : PySem.W.Frag} {C : Addr} {W : WpD} {E : XK} : DR2 (rEqR K C (spD W) E) (fun d e k => ∃ fs T, e = .ins C fs ∧ BtD d T ∧ PySem.W.mroIn K C (.type T) = some false ∧ W [e, d] fun r => ∃ b : Bool, r = .bl b ∧ k (.bl b)) := fun O H x y d e k Q hd rx ry ⟨fs, T, e1, ty, sub, w⟩ c => by
  subst e1
  obtain ⟨a, dx, us, rfl, ha⟩ := ins_at ry
  refine ⟨a, dx, us, T, rfl, ha, ty.ty rx, sub, O, _, _, hd, .cons ry (.cons rx .nil), w, fun d v H' ⟨n, e, q⟩ l q' => ?_⟩
  subst e; cases q'
  exact ⟨n, rfl, c _ _ H' q l (.bl n)⟩
/-! in -/
/-- both may stand for one thing -/
def SameD (d e : Dat) : Prop := ∃ (H : Hp) (v : V), Rp H v d ∧ Rp H v e
def inChD (rd : Dat → Dat → (Dat → Prop) → Prop) (x : Dat) : List Dat → (Bool → Prop) → Prop
  | [], k => k false
  | y :: ys, k => (SameD y x → k true) ∧ rd y x fun r => ∃ b : Bool, r = .bl b ∧ if b = true then k true else inChD rd x ys k
theorem inCh_of {K : PySem.W.Frag} {r : R2} {rd : Dat → Dat → (Dat → Prop) → Prop} (hr : DR2 r rd) {O : List Addr} {H : Hp} {p : Addr} {xs : List V} {x : V} {d : Dat} {k : Bool → Prop} {Q : Bool → Hp → Prop} (hq : ∀ b H', k b → Le H H' → Q b H') :
    ∀ (ys : List V) (ds : List Dat) (H' : Hp), Le H H' → (∀ p ∈ O, ∃ o, H' p = some o) → RpL (hid O H') ys ds → Rp (hid O H') x d → H' p = some (.lst xs) → inChD rd d ds k → inCh K r x p xs ys H' Q
  | _, [], H', le, _, ry, _, _, w => by cases ry; exact hq false H' w le
  | _, dy :: ds, H', le, hd, ry, rx, hp, ⟨w1, w2⟩ => by
    cases ry with
    | cons ry t =>
      refine ⟨fun e => ?_, hr O H' _ _ _ _ _ _ hd ry rx w2 fun d' v H2 ⟨b, e, c⟩ l2 q => ?_⟩
      · subst e
        exact hq true H' (w1 ⟨_, _, ry, rx⟩) le
      · subst e; cases q
        refine ⟨b, rfl, l2.lst hp, ?_⟩
        cases b with
        | true => rw [if_pos rfl] at c ⊢; exact hq true H2 c (le.trans l2)
        | false =>
          rw [if_neg Bool.false_ne_true] at c ⊢
          exact inCh_of hr hq _ ds H2 (le.trans l2) (fun a ha => by obtain ⟨o, ho⟩ := hd a ha; exact (l2 a o ho).get) (t.mono l2.hid) (rx.mono l2.hid) (l2.lst hp) c
theorem dr_inO {K : PySem.W.Frag} {r : R2} {rd : Dat → Dat → (Dat → Prop) → Prop} {neg : Bool} (hr : DR2 r rd) : DR2 (rInO K r neg) (fun d e k => ∃ (C : Addr) (fs : List (Str × Dat)) (ds : List Dat), d = .ins C fs ∧ e = .lst ds ∧ inChD rd d ds fun b => k (.bl (if neg then !b else b))) := by
  intro O H x y d e k Q hd rx ry ⟨C, fs, ds, e1, e2, w⟩ c
  subst e1 e2
  obtain ⟨a, dx, gs, rfl, ha⟩ := ins_at rx
  cases ry with
  | lst hb r' =>
    exact ⟨a, _, _, rfl, rfl, (hid_some hb).2, inCh_of (Q := fun k H' => Q (V.bl (if neg = true then !k else k)) H') hr (fun b H' q l => c _ _ H' q l (.bl _)) _ ds H (Le.refl H) hd r' rx (hid_some hb).2 w⟩
/-! isinstance(x, C), x anything -/
/-- what isinstance tells -/
def IsAt (K : PySem.W.Frag) (C : Addr) (d : Dat) (b : Bool) : Prop := (∃ fs, d = .ins C fs ∧ InsC K C ∧ b = true) ∨ (∃ D fs, d = .ins D fs ∧ InsC K D ∧ PySem.W.kitOne K (.ref D) (.ref C) = some false ∧ b = false) ∨ (∃ T, BtD d T ∧ PySem.W.kitOne K (.type T) (.ref C) = some false ∧ b = false)
section
variable {z : Cz} {g : List Sl} {m : Nat} {C : Nat → Dat → Prop} {CL : Nat → List Dat → Prop} {ta : TE} {tr : TA} {K : PySem.W.Frag}
theorem XE.isA {Ca : Addr} (hc : ClsV (.ref Ca) (.ref Ca)) (h : XE z ta g m fun m1 d => ∃ b, IsAt K Ca d b ∧ C m1 (.bl b)) : XE z (tCB (rIsi K) (tCons ta (tCons (tC (.ref Ca)) tNil))) g m C := fun O σ H R Q k => h O σ H R _ fun m1 d v H1 ⟨b, i, c⟩ R1 l1 q1 => by
  have ty : ∃ t, TyX K H1 v t ∧ PySem.W.kitOne K t (.ref Ca) = some b := by
    rcases i with ⟨fs, rfl, ic, rfl⟩ | ⟨D, fs, rfl, ic, kk, rfl⟩ | ⟨T, bt, kk, rfl⟩
    · obtain ⟨a, dx, gs, rfl, ha⟩ := ins_at q1
      exact ⟨_, .base (.ins ha ic.cl ic.ha ic.hn ic.htk ic.hm), ic.me⟩
    · obtain ⟨a, dx, gs, rfl, ha⟩ := ins_at q1
      exact ⟨_, .base (.ins ha ic.cl ic.ha ic.hn ic.htk ic.hm), kk⟩
    · refine ⟨_, .base ?_, kk⟩
      cases bt.ty q1
      · exact .non
      · exact .bl _
      · exact .int _
      · exact .str _
      · exact .lst (by assumption)
      · exact .tup (by assumption)
  obtain ⟨t, ty, kk⟩ := ty
  exact ⟨v, .ref Ca, t, .ref Ca, b, rfl, hc, ty, kk, k m1 _ _ H1 c R1 l1 (.bl b)⟩
/-! zip of a list and a text -/
theorem XI.zipX (h : XA z tr g m fun m1 fs => dZipX fs fun ds es => CL m1 (zipD ds es)) : XI z (iZipX K tr) g m CL := fun O σ H R Q k => h O σ H R _ fun m1 fs vs H1 ⟨ds, v, e, hv, hl, c⟩ R1 l1 q1 => by
  subst e
  cases q1 with
  | cons r t =>
    cases t with
    | cons r' t =>
      cases t
      cases r'
      cases r with
      | lst ha r =>
        refine ⟨_, v, _, rfl, hv, SqL.of (hid_some ha).2, k m1 _ _ H1 c R1 l1 fun O' i H' lz hd => ?_⟩
        have ha2 := (hid_some (lz.le.lst ha)).2
        refine ⟨fun d hi => ?_, fun hi => ⟨_, SqL.of ha2, ?_⟩⟩
        · obtain ⟨x, y, hx, hy, rfl⟩ := zipD_at hi
          obtain ⟨w, hw, rw'⟩ := r.get hx
          rw [List.getElem?_map] at hy
          cases e : v.cps.toList[i]? with
          | none => rw [e] at hy; cases hy
          | some c0 =>
            rw [e] at hy; cases hy
            have e' : v.cps[i]? = some c0 := by rw [← Array.getElem?_toList]; exact e
            refine ⟨⟨_, w, c0, SqL.of ha2, hw, e'⟩, fun x H'' ⟨T, y1, c1, e1, n, e2, h1, h2⟩ => ?_⟩
            subst e1 e2
            have e1 := h1 _ (SqL.of ha2)
            rw [hw] at e1; cases e1
            rw [e'] at h2; cases h2
            exact rp_tup_new hd n (.cons (rw'.mono lz.le) (.cons (.str _) .nil))
        · rw [r.length]
          simp only [zipD, List.length_zipWith, List.length_map, Array.length_toList] at hi
          omega
end
end My
namespace My
open PySem PySem.Spec PyProof.Rows L2
theorem go_addS {i j : Str} {C : Dat → Prop} (h : i.length + j.length ≤ sizeLine) (c : C (.str (i ++ j))) : dAddS (.str i) (.str j) C := ⟨i, j, rfl, rfl, h, c⟩
theorem go_mulS {z : Str} {b : Bool} {C : Dat → Prop} (c : C (.str (if b = true then z else ""))) : dMulS (.str z) (.int (if b = true then 1 else 0)) C := ⟨z, b, rfl, rfl, c⟩
theorem go_ixS {z : Str} {i : Int} {c : Nat} {C : Dat → Prop} (h1 : z.length ≤ sizeLine) (h2 : atI z.cps.toList i = some c) (q : C (.str ⟨#[c]⟩)) : dIxS (.str z) (.int i) C := ⟨z, i, c, rfl, rfl, h1, h2, q⟩
theorem go_strI {i : Int} {C : Dat → Prop} (h : i.natAbs.log2 < 1920) (c : C (.str (toString i))) : dStrI [.int i] C := ⟨i, rfl, h, c⟩
theorem go_strS {i : Str} {C : Dat → Prop} (c : C (.str i)) : dStrS [.str i] C := ⟨i, rfl, c⟩
theorem go_joinO {a : Str} {ys : List Str} {C : Dat → Prop} (h : (ys.map (·.length)).sum + ys.length * a.length ≤ 16777216) (c : C (.str (PySem.Txt.join a ys))) : dJoin ys (.str a) C := ⟨a, rfl, h, c⟩
theorem go_orS {y : Str} {A : Dat → Prop} {B : Prop} (h : y.length ≤ sizeLine) (c : if y.length ≠ 0 then A (.str y) else B) : dOrS (.str y) A B := ⟨y, rfl, h, c⟩
theorem go_zipX {ds : List Dat} {v : Str} {C : List Dat → List Dat → Prop} (h1 : v.cps.all (· < 128) = true) (h2 : ds.length ≤ v.cps.size) (c : C ds (v.cps.toList.map fun c => .str ⟨#[c]⟩)) : dZipX [.lst ds, .str v] C := ⟨ds, v, rfl, h1, h2, c⟩
theorem go_mulS' {z : Str} {i : Int} (b : Bool) {C : Dat → Prop} (e : i = if b = true then 1 else 0) (c : C (.str (if b = true then z else ""))) : dMulS (.str z) (.int i) C := ⟨z, b, rfl, by rw [e], c⟩
end My

/-! ### own ==, !=, in, bool, str as rules of a walk -/
namespace My
open PySem PySem.Spec PyProof.Rows L2
open C8 (Cal pe_c pe_gc InsC call_isC)
def rEqS (K : PySem.W.Frag) (C : Addr) (sp : Sp) : R2 := fun x y H Q => rEqL K C sp E0 x y H Q ∨ rEqR K C sp E0 x y H Q
def rEqSS (K : PySem.W.Frag) (C : Addr) (sp : Sp) (C' : Addr) (sp' : Sp) : R2 := fun x y H Q => rEqS K C sp x y H Q ∨ rEqS K C' sp' x y H Q
section
variable {X : Cx} {C C' : Addr} {sp sp' : Sp} {k k' j : Nat}
theorem rc_S (c : SpE X.prog X.w X.K X.mg X.base k C sp) : RcR X k (rEqS X.K C sp) := by
  obtain ⟨f, fd, ps, F, s, b, _⟩ := c.ex
  exact (rc_eqL F s b pass0).or (rc_eqR F s b pass0)
theorem op_eqX (c : SpE X.prog X.w X.K X.mg X.base k C sp) (hr : Room j X.A) (hk : k ≤ j) : OpR X (compareOp .Eq) (rEqS X.K C sp) := (rc_S c).op hr hk
theorem op_eqXX (c : SpE X.prog X.w X.K X.mg X.base k C sp) (d : SpE X.prog X.w X.K X.mg X.base k' C' sp') (hr : Room j X.A) (hk : k ≤ j) (hk' : k' ≤ j) : OpR X (compareOp .Eq) (rEqSS X.K C sp C' sp') := ((rc_S c).op hr hk).or ((rc_S d).op hr hk')
theorem op_neX (c : SpE X.prog X.w X.K X.mg X.base k C sp) (hr : Room j X.A) (hk : k + 1 ≤ j) : OpR X (compareOp .NotEq) (rNeL X.K C sp E0) := by
  obtain ⟨f, fd, ps, F, s, b, o⟩ := c.ex
  exact op_neL F o b pass0 hr hk
theorem op_inS (c : SpE X.prog X.w X.K X.mg X.base k C sp) (hr : Room j X.A) (hk : k + 1 ≤ j) : OpR X (compareOp .In) (rInO X.K (rEqS X.K C sp) false) := op_inO (rc_S c) hr hk
theorem op_notInS (c : SpE X.prog X.w X.K X.mg X.base k C sp) (hr : Room j X.A) (hk : k + 1 ≤ j) : OpR X (compareOp .NotIn) (rInO X.K (rEqS X.K C sp) true) := op_notInO (rc_S c) hr hk
theorem call_boolS (c : SpM X.prog X.w X.K X.mg X.base k C "__len__" sp) (nb : PySem.W.findIn X.K (.ref C) "__bool__" = some none) (hr : Room j X.A) (hk : k + 3 ≤ j) : CallR X (.type "bool") (rBoolO C sp E0) := by
  obtain ⟨f, fd, ps, F, s, b⟩ := c.ex
  exact call_boolO F s nb b pass0 hr hk
theorem tru_lenS (c : SpM X.prog X.w X.K X.mg X.base k C "__len__" sp) (nb : PySem.W.findIn X.K (.ref C) "__bool__" = some none) (hr : Room j X.A) (hk : k + 1 ≤ j) : TruR X (rTruO C sp E0) := by
  obtain ⟨f, fd, ps, F, s, b⟩ := c.ex
  exact tru_lenO F s nb b pass0 hr hk
theorem call_strS (c : SpM X.prog X.w X.K X.mg X.base k C "__str__" sp) (hr : Room j X.A) (hk : k + 2 ≤ j) : CallR X (.type "str") (rStrO C sp E0) := by
  obtain ⟨f, fd, ps, F, s, b⟩ := c.ex
  exact call_strO F s b pass0 hr hk
end
def dEqS (K : PySem.W.Frag) (C : Addr) (W : WpD) : Dat → Dat → (Dat → Prop) → Prop := fun d e k => (∃ fs, d = .ins C fs ∧ RtD K C e ∧ W [d, e] fun r => ∃ b : Bool, r = .bl b ∧ k (.bl b)) ∨ (∃ fs T, e = .ins C fs ∧ BtD d T ∧ PySem.W.mroIn K C (.type T) = some false ∧ W [e, d] fun r => ∃ b : Bool, r = .bl b ∧ k (.bl b))
theorem dr_eqS {K : PySem.W.Frag} {C : Addr} {W : WpD} : DR2 (rEqS K C (spD W)) (dEqS K C W) := DR2.or dr_eqL dr_eqR
def dEqSS (K : PySem.W.Frag) (C : Addr) (W : WpD) (C' : Addr) (W' : WpD) : Dat → Dat → (Dat → Prop) → Prop := fun d e k => dEqS K C W d e k ∨ dEqS K C' W' d e k
theorem dr_eqSS {K : PySem.W.Frag} {C C' : Addr} {W W' : WpD} : DR2 (rEqSS K C (spD W) C' (spD W')) (dEqSS K C W C' W') := DR2.or dr_eqS dr_eqS
def dNeS (K : PySem.W.Frag) (C : Addr) (W : WpD) : Dat → Dat → (Dat → Prop) → Prop := fun d e k => ∃ fs, d = .ins C fs ∧ RtD K C e ∧ W [d, e] fun r => ∃ b : Bool, r = .bl b ∧ k (.bl (!b))
theorem dr_neS {K : PySem.W.Frag} {C : Addr} {W : WpD} : DR2 (rNeL K C (spD W) E0) (dNeS K C W) := dr_neL
def dInS (K : PySem.W.Frag) (C : Addr) (W : WpD) (neg : Bool) : Dat → Dat → (Dat → Prop) → Prop := fun d e k => ∃ (C0 : Addr) (fs : List (Str × Dat)) (ds : List Dat), d = .ins C0 fs ∧ e = .lst ds ∧ inChD (dEqS K C W) d ds fun b => k (.bl (if neg then !b else b))
theorem dr_inS {K : PySem.W.Frag} {C : Addr} {W : WpD} {neg : Bool} : DR2 (rInO K (rEqS K C (spD W)) neg) (dInS K C W neg) := dr_inO dr_eqS
def dStrO (C : Addr) (W : WpD) : List Dat → (Dat → Prop) → Prop := fun ds k => ∃ d fs, ds = [d] ∧ d = .ins C fs ∧ W [d] fun r => ∃ n : Str, r = .str n ∧ k (.str n)
theorem db_strO' {C : Addr} {W : WpD} {E : XK} : DCB (rStrO C (spD W) E) (dStrO C W) := db_strO
def dBoolO (C : Addr) (W : WpD) : List Dat → (Dat → Prop) → Prop := fun ds k => ∃ d fs, ds = [d] ∧ d = .ins C fs ∧ W [d] fun r => ∃ n : Int, r = .int n ∧ 0 ≤ n ∧ n < 2 ^ 63 ∧ k (.bl (n != 0))
theorem db_boolO' {C : Addr} {W : WpD} {E : XK} : DCB (rBoolO C (spD W) E) (dBoolO C W) := db_boolO
/-! two classes that know each other -/
structure TwoOk (K : PySem.W.Frag) (CH CN : Addr) : Prop where
  cN : ClsF K CN
  cH : ClsF K CH
  iN : InsC K CN
  iH : InsC K CH
  hn : PySem.W.subIn K (.ref CH) (.ref CN) = some false
  nh : PySem.W.subIn K (.ref CN) (.ref CH) = some false
  ne : CH ≠ CN
  mN : ∀ {d : Dat} {T : String}, BtD d T → PySem.W.mroIn K CN (.type T) = some false
  mH : ∀ {d : Dat} {T : String}, BtD d T → PySem.W.mroIn K CH (.type T) = some false
  bN : PySem.W.findIn K (.ref CN) "__bool__" = some none
  bH : PySem.W.findIn K (.ref CH) "__bool__" = some none
theorem mro_all {K : PySem.W.Frag} {C : Addr} (h0 : PySem.W.mroIn K C (.type "NoneType") = some false) (h1 : PySem.W.mroIn K C (.type "bool") = some false) (h2 : PySem.W.mroIn K C (.type "int") = some false) (h3 : PySem.W.mroIn K C (.type "str") = some false) (h4 : PySem.W.mroIn K C (.type "list") = some false) (h5 : PySem.W.mroIn K C (.type "tuple") = some false) :
    ∀ {d : Dat} {T : String}, BtD d T → PySem.W.mroIn K C (.type T) = some false := fun h => by
  cases h <;> assumption
theorem kit_bt {K : PySem.W.Frag} {C : Addr} (c : ClsF K C) {d : Dat} {T : String} (h : BtD d T) : PySem.W.kitOne K (.type T) (.ref C) = some false := by
  obtain ⟨l, q⟩ := h.mro
  refine kit_of_sub c ?_ rfl
  have e : ∀ l : List String, (l.map Value.type).contains (.ref C) = false := fun l => by
    induction l with
    | nil => rfl
    | cons a l ih => rw [List.map_cons, List.contains_cons, ih]; rfl
  show (fastBuiltinMro T).map (·.contains (.ref C)) = some false
  rw [q, Option.map_some, e]
section
variable {K : PySem.W.Frag} {CH CN : Addr}
theorem isAt_bt {C : Addr} (c : ClsF K C) {d : Dat} {T : String} (h : BtD d T) : IsAt K C d false := .inr (.inr ⟨T, h, kit_bt c h, rfl⟩)
theorem isAt_HN (t : TwoOk K CH CN) (fs : List (Str × Dat)) : IsAt K CN (.ins CH fs) false := .inr (.inl ⟨CH, fs, rfl, t.iH, kit_of_sub t.cN t.hn (by simpa using t.ne), rfl⟩)
theorem isAt_NH (t : TwoOk K CH CN) (fs : List (Str × Dat)) : IsAt K CH (.ins CN fs) false := .inr (.inl ⟨CN, fs, rfl, t.iN, kit_of_sub t.cH t.nh (by simpa using t.ne.symm), rfl⟩)
end
section
variable {z : Cz} {g : List Sl} {m : Nat} {CL : Nat → List Dat → Prop} {wi : TI} {gt : TG} {tt : TT} {te : TE}
/-- a list by its turns, none of which passes the test -/
theorem XN.lcNone {vs : List Nat} (h : XI z wi g m fun m1 ds => (∀ (i : Nat) (d : Dat), ds[i]? = some d → XG z vs gt d (wipeG g vs) fun g3 => XT z tt g3 m1 fun m3 b => b = false ∧ m3 = m1) ∧ CL m1 []) : XN z (tLc wi gt tt te vs) g m CL := XN.lc fun O σ H R Q k => h O σ H R Q fun m1 ds J H1 ⟨hb, c⟩ R1 l1 w =>
  k m1 ds J H1 ⟨fun i acc m2 => acc = [] ∧ m2 = m1, ⟨rfl, rfl⟩, fun i d acc m2 hi ⟨e1, e2⟩ => by
    subst e1 e2
    intro O m σ H v R q R' k'
    refine hb i d hi O m σ H v R q R' fun g' σ' c' R'' w' => k' g' σ' ?_ R'' w'
    intro O σ H R Q k
    refine c' O σ H R Q fun m' b H' ⟨e1, e2⟩ => k m' b H' ?_
    subst e1
    rw [if_neg Bool.false_ne_true]
    exact ⟨rfl, e2⟩, fun acc m2 ⟨e1, e2⟩ => by
    subst e1 e2
    exact c⟩ R1 l1 w
end
end My

namespace My
open PySem PySem.Spec PyProof.Rows L2
/-! ### lists of whole numbers, pairs, told of data -/
def optD : Option Nat → Dat
  | some r => .int (r : Int)
  | none => .non
def qD (q : Int × Int) : Dat := .tup [.int q.1, .int q.2]
def nsD (ns : List Int) : Dat := .lst (ns.map .int)
theorem rp_ns {G : List Addr} {H : Hp} {v : V} {ns : List Int} (r : Rp (hid G H) v (nsD ns)) : ∃ a, v = .ref a ∧ H a = some (.lst (ns.map V.int)) := by
  cases r with
  | lst h r =>
    refine ⟨_, rfl, ?_⟩
    rw [(hid_some h).2]
    have : ∀ {ns : List Int} {vs : List V}, RpL (hid G H) vs (ns.map Dat.int) → vs = ns.map V.int := by
      intro ns
      induction ns with
      | nil => intro vs r; cases r; rfl
      | cons n ns ih => intro vs r; cases r with
        | cons a t => cases a; rw [ih t]; rfl
    rw [this r]
theorem map_get {α : Type} {f : α → Dat} {xs : List α} {i : Nat} {d : Dat} (h : (xs.map f)[i]? = some d) : ∃ x, xs[i]? = some x ∧ d = f x := by
  rw [List.getElem?_map] at h
  cases e : xs[i]? with
  | none => rw [e] at h; cases h
  | some x => rw [e] at h; exact ⟨x, rfl, (Option.some.inj h).symm⟩
theorem rng_get {lo : Int} {n i : Nat} {d : Dat} (h : (rngD lo n)[i]? = some d) : i < n ∧ d = .int (lo + (i : Nat)) := by
  unfold rngD at h
  rw [List.getElem?_map] at h
  by_cases l : i < n
  · rw [List.getElem?_range l] at h
    exact ⟨l, (Option.some.inj h).symm⟩
  · rw [List.getElem?_eq_none (by rw [List.length_range]; omega)] at h; cases h
end My

namespace My
open PySem PySem.Spec PyProof.Rows L2
/-! ### lists of whole numbers compared -/
theorem eqD_ns : ∀ ns ms : List Int, eqD (nsD ns) (nsD ms) = decide (ns = ms)
  | [], [] => by simp [eqD, nsD, toP, toPs, PyData.eqv, PyData.eqvAll]
  | [], _ :: _ => by simp [eqD, nsD, toP, toPs, PyData.eqv, PyData.eqvAll]
  | _ :: _, [] => by simp [eqD, nsD, toP, toPs, PyData.eqv, PyData.eqvAll]
  | n :: ns, m :: ms => by
    have h := eqD_ns ns ms
    simp [eqD, nsD, toP, toPs, PyData.eqv, PyData.eqvAll] at h ⊢
    rw [h]
    by_cases e1 : n = m <;> simp [e1]
theorem plain_ns (ns : List Int) : plains (ns.map Dat.int) = true := by
  induction ns with
  | nil => rfl
  | cons x xs ih => exact ih
theorem dep_ns (ns : List Int) : deps (ns.map Dat.int) = 0 := by
  induction ns with
  | nil => rfl
  | cons x xs ih => show max 0 (deps (xs.map Dat.int)) = 0; rw [ih]; rfl
theorem cmp_ns (ns : List Int) : Cmp (nsD ns) := Cmp.of (plain_ns ns) (by show deps (ns.map Dat.int) + 1 ≤ 60; rw [dep_ns]; decide)
end My

namespace My
open PySem PySem.Spec PyProof.Rows L2
def W_must_poly (c : Cs) : WpX := fun ds C X => ∃ ns : List Int, ds = [nsD ns] ∧ ((faultOf ns).1 = true → C .non) ∧ ((faultOf ns).1 = false → X ⟨c.NoPoly, [("at", optD (faultOf ns).2)]⟩)
theorem ad_must_poly {c : Cs} {K : PySem.W.Frag} {vs : List V} {H : Hp} {Q : VK} {E : XK} (h : spX (W_must_poly c) vs H Q E) : sp_must_poly K c vs H Q E := by
  obtain ⟨G, ds, C, X, hd, r, ⟨ns, rfl, q, x⟩, k, kx⟩ := h
  cases r with
  | cons r t =>
    cases t
    obtain ⟨l, rfl, hl⟩ := rp_ns r
    refine ⟨l, ns, rfl, SqL.of hl, fun g H' s => k _ _ H' (q g) (.of s) .non, fun g d H' s n hdx => kx _ _ _ H' (x g) (.of s) ⟨rfl, .inr ⟨d, _, rfl, no_of_dom hd n, hdx, .cons rfl rfl ?_ .nil⟩⟩⟩
    cases (faultOf ns).2 with
    | none => exact .non
    | some m => exact .int _
end My

namespace My
open PySem PySem.Spec PyProof.Rows L2
open C8 (Cal pe_c pe_gc)
/-! ### what is caught and kept, told of data; max with a default -/
abbrev rLenS (K : PySem.W.Frag) : List V → Hp → VK → Prop := fun xs H Q => ∃ p ys, xs = [.ref p] ∧ (SqL K H p ys ∨ SqT K H p ys) ∧ Q (.int ys.length) H
def Catch (K : PySem.W.Frag) : List Value → Addr → Prop
  | [], _ => False
  | c :: cs, C => PySem.W.exmOne K (.ref C) c = some true ∨ (PySem.W.exmOne K (.ref C) c = some false ∧ Catch K cs C)
def keepS (i j : Nat) (cs : List Value) : List (Value × (Addr → Value → Option Addr → TS)) := cs.map fun c => (c, fun _ _ _ => tAsg (tVar i) (gName j))
theorem wKeep_ok {K : PySem.W.Frag} {i j : Nat} {Wout : WX} {D : Ends} {C : Addr} {d : Option Addr} {σ : L2.St} {H : Hp} (hf : ∀ a, H a = none → (tAsg (tVar i) (gName j)) (DKeep i a (.ref C) d D) (σ.set i (some (.ref a))) H) :
    ∀ {cs : List Value}, Catch K cs C → wKeep K i Wout D (keepS i j cs) (.ref C) d σ H
  | [], h => h.elim
  | c :: cs, h => by
    rcases h with h | ⟨h, t⟩
    · exact ⟨true, h, fun _ a ha => hf a ha, fun z => nomatch z⟩
    · exact ⟨false, h, (fun z => nomatch z), fun _ => wKeep_ok hf t⟩
section
variable {z : Cz} {g : List Sl} {m : Nat} {tr tk : TA} {E : DE} {K : PySem.W.Frag} {i j : Nat} {cs : List Value} {Wout : WX}
theorem exc_rp {O : List Addr} {H : Hp} {e : Err} {a : Addr} {d : Option Addr} (n : a ∉ O) (ha : H a = none) (q : ErrAt O H e (.ref e.C) d) : Rp (hid O (upd H a (ExV (.ref e.C) d a))) (.ref a) (.exc e.C e.fs) := by
  obtain ⟨_, ⟨hf, rfl⟩ | ⟨dd, fvs, rfl, nd, hd, rf⟩⟩ := q
  · rw [hf]
    exact .exc0 (by rw [hid_out n]; exact upd_same)
  · have l : Le H (upd H a (ExV (.ref e.C) (some dd) a)) := .new ha
    refine .exc1 (by rw [hid_out n]; exact upd_same) ?_ (rf.mono l.hid)
    rw [hid_out nd, upd_ne (fun y => by subst y; rw [ha] at hd; cases hd)]
    exact hd
/-- try: x(..) with clauses that keep what was caught -/
theorem XS.tryDrop {Wp : WpX} {X : Nat → Err → Prop} (hx : XA z tr g m fun m1 ds => Wp ds (fun _ => E.nx g m1) (X m1)) (hc : ∀ m' e, X m' e → Catch K cs e.C ∧ E.nx ((g.set j (.dt (.exc e.C e.fs))).set i .un) m') (ij : i ≠ j) (il : i < g.length) :
    XS z (fun D σ H => tDrop (tCallS (spX Wp) (fun σ cls d H' => wKeep K i Wout D (keepS i j cs) cls d σ H') tr) D σ H) g m E := fun O σ H R D k =>
  hx O σ H R _ fun m1 ds vs H1 c R1 l1 q1 => ⟨O, ds, _, X m1, R1.dom, q1, c, fun d v H' c' l' q' => k.nx _ _ _ _ _ c' (R1.up l') ((l1.trans l'.x).z R.po), fun e cls d H' x l' q => by
    obtain ⟨hcat, hn⟩ := hc m1 e x
    have ec := q.1
    subst ec
    refine wKeep_ok (fun a ha => ?_) hcat
    have R2 := R1.up l'
    have n : a ∉ O := no_of_dom R2.dom ha
    have l3 : Le H' (upd H' a (ExV (.ref e.C) d a)) := .new ha
    have R3 := R2.up l3
    have R4 := (R3.set j (exc_rp n ha q)).un i none
    refine ⟨.ref a, by rw [List.getElem?_set_self (by rw [R.len]; exact il)], fun _ => ?_⟩
    have es : (((σ.set i (some (V.ref a))).set j (some (.ref a))).set i none) = ((σ.set j (some (.ref a))).set i none) := by
      rw [List.set_comm _ _ ij, List.set_set]
    show D.nx (((σ.set i (some (V.ref a))).set j (some (.ref a))).set i none) _
    rw [es]
    exact k.nx _ _ _ _ _ hn R4 (((l1.trans l'.x).trans l3.x).z R.po)⟩
end
/-! max(xs, default=d) -/
def tMaxD (K : PySem.W.Frag) (t tk : TA) : TE := fun σ H Q => t σ H fun vs H1 => tk σ H1 fun zs H2 => ∃ (a : Addr) (n d : Int) (r : List Int), vs = [.ref a] ∧ zs = [.int d] ∧ SqL K H2 a ((n :: r).map V.int) ∧ Q (.int (r.foldl max n)) H2
theorem dpI {K : PySem.W.Frag} {H : Hp} : ∀ ns : List Int, DpAll K H (ns.map V.int) (ns.map PyData.int)
  | [] => .nil
  | n :: r => .cons (.int n) (dpI r)
theorem depI : ∀ ns : List Int, PyData.depthAll (ns.map PyData.int) ≤ 1
  | [] => by simp [PyData.depthAll]
  | n :: r => by
    have := depI r
    simp only [List.map_cons, PyData.depthAll, PyData.depth]
    omega
theorem alikeI (ns : List Int) : PySem.W.AlikeAll (ns.map PyData.int) := ⟨fun x hx y hy => by
  obtain ⟨i, _, rfl⟩ := List.mem_map.mp hx
  obtain ⟨j, _, rfl⟩ := List.mem_map.mp hy
  rfl, fun x hx => by
  obtain ⟨i, _, rfl⟩ := List.mem_map.mp hx
  exact fun z => nomatch z⟩
theorem pe_maxD {X : Cx} {e : Expr} {t tk : TA} {p pos : Pos} {kws : List Keyword} (hu : X.A.units + 64 < cLine) (hc : X.calm = true) (hg : Gl X "max") (hm : X.mg "max" = none) (ha : PA X [e] t) (hk : PK X kws tk)
    (he : backTo pos (starEach [e] X.env) = (false, eval e X.env) :: backTo pos (starEach [] X.env) := by rfl) (hpl : (backTo pos (starEach [e] X.env)).any (·.1) = false := by rfl)
    (hall : (backToKw pos (keywordEach kws X.env)).all (·.1.isSome) = true := by rfl) (hnone : (backToKw pos (keywordEach kws X.env)).any (·.1.isNone) = false := by rfl) (hks : (backToKw pos (keywordEach kws X.env)).filterMap (·.1) = [Str.ofString "default"] := by rfl) :
    PE X (.Call (.Name "max" p) [e] kws pos) (tMaxD X.K t tk) := by
  refine ⟨fun pins s σ H Q I h => ?_⟩
  refine wpAny_Call_Name_kw (ld_blt I hg hm (show bootBuiltins "max" = some (.builtin "max") from by kernel_rfl) ?_ (by decide) (by decide))
  refine PyProof.Rows.callWith_kw (thn (ha.run pos pins s σ H _ I h) fun us s1 ⟨vs, H1, I1, r, q⟩ => thn (hk.run pos pins s1 σ H1 _ I1 q) fun ws s2 ⟨zs, H2, I2, rz, a, n, d, r', e1, e2, hs, q2⟩ => ?_) he hpl hall hnone
  subst e1 e2
  rw [hks]
  obtain ⟨w', rfl, rw'⟩ := vals1 rz
  obtain ⟨its, rv, hl, _⟩ := I2.list hs
  rw [Vals.ref1 r]
  obtain ⟨as, hr⟩ := Dp.readsAll I2 ((n :: r').map PyData.int) _ its (dpI _) rv
  refine PySem.W.max_list_default (I2.ok.hd hc) hl.isList hr (alikeI _) (by have := depI (n :: r'); omega) (fun z => nomatch z) fun y ys i v h' tk bs e hv rd hk' => ?_
  have ey : y = PyData.int n ∧ ys = r'.map PyData.int := by
    have e' : PyData.int n :: r'.map PyData.int = y :: ys := e
    injection e' with e1 e2
    exact ⟨e1.symm, e2.symm⟩
  rw [ey.1, ey.2, PySem.W.maxD_ints] at rd
  cases rd with
  | int i t => exact ⟨.int _, H2, I2.kept hk', ⟨_, rfl⟩, q2⟩
section
variable {z : Cz} {g : List Sl} {m : Nat} {C : Nat → Dat → Prop} {t tk : TA} {K : PySem.W.Frag}
theorem XE.maxD (h : XA z t g m fun m1 ds => XA z tk g m1 fun m2 es => ∃ (n d : Int) (r : List Int), ds = [.lst ((n :: r).map Dat.int)] ∧ es = [.int d] ∧ C m2 (.int (r.foldl max n))) : XE z (tMaxD K t tk) g m C := fun O σ H R Q k =>
  h O σ H R _ fun m1 ds vs H1 c1 R1 l1 q1 => c1 O σ H1 R1 _ fun m2 es zs H2 ⟨n, d, r, e1, e2, c⟩ R2 l2 q2 => by
    subst e1 e2
    cases q1 with
    | cons q1 t1 =>
      cases t1
      cases q2 with
      | cons q2 t2 =>
        cases q2; cases t2
        obtain ⟨a, rfl, ha⟩ := rp_ns (ns := n :: r) (q1.mono (l2.hid R1.po))
        exact ⟨a, n, d, r, rfl, rfl, SqL.of ha, k m2 _ _ H2 c R2 (l1.trans l2) (.int _)⟩
end
end My

namespace My
open PySem PySem.Spec PyProof.Rows L2
section
variable {z : Cz} {g : List Sl} {m : Nat} {CL : Nat → List Dat → Prop} {wi : TI} {gt : TG} {tt : TT} {te : TE}
/-- a list by its turns, with a test -/
theorem XN.sel {vs : List Nat} {α : Type} (h : XI z wi g m fun m1 ds => ∃ (xs : List α) (f k : α → Dat) (p : α → Bool), ds = xs.map f ∧ xs.length ≤ 1000 ∧ (∀ x ∈ xs, XG z vs gt (f x) (wipeG g vs) fun g3 => XT z tt g3 m1 fun m3 b => m3 = m1 ∧ b = p x ∧ (p x = true → XE z te g3 m1 fun m4 y => m4 = m1 ∧ y = k x)) ∧ CL m1 ((xs.filter p).map k)) : XN z (tLc wi gt tt te vs) g m CL := XN.lc fun O σ H R Q kk => h O σ H R Q fun m1 ds J H1 ⟨xs, f, k, p, hd, hl, hb, c⟩ R1 l1 w =>
  kk m1 ds J H1 ⟨fun i acc m2 => acc = ((xs.take i).filter p).map k ∧ m2 = m1, ⟨rfl, rfl⟩, fun i d acc m2 hi ⟨e1, e2⟩ => by
    subst e1 e2 hd
    rw [List.getElem?_map] at hi
    cases hx : xs[i]? with
    | none => rw [hx] at hi; cases hi
    | some x =>
      rw [hx] at hi
      have ed : f x = d := Option.some.inj hi
      subst ed
      have tk := take_more hx
      intro O m σ H v R q R' k'
      refine hb x (List.mem_of_getElem? hx) O m σ H v R q R' fun g' σ' c' R'' w' => k' g' σ' ?_ R'' w'
      intro O σ H R Q k
      refine c' O σ H R Q fun m' b H' ⟨e1, e2, e3⟩ => k m' b H' ?_
      subst e1
      subst e2
      by_cases hp : p x = true
      · rw [if_pos hp]
        intro O σ H R Q k
        refine e3 hp O σ H R Q fun m'' y v H' ⟨e1, e2⟩ => k m'' y v H' ⟨?_, ?_, e1⟩
        · rw [List.length_map]
          have h1 := List.length_filter_le p (xs.take i)
          have h2 : (xs.take i).length ≤ xs.length := by rw [List.length_take]; omega
          omega
        · rw [e2, tk, List.filter_append, List.filter_cons_of_pos hp, List.filter_nil, List.map_append]; rfl
      · rw [if_neg hp]
        refine ⟨?_, rfl⟩
        rw [tk, List.filter_append, List.filter_cons_of_neg hp, List.filter_nil, List.append_nil], fun acc m2 ⟨e1, e2⟩ => by
    subst e1 e2 hd
    rw [List.length_map, List.take_of_length_le (Nat.le_refl _)]
    exact c⟩ R1 l1 w
theorem XE.eqOD {K : PySem.W.Frag} {tb : TE} {C : Nat → Dat → Prop} {i : Nat} {ds : List Dat} (hg : g[i]? = some (.ow ds)) (h : XE z tb g m fun m1 d1 => Cmp d1 ∧ Cmp (.lst ds) ∧ C m1 (.bl (eqD (.lst ds) d1))) : XE z (tOp (rEqD K) (tVar i) tb) g m C := fun O σ H R Q k => by
  obtain ⟨p, vs, e, _⟩ := R.sl i _ hg
  refine ⟨_, e, h O σ H R _ fun m1 d1 x H1 ⟨c1, c2, c⟩ R1 l1 q1 => ?_⟩
  obtain ⟨p', vs', e', po, pG, hp, q⟩ := R1.sl i _ hg
  rw [e] at e'
  cases e'
  exact ⟨toP (.lst ds), toP d1, .lst (SqL.of hp) (q.dp (by simpa [plain] using c2.p)), q1.dp c1.p, c2.s, c1.s, k m1 _ _ H1 c R1 l1 (.bl _)⟩
theorem XE.neOD {K : PySem.W.Frag} {tb : TE} {C : Nat → Dat → Prop} {i : Nat} {ds : List Dat} (hg : g[i]? = some (.ow ds)) (h : XE z tb g m fun m1 d1 => Cmp d1 ∧ Cmp (.lst ds) ∧ C m1 (.bl (!eqD (.lst ds) d1))) : XE z (tOp (rNeD K) (tVar i) tb) g m C := fun O σ H R Q k => by
  obtain ⟨p, vs, e, _⟩ := R.sl i _ hg
  refine ⟨_, e, h O σ H R _ fun m1 d1 x H1 ⟨c1, c2, c⟩ R1 l1 q1 => ?_⟩
  obtain ⟨p', vs', e', po, pG, hp, q⟩ := R1.sl i _ hg
  rw [e] at e'
  cases e'
  exact ⟨toP (.lst ds), toP d1, .lst (SqL.of hp) (q.dp (by simpa [plain] using c2.p)), q1.dp c1.p, c2.s, c1.s, k m1 _ _ H1 c R1 l1 (.bl _)⟩
end
end My

namespace My
open PySem PySem.Spec PyProof.Rows L2
open C8 (Cal pe_c pe_gc InsC call_isC)
/-! ### try with branches, and with a method called -/
section
variable {z : Cz} {g : List Sl} {m : Nat} {E : DE} {K : PySem.W.Frag} {i j : Nat} {cs : List Value} {Wout : WX}
theorem XS.iteU {tt : TT} {A B : Ends → TS} (h : XT z tt g m fun m1 b => if b = true then XS z (fun D σ H => A D D σ H) g m1 E else XS z (fun D σ H => B D D σ H) g m1 E) : XS z (fun D σ H => tIfS tt (A D) (B D) D σ H) g m E := fun O σ H R D k => h O σ H R _ fun m1 b H1 c R1 l1 => by
  have k1 := k.mono (l1.z R.po)
  cases b with
  | true => exact c O σ H1 R1 D k1
  | false => exact c O σ H1 R1 D k1
theorem XS.tryDropM {W : WpX} {X : Nat → Err → Prop} {Ca : Addr} {x : Str} {n nk : Nat} {tm : List Pk} {to : TE} {t tk : TA} (ok : tm.all (pkOk n nk) = true) (hc : ∀ m' e, X m' e → Catch K cs e.C ∧ E.nx ((g.set j (.dt (.exc e.C e.fs))).set i .un) m') (ij : i ≠ j) (il : i < g.length)
    (h : XE z to g m fun m0 d0 => IsIns Ca x d0 ∧ XA z t g m0 fun m1 ds => XA z tk g m1 fun m2 es => ds.length + 1 = n ∧ es.length = nk ∧ W (pickD tm (d0 :: ds) es) (fun _ => E.nx g m2) (X m2)) :
    XS z (fun D σ H => tDrop (tKm Ca x (spX W) n nk tm (fun σ cls d H' => wKeep K i Wout D (keepS i j cs) cls d σ H') to t tk) D σ H) g m E := fun O σ H R D k =>
  h O σ H R _ fun m0 d0 v0 H0 ⟨hi, c0⟩ R0 l0 q0 => by
    obtain ⟨a, dx, fs, ev, ha, hl⟩ := hi.get q0
    refine ⟨a, dx, fs, ev, ha, hl, c0 O σ H0 R0 _ fun m1 ds vs H1 c1 R1 l1 q1 => c1 O σ H1 R1 _ fun m2 es zs H2 ⟨e1, e2, c⟩ R2 l2 q2 => ?_⟩
    have q1' := RpL.cons (q0.mono ((l1.trans l2).hid R0.po)) (q1.mono (l2.hid R1.po))
    have l02 := (l0.trans l1).trans l2
    refine ⟨by rw [q1.length]; exact e1, by rw [q2.length]; exact e2, O, _, (fun _ => E.nx g m2), X m2, R2.dom, q1'.pick q2 ok, c, fun d v H' c' l' q' => k.nx _ _ _ _ _ c' (R2.up l') ((l02.trans l'.x).z R.po), fun e cls d H' x l' q => ?_⟩
    obtain ⟨hcat, hn⟩ := hc m2 e x
    have ec := q.1
    subst ec
    refine wKeep_ok (fun a ha => ?_) hcat
    have R2 := R2.up l'
    have nO : a ∉ O := no_of_dom R2.dom ha
    have l3 : Le H' (upd H' a (ExV (.ref e.C) d a)) := .new ha
    have R3 := R2.up l3
    have R4 := (R3.set j (exc_rp nO ha q)).un i none
    refine ⟨.ref a, by rw [List.getElem?_set_self (by rw [R.len]; exact il)], fun _ => ?_⟩
    have es : (((σ.set i (some (V.ref a))).set j (some (.ref a))).set i none) = ((σ.set j (some (.ref a))).set i none) := by
      rw [List.set_comm _ _ ij, List.set_set]
    show D.nx (((σ.set i (some (V.ref a))).set j (some (.ref a))).set i none) _
    rw [es]
    exact k.nx _ _ _ _ _ hn R4 (((l02.trans l'.x).trans l3.x).z R.po)
end
end My

/-! ### texts as lists of signs: parts, cuts, numbers -/
namespace My
open PySem PySem.StrLaws PySem.Builtin PySem.Builtin.Str PySem.NumText
/-- a text's signs -/
abbrev cp (x : Str) : List Nat := x.cps.toList
def ofL (l : List Nat) : Str := ⟨l.toArray⟩
theorem cp_ofL (l : List Nat) : cp (ofL l) = l := by simp [cp, ofL]
theorem cp_ext {x y : Str} (h : cp x = cp y) : x = y := Str.ext' (Array.toList_inj.mp h)
theorem ofL_cp (x : Str) : ofL (cp x) = x := cp_ext (cp_ofL _)
theorem cp_app (x y : Str) : cp (x ++ y) = cp x ++ cp y := by
  show (x.cps ++ y.cps).toList = _
  simp
theorem cp_len (x : Str) : x.length = (cp x).length := by simp [cp, Str.length]
theorem cp_one (c : Nat) : cp (⟨#[c]⟩ : Str) = [c] := rfl
theorem cp_nil {x : Str} : cp x = [] ↔ x = "" := ⟨fun h => cp_ext (by rw [h]; decide +kernel), fun h => by rw [h]; decide +kernel⟩
/-! replace -/
theorem repl_free {y0 : Nat} {y z : List Nat} : ∀ {p : List Nat} (r : List Nat), y0 ∉ p → replL (y0 :: y) z (p ++ r) = p ++ replL (y0 :: y) z r
  | [], _, _ => rfl
  | a :: p, r, h => by
    have ha : a ≠ y0 := fun e => h (by rw [e]; exact List.mem_cons_self ..)
    rw [List.cons_append, replL_miss (by
      intro e
      rw [List.length_cons, List.take_succ_cons] at e
      injection e with e1 _
      exact ha e1), repl_free r (fun q => h (List.mem_cons_of_mem _ q))]
    rfl
theorem repl_free' {y0 : Nat} {y z p : List Nat} (h : y0 ∉ p) : replL (y0 :: y) z p = p := by
  have := repl_free (y := y) (z := z) [] h
  rw [List.append_nil, replL_nil, List.append_nil] at this
  exact this
theorem repl_here {y z : List Nat} (hy : y ≠ []) (r : List Nat) : replL y z (y ++ r) = z ++ replL y z r := by
  cases y with
  | nil => exact absurd rfl hy
  | cons a y =>
    have ht : (a :: (y ++ r)).take (a :: y).length = a :: y := by
      rw [← List.cons_append, List.take_append_of_le_length (Nat.le_refl _), List.take_length]
    rw [List.cons_append, replL_hit hy ht, ← List.cons_append, List.drop_append_of_le_length (Nat.le_refl _), List.drop_length, List.nil_append]
theorem repl_pass {y z : List Nat} {a : Nat} {r : List Nat} (h : (a :: r).take y.length ≠ y) : replL y z (a :: r) = a :: replL y z r := replL_miss h
/-! cut -/
/-- parts with c between them -/
def gluC (c : Nat) : List (List Nat) → List Nat
  | [] => []
  | [p] => p
  | p :: q :: r => p ++ c :: gluC c (q :: r)
theorem gluC_cons (c : Nat) (p : List Nat) {q : List (List Nat)} (h : q ≠ []) : gluC c (p :: q) = p ++ c :: gluC c q := by
  cases q with
  | nil => exact absurd rfl h
  | cons a q => rfl
theorem app_inj {c : Nat} : ∀ {p q r s : List Nat}, c ∉ p → c ∉ q → p ++ c :: r = q ++ c :: s → p = q ∧ r = s
  | [], [], _, _, _, _, h => ⟨rfl, by injection h⟩
  | [], a :: q, _, _, _, hq, h => by
    injection h with e _
    exact absurd (by rw [e]; exact List.mem_cons_self ..) hq
  | a :: p, [], _, _, hp, _, h => by
    injection h with e _
    exact absurd (by rw [← e]; exact List.mem_cons_self ..) hp
  | a :: p, b :: q, _, _, hp, hq, h => by
    injection h with e h
    obtain ⟨e1, e2⟩ := app_inj (fun z => hp (List.mem_cons_of_mem _ z)) (fun z => hq (List.mem_cons_of_mem _ z)) h
    exact ⟨by rw [e, e1], e2⟩
theorem gluC_inj {c : Nat} : ∀ {ps qs : List (List Nat)}, ps ≠ [] → qs ≠ [] → (∀ p ∈ ps, c ∉ p) → (∀ q ∈ qs, c ∉ q) → gluC c ps = gluC c qs → ps = qs
  | [], _, h, _, _, _, _ => absurd rfl h
  | _, [], _, h, _, _, _ => absurd rfl h
  | [p], [q], _, _, _, _, h => by rw [show p = q from h]
  | [p], q :: q' :: qs, _, _, hp, _, h => by
    have h : p = q ++ c :: gluC c (q' :: qs) := h
    exact absurd (by rw [h]; simp) (hp p (List.mem_cons_self ..))
  | p :: p' :: ps, [q], _, _, _, hq, h => by
    have h : p ++ c :: gluC c (p' :: ps) = q := h
    exact absurd (by rw [← h]; simp) (hq q (List.mem_cons_self ..))
  | p :: p' :: ps, q :: q' :: qs, _, _, hp, hq, h => by
    have h : p ++ c :: gluC c (p' :: ps) = q ++ c :: gluC c (q' :: qs) := h
    obtain ⟨e1, e2⟩ := app_inj (hp p (List.mem_cons_self ..)) (hq q (List.mem_cons_self ..)) h
    rw [e1, gluC_inj (ps := p' :: ps) (qs := q' :: qs) (by simp) (by simp) (fun x hx => hp x (List.mem_cons_of_mem _ hx)) (fun x hx => hq x (List.mem_cons_of_mem _ hx)) e2]
theorem glueT_gluC (c : Nat) : ∀ ps : List Str, glueT [c] ps = gluC c (ps.map cp)
  | [] => rfl
  | [p] => by show cp p ++ [] = cp p; rw [List.append_nil]
  | p :: q :: r => by
    have h := glueT_gluC c (q :: r)
    show cp p ++ ([c] ++ glueT [c] (q :: r)) = cp p ++ c :: gluC c ((q :: r).map cp)
    rw [h]
    rfl
/-- a sign that is in none -/
theorem fresh_sign (l : List Nat) : ∃ c, c ∉ l := by
  refine ⟨l.sum + 1, fun h => ?_⟩
  have : ∀ {l : List Nat} {x : Nat}, x ∈ l → x ≤ l.sum := fun {l} => by
    induction l with
    | nil => intro x h; cases h
    | cons a l ih =>
      intro x h
      rw [List.sum_cons]
      rcases List.mem_cons.mp h with e | h
      · omega
      · have := ih h; omega
  have := this h
  omega
theorem kind_one {y : Str} (h : (cp y).all (fun k => decide (k < 256)) = true) : Str.strKind y = 1 := by
  unfold Str.strKind
  rw [if_pos]
  rw [← Array.all_toList]
  exact h
theorem kind_ge (x : Str) : 1 ≤ Str.strKind x := by
  unfold Str.strKind
  split
  · exact Nat.le_refl _
  · split <;> decide
/-- x.split(y): what the parts are, told by the text with a sign of its own for y -/
theorem split_of {x y : Str} {ps : List (List Nat)} (hy : 1 ≤ y.length) (hk : (cp y).all (fun k => decide (k < 256)) = true) (hp : ps ≠ []) (h : ∀ c, replL (cp y) [c] (cp x) = gluC c ps) : (Txt.split x y).map cp = ps := by
  obtain ⟨c, hc⟩ := fresh_sign (cp x ++ ps.flatten)
  have hx : c ∉ cp x := fun z => hc (List.mem_append_left _ z)
  have hps : ∀ p ∈ ps, c ∉ p := fun p m z => hc (List.mem_append_right _ (List.mem_flatten.mpr ⟨p, m, z⟩))
  obtain ⟨f, hch, hn⟩ := occ_tight x y hy
  have hr := repl_chain (z := (⟨#[c]⟩ : Str)) hy _ 0 f hch hn (Nat.zero_le _)
  rw [List.drop_zero] at hr
  have hz : (⟨#[c]⟩ : Str).cps.toList = [c] := rfl
  rw [hz, h c, glueT_gluC] at hr
  have es : Txt.split x y = partsFrom x y.length 0 (occurrences x y 0 x.length (x.length + 1)) := by
    unfold Txt.split
    have k1 : ¬ Str.strKind x < Str.strKind y := by rw [kind_one hk]; have := kind_ge x; omega
    rw [decide_eq_false k1, Bool.or_false]
    by_cases hl : x.length < y.length
    · rw [if_pos (decide_eq_true hl)]
      have e0 : occurrences x y 0 x.length (x.length + 1) = [] := by
        cases e : occurrences x y 0 x.length (x.length + 1) with
        | nil => rfl
        | cons a r =>
          rw [e] at hch
          have := hch.2.1.1
          omega
      rw [e0]
      show [x] = [strSub x 0 x.length]
      rw [sub_whole]
    · rw [if_neg (by rw [decide_eq_false hl]; exact Bool.false_ne_true)]
      cases e : occurrences x y 0 x.length (x.length + 1) with
      | nil =>
        show [x] = [strSub x 0 x.length]
        rw [sub_whole]
      | cons a r => rw [if_neg (by simp), partsBetween_eq]
  rw [es]
  obtain ⟨p, q, e⟩ := partsFrom_ne x y.length 0 (occurrences x y 0 x.length (x.length + 1))
  refine (gluC_inj (c := c) (ps := (partsFrom x y.length 0 (occurrences x y 0 x.length (x.length + 1))).map cp) (by rw [e]; simp) hp (fun p hp z => ?_) hps hr).symm ▸ rfl
  obtain ⟨t, ht, rfl⟩ := List.mem_map.mp hp
  have sub : ∀ (cuts : List Nat) (a : Nat), ∀ t ∈ partsFrom x y.length a cuts, ∀ k ∈ cp t, k ∈ cp x := fun cuts => by
    induction cuts with
    | nil =>
      intro a t ht k hk
      rw [List.mem_singleton.mp ht, show cp (strSub x a x.length) = _ from strSub_toList x a x.length] at hk
      exact List.mem_of_mem_drop (List.mem_of_mem_take hk)
    | cons b r ih =>
      intro a t ht k hk
      rcases List.mem_cons.mp ht with e | ht
      · rw [e, show cp (strSub x a b) = _ from strSub_toList x a b] at hk
        exact List.mem_of_mem_drop (List.mem_of_mem_take hk)
      · exact ih _ t ht k hk
  exact hx (sub _ _ t ht c z)
/-! partition by a sign -/
theorem part_no {x : Str} {c : Nat} (h : c ∉ cp x) : Txt.partition x ⟨#[c]⟩ = (x, ("" : Str), ("" : Str)) := by
  unfold Txt.partition
  rcases occ_head x ⟨#[c]⟩ 1 (Nat.le_refl 1) with ⟨h0, _⟩ | ⟨i, r, h0, hi, _⟩
  · rw [h0]
    rfl
  · exact absurd (List.mem_of_getElem? ((subAt_one x c i).mp hi)) h
theorem part_yes {x : Str} {c : Nat} {p q : List Nat} (e : cp x = p ++ c :: q) (h : c ∉ p) : Txt.partition x ⟨#[c]⟩ = (ofL p, ⟨#[c]⟩, ofL q) := by
  unfold Txt.partition
  have at_p : At x ⟨#[c]⟩ x.length p.length := (subAt_one x c p.length).mpr (by rw [show x.cps.toList = p ++ c :: q from e]; simp)
  have xl : x.length = p.length + (q.length + 1) := by rw [cp_len, e]; simp
  rcases occ_head x ⟨#[c]⟩ 1 (Nat.le_refl 1) with ⟨_, hn⟩ | ⟨i, r, h0, hi, hn⟩
  · exact absurd at_p (hn _)
  · have hip : i = p.length := by
      rcases Nat.lt_trichotomy i p.length with l | l | l
      · have := (subAt_one x c i).mp hi
        rw [show x.cps.toList = p ++ c :: q from e, List.getElem?_append_left l] at this
        exact absurd (List.mem_of_getElem? this) h
      · exact l
      · exact absurd at_p (hn _ l)
    rw [h0, hip]
    have e1 : strSub x 0 p.length = ofL p := cp_ext (by
      rw [cp_ofL, show cp (strSub x 0 p.length) = _ from strSub_toList x 0 p.length, show x.cps.toList = p ++ c :: q from e]
      simp)
    have e2 : strSub x (p.length + 1) x.length = ofL q := cp_ext (by
      rw [cp_ofL, show cp (strSub x (p.length + 1) x.length) = _ from strSub_toList x (p.length + 1) x.length, show x.cps.toList = p ++ c :: q from e, xl]
      rw [List.drop_append, List.drop_eq_nil_of_le (by omega), show p.length + 1 - p.length = 1 by omega, List.nil_append, List.drop_succ_cons, List.drop_zero]
      exact List.take_of_length_le (by omega))
    show (strSub x 0 p.length, (⟨#[c]⟩ : Str), strSub x (p.length + 1) x.length) = _
    rw [e1, e2]
/-! numbers -/
def digs (n : Nat) : List Nat := (Nat.toDigits 10 n).map Char.toNat
theorem cp_nat (n : Nat) : cp ((toString (n : Int) : String) : Str) = digs n := PySem.W.KIN.signs_num n
theorem digs_all (n : Nat) : AllDigits (digs n) := fun c hc => by
  obtain ⟨ch, hch, e⟩ := List.mem_map.mp hc
  have r := PyProof.Rows.digit_range (Nat.isDigit_of_mem_toDigits (by decide) (by decide) hch)
  rw [← e]
  exact r
theorem digs_val (n : Nat) : digitsVal (digs n) = n := PySem.W.KIN.val_back n
theorem digs_ne (n : Nat) : digs n ≠ [] := fun e => by
  have h := PySem.toDigits_len_ge 10 n
  rw [List.map_eq_nil_iff.mp e] at h
  exact absurd h (by decide)
end My

/-! ### sums as texts: pieces with signs between, and back -/
namespace My
open PySem PySem.StrLaws PySem.Builtin PySem.Builtin.Str PySem.NumText L2
theorem cut_to (x : Str) (k : Nat) : cp (cutS x none (some (k : Int))) = (cp x).take k := by
  unfold cutS
  have e : HT.sIx x.length x.length (some (k : Int)) = min k x.length := by simp [HT.sIx]; omega
  have e0 : HT.sIx x.length 0 none = 0 := rfl
  show (((cp x).drop _).take _).toArray.toList = _
  rw [e, e0, List.drop_zero, Nat.sub_zero, List.toList_toArray, cp_len]
  rw [List.take_eq_take_iff]
  omega
theorem cut_from (x : Str) (k : Nat) : cp (cutS x (some (k : Int)) none) = (cp x).drop k := by
  unfold cutS
  have e : HT.sIx x.length 0 (some (k : Int)) = min k x.length := by simp [HT.sIx]; omega
  have e0 : HT.sIx x.length x.length none = x.length := rfl
  show (((cp x).drop _).take _).toArray.toList = _
  rw [e, e0, List.toList_toArray, cp_len]
  by_cases h : k ≤ (cp x).length
  · rw [Nat.min_eq_left h]
    exact List.take_of_length_le (by rw [List.length_drop]; omega)
  · rw [Nat.min_eq_right (by omega), List.drop_eq_nil_of_le (Nat.le_refl _), List.take_nil, List.drop_eq_nil_of_le (by omega)]
/-- a piece with its sign -/
def sgn (p : Bool × List Nat) : List Nat := if p.1 = true then 45 :: p.2 else p.2
/-- a good piece: not empty, without blanks, without a sign ahead -/
structure Pc (s : List Nat) : Prop where
  ne : s ≠ []
  bl : 32 ∉ s
  hd : s.head? ≠ some 45
def tailL : List (Bool × List Nat) → List Nat
  | [] => []
  | p :: r => 32 :: (if p.1 = true then 45 else 43) :: 32 :: (p.2 ++ tailL r)
/-- the sum's text -/
def txtL : List (Bool × List Nat) → List Nat
  | [] => []
  | p :: r => sgn p ++ tailL r
def gluS (y : List Nat) : List (List Nat) → List Nat
  | [] => []
  | [p] => p
  | p :: q :: r => p ++ y ++ gluS y (q :: r)
theorem sgn_bl {p : Bool × List Nat} (h : Pc p.2) : 32 ∉ sgn p := fun q => by
  unfold sgn at q
  split at q
  · rcases List.mem_cons.mp q with e | q
    · cases e
    · exact h.bl q
  · exact h.bl q
theorem repl_tail : ∀ {l : List (Bool × List Nat)}, (∀ p ∈ l, Pc p.2) → replL [32, 45, 32] [32, 43, 32, 45] (tailL l) = (l.flatMap fun p => [32, 43, 32] ++ sgn p)
  | [], _ => replL_nil
  | (b, s) :: r, h => by
    have hp : Pc s := h (b, s) (List.mem_cons_self ..)
    have ih := repl_tail fun p hp => h p (List.mem_cons_of_mem _ hp)
    have e1 : replL [32, 45, 32] [32, 43, 32, 45] (s ++ tailL r) = s ++ (r.flatMap fun p => [32, 43, 32] ++ sgn p) := by rw [repl_free _ hp.bl, ih]
    rw [List.flatMap_cons]
    cases b with
    | true =>
      show replL [32, 45, 32] [32, 43, 32, 45] ([32, 45, 32] ++ (s ++ tailL r)) = _
      rw [repl_here (by simp), e1]
      show [32, 43, 32, 45] ++ (s ++ _) = [32, 43, 32] ++ (45 :: s) ++ _
      simp
    | false =>
      show replL [32, 45, 32] [32, 43, 32, 45] (32 :: 43 :: 32 :: (s ++ tailL r)) = _
      rw [repl_pass (by simp), repl_pass (by simp), repl_pass, e1]
      · show 32 :: 43 :: 32 :: (s ++ _) = [32, 43, 32] ++ s ++ _
        simp
      · cases s with
        | nil => exact absurd rfl hp.ne
        | cons a s =>
          have ha : a ≠ 45 := fun e => hp.hd (by rw [e]; rfl)
          intro e
          simp at e
          exact ha e.1
theorem repl_txt {l : List (Bool × List Nat)} (h : ∀ p ∈ l, Pc p.2) : replL [32, 45, 32] [32, 43, 32, 45] (txtL l) = gluS [32, 43, 32] (l.map sgn) := by
  cases l with
  | nil => exact replL_nil
  | cons p r =>
    have e : ∀ r : List (Bool × List Nat), (r.flatMap fun p => [32, 43, 32] ++ sgn p) = (match r.map sgn with | [] => [] | q :: s => [32, 43, 32] ++ gluS [32, 43, 32] (q :: s)) := fun r => by
      induction r with
      | nil => rfl
      | cons q r ih =>
        rw [List.flatMap_cons, ih, List.map_cons]
        cases r with
        | nil => simp [gluS]
        | cons q2 r => simp [gluS]
    show replL _ _ (sgn p ++ tailL r) = _
    rw [repl_free _ (sgn_bl (h p (List.mem_cons_self ..))), repl_tail fun p hp => h p (List.mem_cons_of_mem _ hp), e, List.map_cons]
    cases r with
    | nil => simp [gluS]
    | cons q r => simp [gluS]
theorem repl_glu {c : Nat} : ∀ {ps : List (List Nat)}, (∀ p ∈ ps, 32 ∉ p) → replL [32, 43, 32] [c] (gluS [32, 43, 32] ps) = gluC c ps
  | [], _ => replL_nil
  | [p], h => repl_free' (h p (List.mem_cons_self ..))
  | p :: q :: r, h => by
    have ih := repl_glu (c := c) (ps := q :: r) fun p hp => h p (List.mem_cons_of_mem _ hp)
    show replL _ _ (p ++ [32, 43, 32] ++ gluS [32, 43, 32] (q :: r)) = _
    rw [List.append_assoc, repl_free _ (h p (List.mem_cons_self ..)), repl_here (by simp), ih]
    rfl
/-- what a piece tells: its sign and the rest -/
def pieceT (p : Str) : Int × Str := if (cp p).take 1 = [45] then (-1, ofL ((cp p).drop 1)) else (1, p)
def partsX (x : Str) : List Str := Txt.split (Txt.replace x " - " " + -") " + "
def piecesT (x : Str) : List (Int × Str) := (partsX x).map pieceT
theorem lit_m : cp (" - " : Str) = [32, 45, 32] := by decide +kernel
theorem lit_pm : cp (" + -" : Str) = [32, 43, 32, 45] := by decide +kernel
theorem lit_p : cp (" + " : Str) = [32, 43, 32] := by decide +kernel
theorem parts_of {x : Str} {l : List (Bool × List Nat)} (hl : l ≠ []) (h : ∀ p ∈ l, Pc p.2) (e : cp x = txtL l) : partsX x = l.map fun p => ofL (sgn p) := by
  have e1 : cp (Txt.replace x " - " " + -") = gluS [32, 43, 32] (l.map sgn) := by
    have := replace_list (x := x) (y := " - ") (z := " + -") (by decide +kernel)
    rw [show cp (Txt.replace x " - " " + -") = _ from this, show (" - " : Str).cps.toList = _ from lit_m, show (" + -" : Str).cps.toList = _ from lit_pm, show x.cps.toList = _ from e]
    exact repl_txt h
  have e2 : (partsX x).map cp = l.map sgn := split_of (by decide +kernel) (by decide +kernel) (by simpa using hl) fun c => by
    rw [e1, lit_p]
    refine repl_glu fun p hp => ?_
    obtain ⟨q, hq, rfl⟩ := List.mem_map.mp hp
    exact sgn_bl (h q hq)
  have e3 := congrArg (List.map ofL) e2
  rw [List.map_map, List.map_map, show ofL ∘ cp = _root_.id from funext ofL_cp, List.map_id] at e3
  exact e3
theorem pieceT_sgn {p : Bool × List Nat} (h : Pc p.2) : pieceT (ofL (sgn p)) = (if p.1 = true then -1 else 1, ofL p.2) := by
  obtain ⟨b, s⟩ := p
  unfold pieceT
  rw [cp_ofL]
  cases b with
  | true => simp [sgn]
  | false =>
    have hs : Pc s := h
    have : (sgn (false, s)).take 1 ≠ [45] := fun e => by
      cases s with
      | nil => exact hs.ne rfl
      | cons a s =>
        simp [sgn] at e
        exact hs.hd (by rw [e]; rfl)
    rw [if_neg this]
    rfl
theorem pieces_of {x : Str} {l : List (Bool × List Nat)} (hl : l ≠ []) (h : ∀ p ∈ l, Pc p.2) (e : cp x = txtL l) : piecesT x = l.map fun p => (if p.1 = true then -1 else 1, ofL p.2) := by
  unfold piecesT
  rw [parts_of hl h e, List.map_map]
  exact List.map_congr_left fun p hp => pieceT_sgn (h p hp)
end My

/-! ### fractions, products and sums as texts -/
namespace My
open PySem PySem.StrLaws PySem.Builtin PySem.Builtin.Str PySem.NumText L2
def TxQ (q : Int × Int) : Prop := q.1.natAbs.log2 < 1920 ∧ q.2.natAbs.log2 < 1920
def fracT (q : Int × Int) : Str := if q.2 = 1 then (toString q.1 : String) else (((toString q.1 : String) : Str) ++ ("/" : Str)) ++ ((toString q.2 : String) : Str)
theorem fracT_len {q : Int × Int} (h : TxQ q) : (fracT q).length ≤ 3843 := by
  have h1 := PyProof.Rows.int_text_len_1921 h.1
  have h2 := PyProof.Rows.int_text_len_1921 h.2
  unfold fracT
  split
  · omega
  · rw [Str.length_append, Str.length_append]
    have : ("/" : Str).length = 1 := by decide +kernel
    omega
def stepP (x : Int × Str) : List Str := if x.1 = 1 then [x.2] else if 1 < x.1 then [(x.2 ++ ("^" : Str)) ++ ((toString x.1 : String) : Str)] else []
/-- the letters of a text -/
def lets (L : Str) : List Str := (cp L).map fun c => ⟨#[c]⟩
def prodG (ps : List Int) (L : Str) : Str := PySem.Txt.join "*" ((ps.zip (lets L)).flatMap stepP)
def shareT (q : Int × Int) (x : Str) : Str := if x = "" then fracT q else if q = (1, 1) then x else (fracT q ++ ("*" : Str)) ++ x
def absT (i : Int) : Int := if i < 0 then -i else i
def stepT (f : Str) (q : Int × Int) (x : Str) : Str := if f = "" ∧ q.1 < 0 then ("-" : Str) ++ shareT (absT q.1, q.2) x else if f = "" then shareT (absT q.1, q.2) x
  else if q.1 < 0 then (f ++ (" - " : Str)) ++ shareT (absT q.1, q.2) x else (f ++ (" + " : Str)) ++ shareT (absT q.1, q.2) x
def sumT0 (l : List ((Int × Int) × Str)) : Str := l.foldl (fun f p => stepT f p.1 p.2) ""
def sumT (l : List ((Int × Int) × Str)) : Str := if (sumT0 l).length ≠ 0 then sumT0 l else "0"
def pairD (p : (Int × Int) × Str) : Dat := .tup [qD p.1, .str p.2]
def PsG (ps : List Int) (L : Str) : Prop := ps.length ≤ 3 ∧ ps.length ≤ L.length ∧ (∀ p ∈ ps, 0 ≤ p ∧ p ≤ 9) ∧ L.cps.all (· < 128) = true
theorem shareT_len {q : Int × Int} {x : Str} (h : TxQ q) (hx : x.length ≤ 100) : (shareT q x).length ≤ 3944 := by
  have h1 := fracT_len h
  unfold shareT
  split
  · omega
  · split
    · omega
    · rw [Str.length_append, Str.length_append]
      have : ("*" : Str).length = 1 := by decide +kernel
      omega
theorem absT_nat (i : Int) : (absT i).natAbs = i.natAbs := by unfold absT; split <;> omega
theorem absT_eq (i : Int) : absT i = (i.natAbs : Int) := by unfold absT; split <;> omega
theorem TxQ.abs {q : Int × Int} (h : TxQ q) : TxQ (absT q.1, q.2) := ⟨by have := h.1; show (absT q.1).natAbs.log2 < 1920; rw [absT_nat]; exact this, h.2⟩
theorem stepT_len {f : Str} {q : Int × Int} {x : Str} (h : TxQ q) (hx : x.length ≤ 100) : (stepT f q x).length ≤ f.length + 3947 := by
  have h1 := shareT_len h.abs hx
  have e1 : ("-" : Str).length = 1 := by decide +kernel
  have e2 : (" - " : Str).length = 3 := by decide +kernel
  have e3 : (" + " : Str).length = 3 := by decide +kernel
  unfold stepT
  split
  · rw [Str.length_append]; omega
  · split
    · omega
    · split <;> (rw [Str.length_append, Str.length_append]; omega)
theorem foldT_len : ∀ (l : List ((Int × Int) × Str)) (f : Str), (∀ p ∈ l, TxQ p.1 ∧ p.2.length ≤ 100) → (l.foldl (fun f p => stepT f p.1 p.2) f).length ≤ f.length + 3947 * l.length
  | [], f, _ => by simp
  | p :: l, f, h => by
    have h1 := stepT_len (f := f) (h p (List.mem_cons_self ..)).1 (h p (List.mem_cons_self ..)).2
    have h2 := foldT_len l (stepT f p.1 p.2) fun q hq => h q (List.mem_cons_of_mem _ hq)
    rw [List.foldl_cons, List.length_cons]
    omega
theorem lets_one {L : Str} {x : Str} (h : x ∈ lets L) : x.length = 1 := by
  obtain ⟨c, _, rfl⟩ := List.mem_map.mp h
  rfl
theorem small_text {i : Int} (h0 : 0 ≤ i) (h1 : i ≤ 9) : ((toString i : String) : Str).length = 1 := by
  have : ∀ n : Nat, n < 10 → ((toString (n : Int) : String) : Str).length = 1 := by decide +kernel
  have := this i.toNat (by omega)
  rwa [Int.toNat_of_nonneg h0] at this
theorem stepP_len {L : Str} {x : Int × Str} (h : x.2 ∈ lets L) (h1 : 0 ≤ x.1) (h0 : x.1 ≤ 9) : (stepP x).length ≤ 1 ∧ ∀ y ∈ stepP x, y.length ≤ 3 := by
  have hl := lets_one h
  have e1 : ("^" : Str).length = 1 := by decide +kernel
  unfold stepP
  split
  · exact ⟨Nat.le_refl _, fun y hy => by simp at hy; subst hy; omega⟩
  · split
    · refine ⟨Nat.le_refl _, fun y hy => ?_⟩
      have e3 := small_text h1 h0
      rw [List.mem_singleton.mp hy, Str.length_append, Str.length_append]; omega
    · exact ⟨by simp, fun y hy => by simp at hy⟩
theorem flat_len {L : Str} {l : List (Int × Str)} (h : ∀ x ∈ l, x.2 ∈ lets L ∧ 0 ≤ x.1 ∧ x.1 ≤ 9) : (l.flatMap stepP).length ≤ l.length ∧ ((l.flatMap stepP).map (·.length)).sum ≤ 3 * l.length := by
  induction l with
  | nil => simp
  | cons x l ih =>
    obtain ⟨a, b⟩ := ih fun y hy => h y (List.mem_cons_of_mem _ hy)
    obtain ⟨c, d⟩ := stepP_len (h x (List.mem_cons_self ..)).1 (h x (List.mem_cons_self ..)).2.1 (h x (List.mem_cons_self ..)).2.2
    rw [List.flatMap_cons, List.length_append, List.map_append, List.sum_append, List.length_cons]
    refine ⟨by omega, ?_⟩
    have : ((stepP x).map (·.length)).sum ≤ 3 := by
      generalize stepP x = l at c d
      match l, c, d with
      | [], _, _ => simp
      | [y], _, d => have := d y (List.mem_cons_self ..); simpa using this
    omega
theorem zip_lets {ps : List Int} {L : Str} (h : PsG ps L) : ∀ x ∈ ps.zip (lets L), x.2 ∈ lets L ∧ 0 ≤ x.1 ∧ x.1 ≤ 9 := fun x hx => ⟨(List.of_mem_zip hx).2, h.2.2.1 _ (List.of_mem_zip hx).1⟩
theorem zip_lets_len {ps : List Int} {L : Str} (h : PsG ps L) : (ps.zip (lets L)).length ≤ 3 := by rw [List.length_zip]; exact Nat.le_trans (Nat.min_le_left ..) h.1
theorem prodG_len {ps : List Int} {L : Str} (h : PsG ps L) : (prodG ps L).length ≤ 100 := by
  have h1 := flat_len (zip_lets h)
  have h2 := StrLaws.join_length_le "*" ((ps.zip (lets L)).flatMap stepP)
  have e1 : ("*" : Str).length = 1 := by decide +kernel
  have hl := zip_lets_len h
  unfold prodG
  show (Builtin.Str.glued _ _).length ≤ _
  rw [StrLaws.glued_eq_join]
  rw [e1] at h2
  omega
/-! the signs of a sum -/
theorem cp_lit {x : Str} {l : List Nat} (h : decide (cp x = l) = true) : cp x = l := of_decide_eq_true h
theorem fold_tail {l : List ((Int × Int) × Str)} : ∀ {f : Str}, f ≠ "" → cp (l.foldl (fun f p => stepT f p.1 p.2) f) = cp f ++ tailL (l.map fun p => (decide (p.1.1 < 0), cp (shareT (absT p.1.1, p.1.2) p.2))) := by
  induction l with
  | nil => intro f _; rw [List.foldl_nil, List.map_nil]; exact (List.append_nil _).symm
  | cons p l ih =>
    intro f hf
    have e1 : cp (" - " : Str) = [32, 45, 32] := cp_lit (by decide +kernel)
    have e2 : cp (" + " : Str) = [32, 43, 32] := cp_lit (by decide +kernel)
    have e : cp (stepT f p.1 p.2) = cp f ++ (32 :: (if decide (p.1.1 < 0) = true then 45 else 43) :: 32 :: cp (shareT (absT p.1.1, p.1.2) p.2)) := by
      unfold stepT
      rw [if_neg (fun h => hf h.1), if_neg hf]
      by_cases h : p.1.1 < 0
      · rw [if_pos h, if_pos (decide_eq_true h), cp_app, cp_app, e1]; simp
      · rw [if_neg h, if_neg (by simpa using h), cp_app, cp_app, e2]; simp
    have hne : stepT f p.1 p.2 ≠ "" := fun z => by
      have := cp_nil.mpr z
      rw [e] at this
      simp at this
    rw [List.foldl_cons, ih hne, e, List.map_cons]
    show _ = cp f ++ (32 :: (if decide (p.1.1 < 0) = true then 45 else 43) :: 32 :: (cp (shareT (absT p.1.1, p.1.2) p.2) ++ tailL _))
    simp
def pcs (l : List ((Int × Int) × Str)) : List (Bool × List Nat) := l.map fun p => (decide (p.1.1 < 0), cp (shareT (absT p.1.1, p.1.2) p.2))
theorem cp_sumT0 {l : List ((Int × Int) × Str)} (h : ∀ p ∈ pcs l, Pc p.2) : cp (sumT0 l) = txtL (pcs l) := by
  cases l with
  | nil => exact cp_lit (by decide +kernel)
  | cons p l =>
    have e3 : cp ("-" : Str) = [45] := cp_lit (by decide +kernel)
    have hp : Pc (cp (shareT (absT p.1.1, p.1.2) p.2)) := h _ (List.mem_cons_self ..)
    have e : cp (stepT "" p.1 p.2) = sgn (decide (p.1.1 < 0), cp (shareT (absT p.1.1, p.1.2) p.2)) := by
      unfold stepT sgn
      by_cases hn : p.1.1 < 0
      · rw [if_pos ⟨rfl, hn⟩, if_pos (decide_eq_true hn), cp_app, e3]; rfl
      · rw [if_neg (fun z => hn z.2), if_pos rfl, if_neg (by simpa using hn)]
    have hne : stepT "" p.1 p.2 ≠ "" := fun z => by
      have := cp_nil.mpr z
      rw [e] at this
      unfold sgn at this
      split at this
      · cases this
      · exact hp.ne this
    show cp (l.foldl _ (stepT "" p.1 p.2)) = _
    rw [fold_tail hne, e]
    rfl
theorem sumT_of {l : List ((Int × Int) × Str)} (hl : l ≠ []) (h : ∀ p ∈ pcs l, Pc p.2) : sumT l = sumT0 l := by
  have e := cp_sumT0 h
  unfold sumT
  rw [if_pos]
  intro z
  rw [cp_len, e] at z
  cases l with
  | nil => exact hl rfl
  | cons p l =>
    have hp : Pc (cp (shareT (absT p.1.1, p.1.2) p.2)) := h _ (List.mem_cons_self ..)
    have : (sgn (decide (p.1.1 < 0), cp (shareT (absT p.1.1, p.1.2) p.2)) ++ tailL (pcs l)).length = 0 := z
    rw [List.length_append] at this
    have : (sgn (decide (p.1.1 < 0), cp (shareT (absT p.1.1, p.1.2) p.2))).length = 0 := by omega
    unfold sgn at this
    split at this
    · cases this
    · exact hp.ne (List.length_eq_zero_iff.mp this)
/-- the pieces of a sum's text -/
theorem pieces_sum {l : List ((Int × Int) × Str)} (hl : l ≠ []) (h : ∀ p ∈ pcs l, Pc p.2) : piecesT (sumT l) = l.map fun p => (if p.1.1 < 0 then -1 else 1, shareT (absT p.1.1, p.1.2) p.2) := by
  rw [sumT_of hl h, pieces_of (l := pcs l) (by simpa [pcs] using hl) h (cp_sumT0 h)]
  unfold pcs
  rw [List.map_map]
  refine List.map_congr_left fun p _ => ?_
  simp [ofL_cp]
end My

/-! ### what a piece of a text tells -/
namespace My
open PySem PySem.StrLaws PySem.Builtin PySem.Builtin.Str PySem.NumText L2
def isFig (c : Nat) : Bool := decide (48 ≤ c) && decide (c ≤ 57)
def figB (l : List Nat) : Bool := l.all isFig
theorem figB_iff {l : List Nat} : figB l = true ↔ AllDigits l := by
  unfold figB AllDigits isFig
  rw [List.all_eq_true]
  exact ⟨fun h c hc => by simpa using h c hc, fun h c hc => by simpa using h c hc⟩
theorem figs_mem (c : Nat) : decide (c ∈ cp ("0123456789" : Str)) = isFig c := by
  have e : cp ("0123456789" : Str) = [48, 49, 50, 51, 52, 53, 54, 55, 56, 57] := cp_lit (by decide +kernel)
  unfold isFig
  rw [e, ← Bool.decide_and]
  exact decide_eq_decide.mpr (by simp; omega)
/-- how many signs of a kind -/
def cnt (p : Nat → Bool) (x : Str) : Nat := (cp x).countP p
theorem cnt_app (p : Nat → Bool) (x y : Str) : cnt p (x ++ y) = cnt p x + cnt p y := by unfold cnt; rw [cp_app, List.countP_append]
theorem cnt_le (p : Nat → Bool) (x : Str) : cnt p x ≤ x.length := by rw [cp_len]; exact List.countP_le_length
theorem cnt_figs {x : Str} (h : figB (cp x) = true) : cnt isFig x = x.length := by
  rw [cp_len]
  exact List.countP_eq_length.mpr fun a ha => List.all_eq_true.mp h a ha
theorem cnt_sub {p : Nat → Bool} {x y : Str} (h : (cp x).Sublist (cp y)) : cnt p x ≤ cnt p y := h.countP_le
theorem cnt_cut (p : Nat → Bool) (x : Str) (lo hi : Option Int) : cnt p (cutS x lo hi) ≤ cnt p x := by
  refine cnt_sub ?_
  unfold cutS
  show (((cp x).drop _).take _).Sublist (cp x)
  exact (List.take_sublist ..).trans (List.drop_sublist ..)
theorem cnt_part (p : Nat → Bool) (x y : Str) : cnt p (Txt.partition x y).1 ≤ cnt p x ∧ cnt p (Txt.partition x y).2.2 ≤ cnt p x := by
  have e := congrArg (cnt p) (partition_sum x y)
  rw [cnt_app, cnt_app] at e
  omega
theorem repl_cnt {p : Nat → Bool} {y z : List Nat} (hy : y ≠ []) (hz : z.countP p ≤ y.countP p) : ∀ (n : Nat) (l : List Nat), l.length ≤ n → (replL y z l).countP p ≤ l.countP p
  | _, [], _ => by rw [replL_nil]; exact Nat.le_refl _
  | 0, a :: l, h => by simp at h
  | n + 1, a :: l, h => by
    by_cases hh : (a :: l).take y.length = y
    · rw [replL_hit hy hh, List.countP_append]
      have hy1 : 1 ≤ y.length := by cases y with | nil => exact absurd rfl hy | cons _ _ => simp
      have ih := repl_cnt hy hz n ((a :: l).drop y.length) (by rw [List.length_drop]; simp at h ⊢; omega)
      have e : (a :: l).countP p = y.countP p + ((a :: l).drop y.length).countP p := by
        conv => lhs; rw [← List.take_append_drop y.length (a :: l), List.countP_append, hh]
      omega
    · rw [replL_miss hh, List.countP_cons, List.countP_cons]
      have ih := repl_cnt hy hz n l (by simpa using h)
      omega
theorem repl_len {y z : List Nat} (hy : y ≠ []) (hz : y.length ≤ z.length) : ∀ (n : Nat) (l : List Nat), l.length ≤ n → (replL y z l).length * y.length ≤ l.length * z.length
  | _, [], _ => by rw [replL_nil]; simp
  | 0, a :: l, h => by simp at h
  | n + 1, a :: l, h => by
    by_cases hh : (a :: l).take y.length = y
    · have hy1 : 1 ≤ y.length := by cases y with | nil => exact absurd rfl hy | cons _ _ => simp
      have ih := repl_len hy hz n ((a :: l).drop y.length) (by rw [List.length_drop]; simp at h ⊢; omega)
      have e : (a :: l).length = y.length + ((a :: l).drop y.length).length := by
        conv => lhs; rw [← List.take_append_drop y.length (a :: l), List.length_append, hh]
      rw [replL_hit hy hh, List.length_append, e, Nat.add_mul, Nat.add_mul, Nat.mul_comm y.length]
      exact Nat.add_le_add_left ih _
    · have ih := repl_len hy hz n l (by simpa using h)
      rw [replL_miss hh, List.length_cons, List.length_cons, Nat.add_mul, Nat.add_mul]
      exact Nat.add_le_add ih (by rw [Nat.one_mul, Nat.one_mul]; exact hz)
theorem partsX_len {x : Str} : (Txt.replace x " - " " + -").length * 3 ≤ x.length * 4 ∧ (partsX x).length * 9 ≤ x.length * 4 + 9 := by
  have e := replace_list (x := x) (y := " - ") (z := " + -") (by decide +kernel)
  have h := repl_len (y := [32, 45, 32]) (z := [32, 43, 32, 45]) (by simp) (by simp) _ (cp x) (Nat.le_refl _)
  have e2 : cp (Txt.replace x " - " " + -") = replL [32, 45, 32] [32, 43, 32, 45] (cp x) := by
    rw [show cp (Txt.replace x " - " " + -") = _ from e, show (" - " : Str).cps.toList = _ from lit_m, show (" + -" : Str).cps.toList = _ from lit_pm]
  rw [← e2, ← cp_len, ← cp_len] at h
  have h : (Txt.replace x " - " " + -").length * 3 ≤ x.length * 4 := h
  refine ⟨h, ?_⟩
  have j := congrArg Str.length (join_split (Txt.replace x " - " " + -") " + ")
  have l3 : (" + " : Str).length = 3 := by decide +kernel
  show (Txt.split (Txt.replace x " - " " + -") " + ").length * 9 ≤ _
  cases hs : Txt.split (Txt.replace x " - " " + -") " + " with
  | nil => simp
  | cons a l =>
    rw [hs, PyProof.Rows.len_join_cons, l3] at j
    rw [List.length_cons]
    omega
theorem cnt_split {p : Nat → Bool} {x y t : Str} (h : t ∈ Txt.split x y) : cnt p t ≤ cnt p x := by
  have e := join_split x y
  have : ∀ {l : List Str} {t : Str}, t ∈ l → (cp t).Sublist (cp (Str.join y l)) := fun {l} => by
    induction l with
    | nil => intro t h; cases h
    | cons a l ih =>
      intro t h
      cases l with
      | nil =>
        rw [List.mem_singleton.mp h]
        exact List.Sublist.refl _
      | cons b l =>
        show (cp t).Sublist (cp (a ++ y ++ Str.join y (b :: l)))
        rw [cp_app, cp_app]
        rcases List.mem_cons.mp h with e | h
        · rw [e, List.append_assoc]; exact List.sublist_append_left ..
        · exact (ih h).trans (List.sublist_append_right ..)
  have := this h
  rw [e] at this
  exact cnt_sub this
/-- the pieces' sizes -/
theorem partsX_ok {x t : Str} (h : t ∈ partsX x) : t.length * 3 ≤ x.length * 4 ∧ cnt isFig t ≤ cnt isFig x := by
  have h1 := (partsX_len (x := x)).1
  have h2 := PyProof.Rows.part_short h
  refine ⟨by omega, Nat.le_trans (cnt_split h) ?_⟩
  have e := replace_list (x := x) (y := " - ") (z := " + -") (by decide +kernel)
  have e2 : cp (Txt.replace x " - " " + -") = replL [32, 45, 32] [32, 43, 32, 45] (cp x) := by
    rw [show cp (Txt.replace x " - " " + -") = _ from e, show (" - " : Str).cps.toList = _ from lit_m, show (" + -" : Str).cps.toList = _ from lit_pm]
  unfold cnt
  rw [e2]
  exact repl_cnt (by simp) (by decide) _ (cp x) (Nat.le_refl _)
theorem pieceT_ok (t : Str) : (pieceT t).2.length ≤ t.length ∧ cnt isFig (pieceT t).2 ≤ cnt isFig t := by
  unfold pieceT
  split
  · refine ⟨?_, cnt_sub ?_⟩
    · rw [cp_len, cp_ofL, cp_len]; simp
    · show (cp (ofL _)).Sublist _
      rw [cp_ofL]; exact List.drop_sublist ..
  · exact ⟨Nat.le_refl _, Nat.le_refl _⟩
theorem piecesT_ok {x : Str} {p : Int × Str} (h : p ∈ piecesT x) : p.2.length * 3 ≤ x.length * 4 ∧ cnt isFig p.2 ≤ cnt isFig x := by
  obtain ⟨t, ht, rfl⟩ := List.mem_map.mp h
  have h1 := partsX_ok ht
  have h2 := pieceT_ok t
  omega
/-- the whole number that figures write -/
def wholeIn (x : Str) : Option Int := if 1 ≤ x.length ∧ x.length ≤ 1000 ∧ figB (cp x) = true then some (digitsVal (cp x)) else none
/-- the fraction that a text without a sign writes -/
def fracIn (x : Str) : Option (Int × Int) := if (Txt.partition x "/").2.1 = "" then (wholeIn (Txt.partition x "/").1).map fun t => (t, 1) else
  match wholeIn (Txt.partition x "/").2.2 with
  | none => none
  | some u => if 0 < u then (wholeIn (Txt.partition x "/").1).map fun t => ((Rat.divInt t u).num, ((Rat.divInt t u).den : Int)) else none
/-- what stands ahead of the letters of a piece, and the letters -/
def partedT (x : Str) : Option ((Int × Int) × Str) := if (figB ((cp x).take 1) = false) ∨ x = "" then some ((1, 1), x) else
  if (Txt.partition x "*").2.1 = "" ∨ (Txt.partition x "*").2.2 ≠ "" then (fracIn (Txt.partition x "*").1).map fun q => (q, (Txt.partition x "*").2.2) else none
theorem digitsVal_lt : ∀ l : List Nat, AllDigits l → digitsVal l < 10 ^ l.length := by
  have key : ∀ (l : List Nat) (a : Nat), AllDigits l → l.foldl (fun acc c => acc * 10 + (c - 48)) a < (a + 1) * 10 ^ l.length := fun l => by
    induction l with
    | nil => intro a _; simp
    | cons c l ih =>
      intro a h
      have hc := h.head
      have := ih (a * 10 + (c - 48)) h.tail
      rw [List.foldl_cons, List.length_cons, Nat.pow_succ]
      have h2 : (a * 10 + (c - 48) + 1) * 10 ^ l.length ≤ ((a + 1) * 10) * 10 ^ l.length := Nat.mul_le_mul_right _ (by omega)
      rw [Nat.mul_assoc, Nat.mul_comm 10] at h2
      omega
  intro l h
  have := key l 0 h
  unfold digitsVal
  simpa using this
theorem wholeIn_some {x : Str} {n : Int} (h : wholeIn x = some n) (hc : cnt isFig x ≤ 640) : figB (cp x) = true ∧ cp x ≠ [] ∧ x.length ≤ 640 ∧ n = digitsVal (cp x) ∧ 0 ≤ n ∧ n < 10 ^ 640 := by
  unfold wholeIn at h
  split at h
  · rename_i h1
    have e := cnt_figs h1.2.2
    have hn := Option.some.inj h
    have b := digitsVal_lt _ (figB_iff.mp h1.2.2)
    have l : x.length ≤ 640 := by omega
    refine ⟨h1.2.2, fun z => ?_, l, hn.symm, by omega, ?_⟩
    · have := h1.1; rw [cp_len, z] at this; simp at this
    · rw [← hn]
      have : 10 ^ (cp x).length ≤ 10 ^ 640 := Nat.pow_le_pow_right (by decide) (by rw [← cp_len]; exact l)
      have b2 : digitsVal (cp x) < 10 ^ 640 := Nat.lt_of_lt_of_le b this
      exact_mod_cast b2
  · cases h
theorem wholeIn_int {x : Str} {n : Int} (h : wholeIn x = some n) (hc : cnt isFig x ≤ 640) : PySem.intText? x = some n := by
  obtain ⟨h1, h2, h3, h4, _⟩ := wholeIn_some h hc
  rw [h4]
  exact intText_digits (figB_iff.mp h1) h2 (by omega)
/-! back from the text -/
theorem wholeIn_nat {x : Str} {n : Nat} (e : cp x = digs n) (h : (digs n).length ≤ 1000) : wholeIn x = some (n : Int) := by
  unfold wholeIn
  have l : x.length = (digs n).length := by rw [cp_len, e]
  have : (digs n).length ≠ 0 := fun z => digs_ne n (List.length_eq_zero_iff.mp z)
  rw [if_pos ⟨by omega, by omega, by rw [e]; exact figB_iff.mpr (digs_all n)⟩, e, digs_val]
theorem fig_no {l : List Nat} {c : Nat} (h : AllDigits l) (hc : c < 48 ∨ 57 < c) : c ∉ l := fun m => by
  have := h c m
  omega
theorem lit_slash : ("/" : Str) = ⟨#[47]⟩ := by decide +kernel
theorem lit_star : ("*" : Str) = ⟨#[42]⟩ := by decide +kernel
theorem cp_fracT1 (k : Nat) : cp (fracT ((k : Int), 1)) = digs k := by
  unfold fracT
  rw [if_pos rfl]
  exact cp_nat k
theorem fracIn_one (k : Nat) (h : (digs k).length ≤ 1000) : fracIn (fracT ((k : Int), 1)) = some ((k : Int), 1) := by
  have e := cp_fracT1 k
  have np : (47 : Nat) ∉ cp (fracT ((k : Int), 1)) := by rw [e]; exact fig_no (digs_all k) (by omega)
  unfold fracIn
  rw [lit_slash, part_no np, if_pos rfl, wholeIn_nat e h]
  rfl
theorem fig_head {l r : List Nat} (h : AllDigits l) (n : l ≠ []) : figB ((l ++ r).take 1) = true := by
  cases l with
  | nil => exact absurd rfl n
  | cons a l =>
    have := h.head
    simp [figB, isFig, this]
/-- a share's text is read back: the fraction, the letters -/
theorem parted_share {q : Int × Int} {x : Str} (hf : fracIn (fracT q) = some q) (h0 : ∃ l, cp (fracT q) = l ∧ figB (l.take 1) = true ∧ l ≠ [] ∧ 42 ∉ l) (hx : x = "" ∨ figB ((cp x).take 1) = false) : partedT (shareT q x) = some (q, x) := by
  obtain ⟨l, el, hd, ne, ns⟩ := h0
  unfold shareT
  split
  · rename_i e
    subst e
    unfold partedT
    rw [if_neg (by
      rintro (z | z)
      · rw [el, hd] at z; cases z
      · exact ne (by rw [← el]; exact cp_nil.mpr z)), lit_star, part_no (by rw [el]; exact ns), if_pos (.inl rfl), hf]
    rfl
  · rename_i nx
    have hx : figB ((cp x).take 1) = false := hx.resolve_left nx
    split
    · rename_i e
      subst e
      unfold partedT
      rw [if_pos (.inl hx)]
    · have e : cp ((fracT q ++ ("*" : Str)) ++ x) = l ++ 42 :: cp x := by rw [cp_app, cp_app, el, lit_star, cp_one]; simp
      unfold partedT
      have hd' : figB ((cp ((fracT q ++ ("*" : Str)) ++ x)).take 1) = true := by
        rw [e]
        cases l with
        | nil => exact absurd rfl ne
        | cons a l => exact hd
      rw [if_neg (by
        rintro (z | z)
        · rw [hd'] at z; cases z
        · have := cp_nil.mpr z; rw [e] at this; simp at this)]
      rw [lit_star] at e ⊢
      rw [part_yes e ns]
      show (if (⟨#[42]⟩ : Str) = "" ∨ ofL (cp x) ≠ "" then (fracIn (ofL l)).map fun q => (q, ofL (cp x)) else none) = _
      rw [ofL_cp, if_pos (.inr nx), ← el, ofL_cp, hf]
      rfl
end My

/-! ### polynomials as texts, and back -/
namespace My
open PySem PySem.StrLaws PySem.Builtin PySem.Builtin.Str PySem.NumText PyProof.Rows L2
abbrev lx : Str := "x"
def prodX (p : Nat) : Str := prodG [(p : Int)] lx
theorem lets_x : lets lx = [lx] := by
  have : cp lx = [120] := cp_lit (by decide +kernel)
  unfold lets
  rw [this]
  have : (⟨#[120]⟩ : Str) = lx := by decide +kernel
  simp [this]
theorem prodX_0 : prodX 0 = "" := by decide +kernel
theorem prodX_1 : prodX 1 = lx := by decide +kernel
theorem prodX_2 {p : Nat} (h : 2 ≤ p) : prodX p = (lx ++ ("^" : Str)) ++ ((toString (p : Int) : String) : Str) := by
  unfold prodX prodG
  rw [lets_x]
  have e : stepP ((p : Int), lx) = [(lx ++ ("^" : Str)) ++ ((toString (p : Int) : String) : Str)] := by
    unfold stepP
    rw [if_neg (by simp; omega), if_pos (by simp; omega)]
  show Txt.join "*" ([((p : Int), lx)].flatMap stepP) = _
  rw [List.flatMap_cons, e, List.flatMap_nil, List.append_nil]
  exact StrLaws.glued_eq_join _ _
theorem cp_prodX {p : Nat} : cp (prodX p) = if p = 0 then [] else if p = 1 then [120] else [120, 94] ++ digs p := by
  have e1 : cp lx = [120] := cp_lit (by decide +kernel)
  have e2 : cp ("^" : Str) = [94] := cp_lit (by decide +kernel)
  by_cases h0 : p = 0
  · subst h0; rw [if_pos rfl, prodX_0]; decide +kernel
  · rw [if_neg h0]
    by_cases h1 : p = 1
    · subst h1; rw [if_pos rfl, prodX_1]; exact e1
    · rw [if_neg h1, prodX_2 (by omega), cp_app, cp_app, e1, e2, cp_nat]
      rfl
/-- the pieces of a polynomial, from the greatest power on -/
def oneX (ns : List Int) (j : Nat) : List ((Int × Int) × Str) := if ns.getD j 0 = 0 then [] else [((ns.getD j 0, 1), prodX j)]
def selX (ns : List Int) : List ((Int × Int) × Str) := (List.range ns.length).flatMap fun i => oneX ns (ns.length - 1 - i)
def powersT (ns : List Int) : Str := sumT (selX ns)
def powersL (ns : List Int) : Str := sumT0 (selX ns)
theorem prodX_head (p : Nat) : prodX p = "" ∨ figB ((cp (prodX p)).take 1) = false := by
  rw [← cp_nil, cp_prodX]
  by_cases h0 : p = 0
  · exact .inl (if_pos h0)
  · refine .inr ?_
    rw [if_neg h0]
    split <;> rfl
theorem digs_pc (k : Nat) : Pc (digs k) := ⟨digs_ne k, fig_no (digs_all k) (by omega), fun h => by
  cases e : digs k with
  | nil => exact digs_ne k e
  | cons a l =>
    have := (digs_all k) a (by rw [e]; exact List.mem_cons_self ..)
    rw [e] at h
    have := Option.some.inj h
    omega⟩
theorem Pc.app {l r : List Nat} (h : Pc l) (hr : 32 ∉ r) : Pc (l ++ r) := ⟨fun z => h.ne (List.append_eq_nil_iff.mp z).1, fun z => (List.mem_append.mp z).elim h.bl hr, fun z => by
  cases l with
  | nil => exact h.ne rfl
  | cons a l => exact h.hd z⟩
theorem prodX_bl (p : Nat) : 32 ∉ cp (prodX p) := by
  rw [cp_prodX]
  split
  · exact fun z => nomatch z
  · split
    · decide
    · intro z
      rcases List.mem_append.mp z with z | z
      · revert z; decide
      · exact fig_no (digs_all p) (by omega) z
/-- the signs of a share -/
theorem cp_share (k p : Nat) : cp (shareT ((k : Int), 1) (prodX p)) = if p = 0 then digs k else if k = 1 then cp (prodX p) else digs k ++ 42 :: cp (prodX p) := by
  unfold shareT
  by_cases h0 : p = 0
  · subst h0
    rw [if_pos prodX_0, if_pos rfl]
    exact cp_fracT1 k
  · have hx : prodX p ≠ "" := fun z => by
      have := cp_nil.mpr z
      rw [cp_prodX, if_neg h0] at this
      split at this <;> simp at this
    rw [if_neg hx, if_neg h0]
    by_cases h1 : k = 1
    · subst h1
      rw [if_pos (show ((((1 : Nat) : Int), (1 : Int)) : Int × Int) = (1, 1) from rfl), if_pos rfl]
    · rw [if_neg (by intro z; injection z with z _; omega), if_neg h1, cp_app, cp_app, cp_fracT1, lit_star, cp_one]
      simp
theorem share_pc (k p : Nat) : Pc (cp (shareT ((k : Int), 1) (prodX p))) := by
  rw [cp_share]
  by_cases h0 : p = 0
  · rw [if_pos h0]; exact digs_pc k
  · rw [if_neg h0]
    by_cases h1 : k = 1
    · rw [if_pos h1]
      refine ⟨fun z => ?_, prodX_bl p, fun z => ?_⟩
      · rw [cp_prodX, if_neg h0] at z
        split at z <;> simp at z
      · rw [cp_prodX, if_neg h0] at z
        split at z <;> simp at z
    · rw [if_neg h1]
      refine (digs_pc k).app fun z => ?_
      rcases List.mem_cons.mp z with z | z
      · cases z
      · exact prodX_bl p z
theorem abs_pair (c : Int) : ((absT c, 1) : Int × Int) = ((c.natAbs : Int), 1) := by rw [absT_eq]
theorem selX_mem {ns : List Int} {p : (Int × Int) × Str} (h : p ∈ selX ns) : ∃ j, j < ns.length ∧ ns.getD j 0 ≠ 0 ∧ p = ((ns.getD j 0, 1), prodX j) := by
  obtain ⟨i, hi, hp⟩ := List.mem_flatMap.mp h
  have hi := List.mem_range.mp hi
  unfold oneX at hp
  split at hp
  · cases hp
  · rename_i hn
    exact ⟨_, by omega, hn, List.mem_singleton.mp hp⟩
theorem selX_pc (ns : List Int) : ∀ p ∈ pcs (selX ns), Pc p.2 := fun p hp => by
  obtain ⟨q, hq, rfl⟩ := List.mem_map.mp hp
  obtain ⟨j, _, _, rfl⟩ := selX_mem hq
  show Pc (cp (shareT (absT (ns.getD j 0), 1) (prodX j)))
  rw [abs_pair]
  exact share_pc _ j
theorem selX_ne {ns : List Int} {j : Nat} (h : j < ns.length) (hn : ns.getD j 0 ≠ 0) : selX ns ≠ [] := fun e => by
  have : ((ns.getD j 0, 1), prodX j) ∈ selX ns := List.mem_flatMap.mpr ⟨ns.length - 1 - j, List.mem_range.mpr (by omega), by
    rw [show ns.length - 1 - (ns.length - 1 - j) = j by omega]
    unfold oneX
    rw [if_neg hn]
    exact List.mem_singleton.mpr rfl⟩
  rw [e] at this
  cases this
theorem GoodP.lastD {ns : List Int} (G : GoodP ns) : ns.getD (ns.length - 1) 0 = 1 := by
  have := G.last
  have l2 := G.l2
  unfold atI at this
  rw [show ixN ns.length (-1) = some (ns.length - 1) by unfold ixN; rw [if_neg (by decide), if_pos (by omega)]; congr 1; omega] at this
  have this : ns[ns.length - 1]? = some 1 := this
  rw [List.getD_eq_getElem?_getD, this]; rfl
theorem GoodP.sel {ns : List Int} (G : GoodP ns) : selX ns ≠ [] := selX_ne (j := ns.length - 1) (by have := G.l2; omega) (by rw [G.lastD]; decide)
theorem powers_same {ns : List Int} (G : GoodP ns) : powersT ns = powersL ns := sumT_of G.sel (selX_pc ns)
/-- the pieces of its text -/
theorem pieces_poly {ns : List Int} (G : GoodP ns) : piecesT (powersT ns) = (selX ns).map fun p => (if p.1.1 < 0 then -1 else 1, shareT (absT p.1.1, p.1.2) p.2) := pieces_sum G.sel (selX_pc ns)
/-! the program's reading -/
def powerIn (x : Str) : Option Nat := (List.range 5).find? fun p => decide (x = prodX p)
def stepRd (f : List Int) (p : Int × Str) : Option (List Int) := match partedT p.2 with
  | none => none
  | some ((t, b), x) => if b = 1 then (powerIn x).map fun k => f.set k (p.1 * t) else none
def trim (f : List Int) : List Int := (f.reverse.dropWhile fun x => decide (x = 0)).reverse
def readP (t : Str) : Option (List Int) := match (piecesT t).foldlM stepRd [0, 0, 0, 0, 0] with
  | none => none
  | some f => if (faultOf (trim f)).1 = true ∧ powersT (trim f) = t then some (trim f) else none
theorem powerIn_prod {p : Nat} (h : p < 5) : powerIn (prodX p) = some p := by
  have : ∀ p : Nat, p < 5 → powerIn (prodX p) = some p := by decide +kernel
  exact this p h
theorem digs_short {k : Nat} (h : k ≤ 100) : (digs k).length ≤ 3 := by
  have : ∀ k : Nat, k < 101 → (digs k).length ≤ 3 := by decide +kernel
  exact this k (by omega)
theorem sign_abs (c : Int) : (if c < 0 then -1 else 1) * ((c.natAbs : Nat) : Int) = c := by split <;> omega
theorem stepRd_piece {c : Int} {p : Nat} {f : List Int} (hc : c.natAbs ≤ 100) (hp : p < 5) : stepRd f (if c < 0 then -1 else 1, shareT ((c.natAbs : Int), 1) (prodX p)) = some (f.set p c) := by
  have e : partedT (shareT ((c.natAbs : Int), 1) (prodX p)) = some (((c.natAbs : Int), 1), prodX p) := by
    have ds := digs_short hc
    refine parted_share (fracIn_one _ (by omega)) ⟨_, cp_fracT1 _, ?_, digs_ne _, fig_no (digs_all _) (by omega)⟩ (prodX_head p)
    have := fig_head (r := []) (digs_all c.natAbs) (digs_ne _)
    rwa [List.append_nil] at this
  unfold stepRd
  dsimp only
  rw [e]
  dsimp only
  rw [if_pos rfl, powerIn_prod hp, Option.map_some, sign_abs]
/-- what is set one after the other -/
def setAll (ns : List Int) (f : List Int) (js : List Nat) : List Int := js.foldl (fun f j => if ns.getD j 0 = 0 then f else f.set j (ns.getD j 0)) f
theorem fold_set {α : Type} {step : List Int → α → Option (List Int)} {pc : (Int × Int) × Str → α} {ns : List Int} (h : ∀ j f, j < ns.length → ns.getD j 0 ≠ 0 → step f (pc ((ns.getD j 0, 1), prodX j)) = some (f.set j (ns.getD j 0))) : ∀ (js : List Nat) (f : List Int), (∀ j ∈ js, j < ns.length) → ((js.flatMap (oneX ns)).map pc).foldlM step f = some (setAll ns f js)
  | [], f, _ => rfl
  | j :: js, f, hj => by
    have hl := hj j (List.mem_cons_self ..)
    have hr := fun i hi => hj i (List.mem_cons_of_mem _ hi)
    rw [List.flatMap_cons]
    unfold oneX
    by_cases hn : ns.getD j 0 = 0
    · rw [if_pos hn, List.nil_append]
      have ih := fold_set h js f hr
      have e : setAll ns f (j :: js) = setAll ns f js := by
        show setAll ns (if ns.getD j 0 = 0 then f else _) js = _
        rw [if_pos hn]
      rw [e]
      exact ih
    · rw [if_neg hn, List.singleton_append, List.map_cons, List.foldlM_cons, h j f hl hn]
      have ih := fold_set h js (f.set j (ns.getD j 0)) hr
      have e : setAll ns f (j :: js) = setAll ns (f.set j (ns.getD j 0)) js := by
        show setAll ns (if ns.getD j 0 = 0 then f else _) js = _
        rw [if_neg hn]
      rw [e]
      exact ih
theorem setAll_get {ns : List Int} : ∀ {js : List Nat} {f : List Int}, js.Nodup → (∀ j ∈ js, j < f.length) → ∀ k, (setAll ns f js).getD k 0 = if k ∈ js ∧ ns.getD k 0 ≠ 0 then ns.getD k 0 else f.getD k 0
  | [], f, _, _, k => by
    rw [if_neg (fun h => nomatch h.1)]
    rfl
  | j :: js, f, nd, hj, k => by
    obtain ⟨hn, nd⟩ := List.nodup_cons.mp nd
    have hl := hj j (List.mem_cons_self ..)
    by_cases h0 : ns.getD j 0 = 0
    · have e : setAll ns f (j :: js) = setAll ns f js := by
        show setAll ns (if ns.getD j 0 = 0 then f else _) js = _
        rw [if_pos h0]
      rw [e, setAll_get nd (fun i hi => hj i (List.mem_cons_of_mem _ hi)) k]
      by_cases hk : k = j
      · subst hk
        rw [if_neg (fun z => z.2 h0), if_neg (fun z => z.2 h0)]
      · simp [List.mem_cons, hk]
    · have e : setAll ns f (j :: js) = setAll ns (f.set j (ns.getD j 0)) js := by
        show setAll ns (if ns.getD j 0 = 0 then f else _) js = _
        rw [if_neg h0]
      rw [e, setAll_get nd (fun i hi => by rw [List.length_set]; exact hj i (List.mem_cons_of_mem _ hi)) k]
      by_cases hk : k = j
      · subst hk
        rw [if_neg (fun z => hn z.1), if_pos ⟨List.mem_cons_self .., h0⟩, List.getD_eq_getElem?_getD, List.getElem?_set_self hl]
        rfl
      · have : (f.set j (ns.getD j 0)).getD k 0 = f.getD k 0 := by
          rw [List.getD_eq_getElem?_getD, List.getElem?_set_ne (fun z => hk z.symm), ← List.getD_eq_getElem?_getD]
        rw [this]
        simp [List.mem_cons, hk]
theorem setAll_len {ns : List Int} : ∀ {js : List Nat} {f : List Int}, (setAll ns f js).length = f.length
  | [], f => rfl
  | j :: js, f => by
    show (setAll ns (if ns.getD j 0 = 0 then f else f.set j (ns.getD j 0)) js).length = _
    rw [setAll_len]
    split
    · rfl
    · rw [List.length_set]
/-- all set: the list itself, noughts behind -/
theorem set_whole {ns : List Int} {n : Nat} (h : ns.length ≤ n) : setAll ns (List.replicate n 0) ((List.range ns.length).map fun i => ns.length - 1 - i) = ns ++ List.replicate (n - ns.length) 0 := by
  have nd : ((List.range ns.length).map fun i => ns.length - 1 - i).Nodup := by
    refine List.pairwise_map.mpr (List.Pairwise.imp_of_mem ?_ List.nodup_range)
    intro a b ha hb hab
    have := List.mem_range.mp ha
    have := List.mem_range.mp hb
    omega
  refine List.ext_getElem? fun k => ?_
  have l1 : (setAll ns (List.replicate n 0) ((List.range ns.length).map fun i => ns.length - 1 - i)).length = n := by rw [setAll_len, List.length_replicate]
  have l2 : (ns ++ List.replicate (n - ns.length) (0 : Int)).length = n := by simp; omega
  by_cases hk : k < n
  · have g := setAll_get (ns := ns) nd (f := List.replicate n 0) (fun j hj => by
      obtain ⟨i, hi, rfl⟩ := List.mem_map.mp hj
      have := List.mem_range.mp hi
      rw [List.length_replicate]
      omega) k
    rw [List.getD_eq_getElem?_getD, List.getElem?_eq_getElem (by omega)] at g
    rw [List.getElem?_eq_getElem (by omega), List.getElem?_eq_getElem (by omega)]
    congr 1
    rw [show ∀ {x : Int}, (some x).getD 0 = x from rfl] at g
    rw [g]
    have z0 : (List.replicate n (0 : Int)).getD k 0 = 0 := by
      rw [List.getD_eq_getElem?_getD, List.getElem?_replicate]
      split <;> rfl
    rw [z0]
    by_cases hn : k < ns.length
    · have hm : k ∈ (List.range ns.length).map fun i => ns.length - 1 - i := List.mem_map.mpr ⟨ns.length - 1 - k, List.mem_range.mpr (by omega), by omega⟩
      have e : (ns ++ List.replicate (n - ns.length) (0 : Int))[k] = ns.getD k 0 := by
        rw [List.getElem_append_left hn, List.getD_eq_getElem?_getD, List.getElem?_eq_getElem hn]; rfl
      rw [e]
      by_cases h0 : ns.getD k 0 = 0
      · rw [if_neg (fun z => z.2 h0), h0]
      · rw [if_pos ⟨hm, h0⟩]
    · rw [if_neg (fun z => z.2 (by rw [List.getD_eq_getElem?_getD, List.getElem?_eq_none (by omega)]; rfl))]
      rw [List.getElem_append_right (by omega), List.getElem_replicate]
  · rw [List.getElem?_eq_none (by omega), List.getElem?_eq_none (by omega)]
theorem trim_app {ns : List Int} (h : ∃ l x, ns = l ++ [x] ∧ x ≠ 0) (n : Nat) : trim (ns ++ List.replicate n 0) = ns := by
  obtain ⟨l, x, rfl, hx⟩ := h
  unfold trim
  rw [List.reverse_append, List.reverse_replicate]
  have e : ∀ (n : Nat) (r : List Int), (List.replicate n 0 ++ r).dropWhile (fun x => decide (x = 0)) = r.dropWhile fun x => decide (x = 0) := fun n => by
    induction n with
    | zero => intro r; rfl
    | succ n ih => intro r; rw [List.replicate_succ, List.cons_append, List.dropWhile_cons, if_pos (decide_eq_true rfl), ih]
  rw [e, List.reverse_append, List.reverse_singleton, List.singleton_append, List.dropWhile_cons, if_neg (by simpa using hx), List.reverse_cons, List.reverse_reverse]
theorem GoodP.lastX {ns : List Int} (G : GoodP ns) : ∃ l x, ns = l ++ [x] ∧ x ≠ 0 := by
  have l2 := G.l2
  have hne : ns ≠ [] := fun z => by rw [z] at l2; simp at l2
  refine ⟨ns.dropLast, ns.getLast hne, (List.dropLast_concat_getLast hne).symm, ?_⟩
  have := G.lastD
  rw [List.getD_eq_getElem?_getD, List.getElem?_eq_getElem (by omega)] at this
  rw [List.getLast_eq_getElem]
  have this : ns[ns.length - 1] = 1 := this
  rw [this]
  decide
theorem sel_map (ns : List Int) : selX ns = ((List.range ns.length).map fun i => ns.length - 1 - i).flatMap (oneX ns) := by
  unfold selX
  rw [List.flatMap_map]
theorem faultOf_good {ns : List Int} (G : GoodP ns) : (faultOf ns).1 = true := by
  have l2 := G.l2
  have l5 := G.l5
  rw [fault_small (by omega) fun y hy => G.sm y hy]
  unfold fault3
  rw [if_neg (by rw [G.last]; simp), if_neg (fun h => h.2 (G.mid1 h.1)), if_neg (fun h => h.2 (G.mid3 h.1))]
  exact decide_eq_true G.told
theorem readP_back {ns : List Int} (G : GoodP ns) : readP (powersT ns) = some ns := by
  have l5 := G.l5
  have e : (piecesT (powersT ns)).foldlM stepRd (List.replicate 5 0) = some (ns ++ List.replicate (5 - ns.length) 0) := by
    rw [pieces_poly G, sel_map, fold_set (ns := ns) (fun j f hj hn => ?_) _ _ (fun j hj => ?_), set_whole l5]
    · show stepRd f (if ns.getD j 0 < 0 then -1 else 1, shareT (absT (ns.getD j 0), 1) (prodX j)) = _
      rw [abs_pair]
      refine stepRd_piece ?_ (by omega)
      rw [List.getD_eq_getElem?_getD, List.getElem?_eq_getElem hj]
      exact G.sm _ (List.getElem_mem hj)
    · obtain ⟨i, hi, rfl⟩ := List.mem_map.mp hj
      have := List.mem_range.mp hi
      omega
  unfold readP
  rw [show ([0, 0, 0, 0, 0] : List Int) = List.replicate 5 0 from rfl, e]
  dsimp only
  rw [trim_app G.lastX, if_pos ⟨faultOf_good G, rfl⟩]
theorem readP_some {t : Str} {ns : List Int} (h : readP t = some ns) : GoodP ns ∧ powersT ns = t := by
  unfold readP at h
  split at h
  · cases h
  · split at h
    · rename_i f _ c
      have := Option.some.inj h
      rw [← this]
      exact ⟨good_of c.1, c.2⟩
    · cases h
/-! the law's reading -/
def wholeL (y : Str) : Option Int := if y ≠ "" ∧ y.length ≤ 9 ∧ figB (cp y) = true then some (digitsVal (cp y)) else none
def powerL (p : Str × Str × Str) : Str := if p.2.1 = "" then "0" else if p.2.2 = "" then "1" else cutS p.2.2 (some 1) none
def shareL (p : Str × Str × Str) : Str := if (Txt.replace p.1 "*" "").length ≠ 0 then Txt.replace p.1 "*" "" else "1"
def pieceL (x : Str) : Option (Int × Int) := match wholeL (shareL (Txt.partition (pieceT x).2 "x")) with
  | none => none
  | some s => (wholeL (powerL (Txt.partition (pieceT x).2 "x"))).map fun k => (k, (pieceT x).1 * s)
def stepL (f : List Int) (x : Str) : Option (List Int) := match pieceL x with
  | none => none
  | some (k, c) => if 5 < k then none else some (f.set k.toNat c)
def readL (t : Str) : Option (List Int) := match (partsX t).foldlM stepL [0, 0, 0, 0, 0, 0] with
  | none => none
  | some f => if (faultOf (trim f)).1 = true ∧ powersL (trim f) = t then some (trim f) else none
theorem lit_x : ("x" : Str) = ⟨#[120]⟩ := by decide +kernel
theorem repl_star {x : Str} : cp (Txt.replace x "*" "") = replL [42] [] (cp x) := by
  have := replace_list (x := x) (y := "*") (z := "") (by decide +kernel)
  rw [show cp (Txt.replace x "*" "") = _ from this, show ("*" : Str).cps.toList = [42] from cp_lit (by decide +kernel), show ("" : Str).cps.toList = [] from cp_lit (by decide +kernel)]
theorem wholeL_nat {y : Str} {n : Nat} (e : cp y = digs n) (h : n ≤ 100) : wholeL y = some (n : Int) := by
  have ds := digs_short h
  unfold wholeL
  rw [if_pos ⟨fun z => digs_ne n (by rw [← e]; exact cp_nil.mpr z), by rw [cp_len, e]; omega, by rw [e]; exact figB_iff.mpr (digs_all n)⟩, e, digs_val]
theorem cp_0 : cp ("0" : Str) = digs 0 := by decide +kernel
theorem cp_1 : cp ("1" : Str) = digs 1 := by decide +kernel
theorem cp_e : cp ("" : Str) = [] := by decide +kernel
theorem ne_str {x : Str} {a : Nat} {l : List Nat} (e : cp x = a :: l) : x ≠ "" := fun z => by
  have := cp_nil.mpr z
  rw [e] at this
  cases this
theorem len_ne {x : Str} : x.length ≠ 0 ↔ x ≠ "" := by
  rw [cp_len]
  exact not_congr (List.length_eq_zero_iff.trans cp_nil)
theorem whole_share {s r : List Nat} {k : Nat} (h : k ≤ 100) {p : Str × Str × Str} (e : cp p.1 = s) (hs : (s = [] ∧ k = 1) ∨ s = digs k ∨ s = digs k ++ [42]) : wholeL (shareL p) = some (k : Int) := by
  have nd : 42 ∉ digs k := fig_no (digs_all k) (by omega)
  unfold shareL
  rcases hs with ⟨hs, rfl⟩ | hs | hs
  · have er : cp (Txt.replace p.1 "*" "") = [] := by rw [repl_star, e, hs, replL_nil]
    rw [if_neg (fun z => len_ne.mp z (cp_nil.mp er))]
    exact wholeL_nat cp_1 h
  · have er : cp (Txt.replace p.1 "*" "") = digs k := by rw [repl_star, e, hs, repl_free' nd]
    rw [if_pos (len_ne.mpr fun z => digs_ne k (by rw [← er]; exact cp_nil.mpr z))]
    exact wholeL_nat er h
  · have er : cp (Txt.replace p.1 "*" "") = digs k := by
      rw [repl_star, e, hs, repl_free _ nd]
      have : replL [42] [] ([42] ++ []) = [] ++ replL [42] [] [] := repl_here (by simp) []
      rw [List.append_nil, replL_nil] at this
      rw [this]; simp
    rw [if_pos (len_ne.mpr fun z => digs_ne k (by rw [← er]; exact cp_nil.mpr z))]
    exact wholeL_nat er h
def restX (p : Nat) : List Nat := if p = 1 then [] else 94 :: digs p
theorem cp_prodX1 {p : Nat} (h : p ≠ 0) : cp (prodX p) = 120 :: restX p := by
  rw [cp_prodX, if_neg h]
  unfold restX
  split <;> rfl
theorem whole_power {p : Nat} (h0 : p ≠ 0) (h : p ≤ 100) {a : Str} : wholeL (powerL (a, (⟨#[120]⟩ : Str), ofL (restX p))) = some (p : Int) := by
  unfold powerL
  rw [if_neg (ne_str (cp_one 120))]
  unfold restX
  by_cases h1 : p = 1
  · subst h1
    rw [if_pos rfl, if_pos (cp_nil.mp (cp_ofL []))]
    exact wholeL_nat cp_1 h
  · rw [if_neg h1, if_neg (ne_str (cp_ofL _))]
    refine wholeL_nat ?_ h
    have := cut_from (ofL (94 :: digs p)) 1
    rw [cp_ofL] at this
    exact this
theorem pieceL_sgn {b : Bool} {k p : Nat} (hk : k ≤ 100) (hp : p ≤ 100) : pieceL (ofL (sgn (b, cp (shareT ((k : Int), 1) (prodX p))))) = some ((p : Int), (if b = true then -1 else 1) * (k : Int)) := by
  have pc := share_pc k p
  unfold pieceL
  rw [pieceT_sgn (p := (b, cp (shareT ((k : Int), 1) (prodX p)))) pc]
  dsimp only
  rw [ofL_cp, lit_x]
  have e := cp_share k p
  have n120 : 120 ∉ digs k := fig_no (digs_all k) (by omega)
  by_cases h0 : p = 0
  · subst h0
    rw [if_pos rfl] at e
    rw [part_no (by rw [e]; exact n120), whole_share (s := digs k) (r := []) hk e (.inr (.inl rfl))]
    dsimp only
    have : wholeL (powerL (shareT ((k : Int), 1) (prodX 0), ("" : Str), ("" : Str))) = some ((0 : Nat) : Int) := by
      unfold powerL
      rw [if_pos rfl]
      exact wholeL_nat cp_0 (by omega)
    rw [this]
    rfl
  · rw [if_neg h0, cp_prodX1 h0] at e
    by_cases h1 : k = 1
    · subst h1
      rw [if_pos rfl] at e
      rw [part_yes (p := []) (q := restX p) e (by simp), whole_share (s := []) (r := []) hk (cp_ofL []) (.inl ⟨rfl, rfl⟩)]
      dsimp only
      rw [whole_power h0 hp]
      rfl
    · rw [if_neg h1] at e
      rw [part_yes (p := digs k ++ [42]) (q := restX p) (by rw [e]; simp) (by
        intro z
        rcases List.mem_append.mp z with z | z
        · exact n120 z
        · revert z; decide), whole_share (s := digs k ++ [42]) (r := []) hk (cp_ofL _) (.inr (.inr rfl))]
      dsimp only
      rw [whole_power h0 hp]
      rfl
theorem stepL_piece {c : Int} {p : Nat} {f : List Int} (hc : c.natAbs ≤ 100) (hp : p < 6) : stepL f (ofL (sgn (decide (c < 0), cp (shareT ((c.natAbs : Int), 1) (prodX p))))) = some (f.set p c) := by
  unfold stepL
  rw [pieceL_sgn hc (by omega)]
  dsimp only
  rw [if_neg (by omega), Int.toNat_natCast]
  have := sign_abs c
  by_cases h : c < 0
  · rw [if_pos h] at this; rw [if_pos (decide_eq_true h), this]
  · rw [if_neg h] at this; rw [if_neg (by simpa using h), this]
theorem readL_back {ns : List Int} (G : GoodP ns) : readL (powersT ns) = some ns := by
  have l5 := G.l5
  have hp : partsX (powersT ns) = (selX ns).map fun p => ofL (sgn (decide (p.1.1 < 0), cp (shareT (absT p.1.1, p.1.2) p.2))) := by
    rw [show powersT ns = sumT0 (selX ns) from sumT_of G.sel (selX_pc ns), parts_of (l := pcs (selX ns)) (by simpa [pcs] using G.sel) (selX_pc ns) (cp_sumT0 (selX_pc ns))]
    unfold pcs
    rw [List.map_map]
    rfl
  have e : (partsX (powersT ns)).foldlM stepL (List.replicate 6 0) = some (ns ++ List.replicate (6 - ns.length) 0) := by
    rw [hp, sel_map, fold_set (ns := ns) (fun j f hj hn => ?_) _ _ (fun j hj => ?_), set_whole (by omega)]
    · show stepL f (ofL (sgn (decide (ns.getD j 0 < 0), cp (shareT (absT (ns.getD j 0), 1) (prodX j))))) = _
      rw [abs_pair]
      refine stepL_piece ?_ (by omega)
      rw [List.getD_eq_getElem?_getD, List.getElem?_eq_getElem hj]
      exact G.sm _ (List.getElem_mem hj)
    · obtain ⟨i, hi, rfl⟩ := List.mem_map.mp hj
      have := List.mem_range.mp hi
      omega
  unfold readL
  rw [show ([0, 0, 0, 0, 0, 0] : List Int) = List.replicate 6 0 from rfl, e]
  dsimp only
  rw [trim_app G.lastX, if_pos ⟨faultOf_good G, (powers_same G).symm⟩]
theorem readL_some {t : Str} {ns : List Int} (h : readL t = some ns) : GoodP ns ∧ powersT ns = t := by
  unfold readL at h
  split at h
  · cases h
  · split at h
    · rename_i f _ c
      have := Option.some.inj h
      rw [← this]
      exact ⟨good_of c.1, by rw [powers_same (good_of c.1)]; exact c.2⟩
    · cases h
/-- both read alike -/
theorem read_same (t : Str) : readP t = readL t := by
  cases h : readP t with
  | some ns =>
    obtain ⟨G, e⟩ := readP_some h
    rw [← e, readL_back G]
  | none =>
    cases h2 : readL t with
    | none => rfl
    | some ns =>
      obtain ⟨G, e⟩ := readL_some h2
      rw [← e, readP_back G] at h
      cases h
end My

/-! ### except (A, B, ..) as e: e is kept -/
namespace My
open PySem PySem.Spec PySem.Calls PyProof.Rows
section
open PySem.W
variable {M : Model} {K : Frag} {A : Around} {E : Value → Shared → Prop} {s : Shared}
theorem exm_loop1 {F : Value → Sem (ForInStep PUnit)} : ∀ {cs : List Value} {Q : PUnit → Shared → Prop}, (∀ c ∈ cs, Looks M s.heap (isExcClass c) true) → Q PUnit.unit s →
    wpAny M A (forIn cs PUnit.unit fun c _ => do
      let r ← isExcClass c
      if (!r) = true then F c else pure (ForInStep.yield PUnit.unit)) Q E s
  | [], Q, _, q => by rw [List.forIn_nil]; exact wpAny_pure q
  | c :: cs, Q, h, q => by
    rw [List.forIn_cons]
    refine wpAny_bind (wpAny_bind ((h c (List.mem_cons_self ..)).here ?_))
    refine wpAny_pure ?_
    exact exm_loop1 (fun d hd => h d (List.mem_cons_of_mem _ hd)) q
theorem exm_loop2 {te : Value} : ∀ {cs : List Value} {b : Bool} {Q : Option Bool × Unit → Shared → Prop}, K.In s.heap → exmAny K te cs = some b → Q (if b = true then (some true, ()) else (none, ())) s →
    wpAny M A (forIn cs ((none, ()) : Option Bool × Unit) fun c _ => do
      let r ← isSubtype te c
      if r = true then pure (ForInStep.done (some true, ())) else pure (ForInStep.yield (none, ()))) Q E s
  | [], b, Q, _, hx, q => by
    cases (show some false = some b from hx)
    rw [List.forIn_nil]
    exact wpAny_pure q
  | c :: cs, b, Q, X, hx, q => by
    obtain ⟨b1, d1, h1, h2, e⟩ := exmAny_cons hx
    rw [List.forIn_cons]
    refine wpAny_bind (wpAny_bind ((exm_cls (M := M) X h1).2.here ?_))
    cases b1 with
    | true =>
      rw [if_pos rfl]
      refine wpAny_pure (wpAny_pure ?_)
      rw [e] at q
      exact q
    | false =>
      rw [if_neg Bool.false_ne_true]
      refine wpAny_pure ?_
      rw [Bool.false_or] at e
      subst e
      exact exm_loop2 X h2 q
theorem exm_all {te : Value} : ∀ {cs : List Value} {b : Bool}, exmAny K te cs = some b → ∀ c ∈ cs, ∃ v, exmOne K te c = some v
  | [], _, _, c, h => by cases h
  | d :: cs, b, hx, c, h => by
    obtain ⟨b1, d1, h1, h2, _⟩ := exmAny_cons hx
    rcases List.mem_cons.mp h with e | h
    · rw [e]; exact ⟨b1, h1⟩
    · exact exm_all h2 c h
theorem exm_tupN {cs : List Value} {cls : Value} {tp e : Addr} {b : Bool} {h : Heap} (X : K.In h) (LT : Looks M h (typeOf (.ref e)) cls) (hp : h.get? tp = some { cls := .type "tuple", data := .seq cs.toArray }) (hx : exmAny K cls cs = some b) :
    Looks M h (excMatches (.ref e) (.ref tp)) b := by
  intro A Q E s k₀ q
  have LT0 : Looks M h (isInstance (.ref tp) (.type "tuple")) true := ((Looks.ld hp).andThen .now).andThen (Looks.of_pure isSubtype_tuple_tuple)
  have XS : K.In s.heap := X.keeps k₀
  unfold excMatches
  refine wpAny_bind ((LT0.keeps k₀).here ?_)
  rw [if_pos rfl]
  refine wpAny_bind (wpAny_seqItems (k₀ _ _ hp) rfl (wpAny_bind (wpAny_pure ?_)))
  refine wpAny_bind (exm_loop1 (fun c hc => ?_) ?_)
  · obtain ⟨v, hv⟩ := exm_all hx c (by simpa using hc)
    exact (exm_cls (M := M) XS hv).1
  refine wpAny_bind ((LT.keeps k₀).here ?_)
  refine wpAny_bind (exm_loop2 (b := b) XS (by simpa using hx) ?_)
  cases b with
  | true => exact wpAny_pure q
  | false => exact wpAny_pure q
end
section
theorem flying_push {B : Heap} {l : List Env} {a : Addr} {Z : Obj → Prop} {h : Heap} {o : Obj} (x : HandSPX.FlyingZ B l a Z h) : HandSPX.FlyingZ B l a Z (h.push o) := by
  obtain ⟨k1, k2, k3, oe, vs, T, oT, ts, he, hz, hd, h1, h2, h3, h4, h5⟩ := x
  exact ⟨fun b u q => Heap.get?_push_of_some _ (k1 b u q), k2, k3.of_keeps fun b u q _ => ⟨u, Heap.get?_push_of_some _ q, rfl⟩, oe, vs, T, oT, ts, Heap.get?_push_of_some _ he, hz, hd, h1, h2, h3, Heap.get?_push_of_some _ h4, h5⟩
theorem up_push {h : Heap} {o : Obj} : h.UpToSlots (h.push o) := Heap.UpToSlots.of_keeps fun b u q => Heap.get?_push_of_some _ q
end
open L2
/-- the names of a clause's tuple -/
inductive NamesT (X : Cx) : List Expr → List Value → Prop
  | nil : NamesT X [] []
  | cons {x : Str} {c : Value} {np : Pos} {es : List Expr} {cs : List Value} (hc : Names X x c) (r : NamesT X es cs) (hs : starEach (.Name x np :: es) X.env = (false, eval (.Name x np) X.env) :: starEach es X.env) : NamesT X (.Name x np :: es) (c :: cs)
/-- what the clause «except (..) as n: suite» wishes of an exception; n in slot i -/
def wKeepT (K : PySem.W.Frag) (i : Nat) (Wout : WX) (D : Ends) (cs : List Value) (ts : Addr → Value → Option Addr → TS) : WX := fun cls d σ H => ∃ b, PySem.W.exmAny K cls cs = some b ∧ (b = true → ∀ a, H a = none → ts a cls d (DKeep i a cls d D) (σ.set i (some (.ref a))) H) ∧ (b = false → Wout cls d σ H)
section
variable {X : Cx} {n : Str} {i kt : Nat} {body : List Stmt} {es : List Expr} {cs : List Value} {b₀ : Stmt} {suite : List Stmt} {tp hpos pos : Pos} {tb : WX → TS} {Wout : WX} {ts : Addr → Value → Option Addr → TS}
theorem ps_try_keepT (hs : X.stack = X.env :: X.outer) (hf : X.env.frame = some X.env.locals) (hex : X.ex = []) (hN : X.N.Nodup) (hi : X.N[i]? = some n) (hln : X.env.kindOf n = some .local) (tk : Takes X Wout)
    (hb : ∀ (W : WX) (pn : List (Addr × Obj)) (xe : Value → Shared → Prop), Takes (X.tr pn xe) W → PassesOwn (model X.prog X.w) X.A X.env xe → PSs (X.tr pn xe) body (tb W))
    (hnm : NamesT X es cs) (hl : cs.length ≤ sizeLine) (hsu : ∀ (a : Addr) (oe : Obj) (cls : Value) (d : Option Addr) (pn : List (Addr × Obj)), PSs (X.suite a ((a, oe) :: pn)) (b₀ :: suite) (ts a cls d)) :
    PS X (.Try body [.ExceptHandler (some (.Tuple es kt tp)) (some n) (b₀ :: suite) hpos] [] [] pos) (fun D σ H => tb (wKeepT X.K i Wout D cs ts) D σ H) := by
  refine ⟨fun pins s σ H D I h => ?_⟩
  have ok := I.ok
  have hfr : X.A.frames = some (X.env :: X.outer) := by rw [ok.frames, hs]
  have hloc : Loc X.env.scope n := .inl hln
  refine wpAny_Try_except ?_
  refine wpAny_mono ((hb (wKeepT X.K i Wout D cs ts) (X.pn ++ pins) (fun e s₁ => wpAny (model X.prog X.w) X.A (noteFrame e X.env) (fun _ s₂ => wpAny (model X.prog X.w) X.A (setFlight e none) (fun _ s₃ =>
    wpAny (model X.prog X.w) X.A (handleBy e X.env [.ExceptHandler (some (.Tuple es kt tp)) (some n) (b₀ :: suite) hpos]) (SP X pins D) X.xe s₃) X.xe s₂) X.xe s₁) (fun u s' xx => ?_) PassesOwn.looking).run [] s σ H D (I.toTry _) h) (fun f s1 hsp => ?_) (fun _ _ z => z)
  · obtain ⟨a, B, sI, pins', σ', H', cls, d, rfl, J', nb, up, sky, na, os, ag, w⟩ := xx
    have J : Inv X pins σ' H' sI := J'.ofTry ok
    have sky' : Sky B (X.env :: X.outer) a (Zc cls d) X.env.locals s'.heap := by rw [← hs]; exact sky
    show wpAny (model X.prog X.w) X.A (noteFrame (.ref a) X.env) _ _ _
    refine Sky.land Zc.steady hfr hf sky' fun h3 fl3 up3 => ?_
    have J3 : Inv X pins σ' H' { s' with heap := h3 } := J.landed nb fl3.1 (up.trans up3) os ag
    obtain ⟨oe3, vs3, he3, hz3, hd3⟩ := fl3.there
    have Ba : B.get? a = none := fl3.2.1
    have nfr : a ∉ frs (X.env :: X.outer) := fun hm => by
      obtain ⟨_, o', e', hnf⟩ := (fl3.2.2.1).mem hm
      rw [he3] at e'; cases e'
      exact hnf _ hd3
    have nL : a ≠ X.env.locals := fun z => nfr (List.mem_filterMap.mpr ⟨X.env, List.mem_cons_self, by rw [hf, z]⟩)
    have nF : a ∉ X.fs := fun hm => by
      obtain ⟨e, he, q⟩ := List.mem_filterMap.mp hm
      exact nfr (List.mem_filterMap.mpr ⟨e, List.mem_cons_of_mem _ he, q⟩)
    have notI : sI.heap.get? a = none := by
      cases e : sI.heap.get? a with
      | none => rfl
      | some o =>
        have := nb a o e (by rw [hs]; exact nfr)
        rw [Ba] at this; cases this
    have new0 : X.s_0.heap.get? a = none := by
      cases e : X.s_0.heap.get? a with
      | none => rfl
      | some o =>
        obtain ⟨o', q⟩ := J.base.there a o e (by rw [hex]; simp)
        rw [notI] at q; cases q
    have np : ∀ p ∈ X.pn ++ pins, p.1 ≠ a := fun p hp z => by
      have q := (J.pin p hp).1
      rw [z, notI] at q; cases q
    have S3 := J3.suite he3 hd3 na nL nF
    obtain ⟨b, hb1, hyes, hno⟩ := w
    have names : ∀ {es' : List Expr} {cs' : List Value}, NamesT X es' cs' → ∀ {Q : List Value → Shared → Prop} {E : Value → Shared → Prop}, Q cs' { s' with heap := h3 } → wpAny (model X.prog X.w) (X.A.mark (some (.ref a))) (spliced (backTo tp (starEach es' X.env))) Q E { s' with heap := h3 } := by
      intro es' cs' hn
      induction hn with
      | nil => intro Q E q; exact Calls.spliced_nil q
      | @cons x c np es2 cs2 hc r hst ih =>
        intro Q E q
        rw [hst]
        show wpAny _ _ (spliced ((false, eval (.Name x np) X.env) :: backTo tp (starEach es2 X.env))) _ _ _
        refine Calls.spliced_cons ?_
        obtain ⟨hg, hdbg, hm | ⟨hm, hv, hnn⟩⟩ := hc
        · exact ld_glob (X := X.suite a ((a, oe3) :: (X.pn ++ pins))) S3 hg hm (ih q) hdbg
        · exact ld_blt (X := X.suite a ((a, oe3) :: (X.pn ++ pins))) S3 hg hm hv (ih q) hnn hdbg
    have LT : PySem.W.Looks (model X.prog X.w) (h3.push { cls := .type "tuple", data := .seq cs.toArray }) (typeOf (.ref a)) cls := fun A Q E s k q => wpAny_typeOf_ref (k _ _ (Heap.get?_push_of_some _ he3)) (by rw [hz3.1]; exact q)
    have XP : X.K.In (h3.push { cls := .type "tuple", data := .seq cs.toArray }) := PySem.W.Frag.In.keeps J3.kIn fun b u q => Heap.get?_push_of_some _ q
    have LM := exm_tupN (M := model X.prog X.w) XP LT (Heap.get?_push_size h3 rfl) hb1
    have fl3' := flying_push (o := { cls := .type "tuple", data := .seq cs.toArray }) fl3
    have up3' := (up.trans up3).trans (up_push (h := h3) (o := { cls := .type "tuple", data := .seq cs.toArray }))
    refine wpAny_handleBy_cons (codeAny_handlers_test (wpAny_Tuple_spliced (names hnm ⟨hl, LM.here ?_⟩))) (by intro q; cases q)
    cases b with
    | true =>
      refine codeAny_handlers_suite_as ?_
      refine HandSPX.lands_againZ fl3' fun h4 fl4 up4 => ?_
      have J4 : Inv X pins σ' H' { s' with heap := h4 } := J.landed nb fl4.1 (up3'.trans up4) os ag
      obtain ⟨oe4, vs4, he4, hz4, hd4⟩ := fl4.there
      have S4 := J4.suite he4 hd4 na nL nF
      refine store_ok (X := X.suite a ((a, oe4) :: (X.pn ++ pins))) (v := .ref a) S4 hN hi hloc rfl (fun s5 S5 => ?_) (.inr hln)
      refine wpAny_mono ((hsu a oe4 cls d (X.pn ++ pins)).run [] s5 _ H' _ S5 (hyes rfl a na)) (fun f s6 hsp => ?_) (fun _ _ z => False.elim z)
      cases f with
      | next =>
        obtain ⟨σ6, H6, S6, q6⟩ := hsp
        obtain ⟨pa, pb, _⟩ := S6.pin (a, oe4) (List.mem_append_left _ List.mem_cons_self)
        exact gone_ok (track (S6.unsuite ok) pa hz4 ⟨_, hd4⟩ pb nL new0 np) hN hi hln fun s7 J7 => ⟨_, _, J7, q6 pb⟩
      | brk =>
        obtain ⟨σ6, H6, S6, q6⟩ := hsp
        exact False.elim q6
      | cont =>
        obtain ⟨σ6, H6, S6, q6⟩ := hsp
        exact False.elim q6
      | ret u =>
        obtain ⟨v6, σ6, H6, S6, r6, q6⟩ := hsp
        exact False.elim q6
    | false =>
      show wpAny _ X.A (handleBy (.ref a) X.env []) _ _ _
      refine wpAny_handleBy_nil ?_
      obtain ⟨k1, k2, k3, oe, vs, T, oT, ts', he, hz, hd, h1, hr⟩ := id fl3'
      unfold PySem.passOn
      refine wpAny_bind (wpAny_field he hd h1 ?_)
      rw [if_neg (show ¬ ((Value.ref T == Value.none) = true) from by simp)]
      have fin : wpAny (model X.prog X.w) X.A (setFlight (.ref a) X.env.frame) (fun _ s4 => wpAny (model X.prog X.w) X.A (throw (.ref a) : Sem Flow) (SP X pins D) X.xe s4) X.xe { s' with heap := h3.push { cls := .type "tuple", data := .seq cs.toArray } } := by
        rw [hf]
        refine HandSPX.setFlight_upZ fl3' fun h4 hh4 up4 => wpAny_throw (tk _ _ ?_)
        exact ⟨a, B, sI, pins, σ', H', cls, d, rfl, J, nb, up3'.trans up4, .inr (.inr (by rw [hs]; exact hh4)), na, os, ag, hno rfl⟩
      first
        | exact wpAny_bind (wpAny_pure (wpAny_bind fin))
        | exact wpAny_bind fin
  · cases f with
    | next =>
      obtain ⟨σ', H', J', q⟩ := hsp
      exact wpAny_execs_nil ⟨σ', H', J'.ofTry ok, q⟩
    | brk =>
      obtain ⟨σ', H', J', q⟩ := hsp
      exact ⟨σ', H', J'.ofTry ok, q⟩
    | cont =>
      obtain ⟨σ', H', J', q⟩ := hsp
      exact ⟨σ', H', J'.ofTry ok, q⟩
    | ret u =>
      obtain ⟨v, σ', H', J', r, q⟩ := hsp
      exact ⟨v, σ', H', J'.ofTry ok, r, q⟩
end
end My

/-! ### defs that begin with a token; texts' methods -/
namespace My
open PySem PySem.Spec PyProof.Rows L2
open C8 (Cal pe_c pe_gc)
section
variable {X : Cx}
theorem psst_nox {st : List Stmt} {t : TS} (h : PSsT X.nox st t) : PSsT X st t := fun pins s σ H D h0 I hw =>
  wpAny_mono (h pins s σ H D h0 (I.wish _) hw) (fun _ _ q => q.unwish) fun _ _ z => False.elim z
theorem pst_set {i : Nat} {x : Str} {e : Expr} {te : TE} {pos pos' : Pos} (hN : X.N.Nodup) (hi : X.N[i]? = some x) (hx : Loc X.env.scope x) (he : PET X e te) (hs : swapsWith e (some (.Name x pos')) pos.line X.env = pure false := by rfl) (hf : X.fn x = true ∨ X.env.scope.names.lookup x = some .local := by first | exact .inl rfl | exact .inr rfl | assumption) :
    PST X (.Assign [.Name x pos'] e pos) (tAsg te (gName i)) := by
  intro pins s σ H D h0 I h
  exact wpAny_Assign_Name (thn (he pins s σ H _ h0 I h) fun v s1 ⟨y, H1, I1, r1, q1⟩ => store_ok I1 hN hi hx r1 (fun s2 I2 => ⟨_, H1, I2, q1⟩) hf) hs
theorem pet_orT {a b : Expr} {rest : List Expr} {ta tb : TE} {pos : Pos} (ha : PET X a ta) (hb : PE X (.BoolOp .Or (b :: rest) pos) tb) : PET X (.BoolOp .Or (a :: b :: rest) pos) (tOrT X.K ta tb) := by
  intro pins s σ H Q h0 I h
  refine BoolOp_or (thn (ha pins s σ H _ h0 I h) fun v s1 ⟨x, H1, I1, r1, k, e, q1⟩ => ?_)
  refine thn (tru_ok pins s1 σ H1 x v (fun c H2 => c = k ∧ H2 = H1) I1 r1 ⟨k, e, rfl, rfl⟩) fun c s2 ⟨H2, I2, e1, e2⟩ => ?_
  rw [e2] at I2
  rw [← e1] at q1
  cases c with
  | true => exact ⟨x, H1, I2, r1, q1⟩
  | false => exact hb.run pins s2 σ H1 Q I2 q1
theorem pet_split {o e : Expr} {to te : TE} {apos pos : Pos} (ho : PET X o to) (he : PE X e te) (hs : starEach [e] X.env = [(false, eval e X.env)] := by rfl) (hbase : attributeBase o "split" X.env (eval o X.env) = eval o X.env := by rfl) (hline : (apos.endLine == pos.line) = true := by rfl) :
    PET X (.Call (.Attribute o "split" apos) [e] [] pos) (tM1 (fun x xs H Q => ∃ a b, x = .str a ∧ xs = [.str b] ∧ (b.length == 0) = false ∧ a.length + 2 ≤ sizeLine ∧ rNewStrs (Txt.split a b) H Q) to te) := by
  intro pins s σ H Q h0 I h
  refine PySem.Call_method1 hbase hs hline (thn (ho pins s σ H _ h0 I h) fun v s1 ⟨x, H1, I1, r1, ⟨a, ea⟩, q1⟩ => ?_)
  subst ea
  obtain ⟨t, rfl⟩ := (show ∃ t, v = Value.str a t from r1)
  refine ⟨"str", _, PySem.F.plainAttrs_str, PySem.F.slot_str_split, PySem.F.type_str_split, typeIs_str _ _ _, (fun _ e => nomatch e), Calls.callWith_builtin rfl (Calls.evalArgs_plain (Calls.spliced_cons ?_))⟩
  exact thn (he.run pins s1 σ H1 _ I1 q1) fun u s2 ⟨y, H2, I2, r2, q2⟩ => Calls.spliced_nil (mt_split pins s2 σ H2 _ [y] _ [u] Q I2 r1 (.cons r2 .nil) q2)
end
section
variable {P : Program} {w : World} {K : PySem.W.Frag} {mg : Str → Option Value} {base : Heap} {x qual : Str} {st : Stmt} {f : Addr} {fd : FuncData} {N ps : List Str} {k : Nat}
/-- okD where the body wants a token given out -/
theorem okDT {W : WpD} (F : L2.Fun K x qual st f fd) (S : FnScope N ps (defScope st)) (hnc : ((defScope st).names.all fun y => decide (y.2 ≠ .cell)) = true) (hps : 1 ≤ ps.length) (hl : ∀ ds C, W ds C → ds.length = ps.length)
    (hb : ∀ (cdv : Value) (A : Around) (outer : List Env) (s : Shared) (H : Hp) (E : XK), Room k (A.deeper (envOfC qual (defScope st) s.heap.objs.size f cdv)) →
      ∃ t, PSsT (cxOf CX0 P w K mg base N qual (defScope st) f cdv A outer s H E).nox (defBody st) t ∧ ∀ (z : Cz) (ds : List Dat) (C : Dat → Prop), W ds C → XS z t (argsG N.length ds) 0 { nx := fun _ _ => C .non, rt := fun _ d => C d, rn := fun _ es => C (.lst es) }) :
    FnOk P w K mg base CX0 (k + 1) f fd ps (spD W) := by
  obtain ⟨oc, od, kV, doc, pm, an, cdv, ct, osl, rfl, lk, hcd⟩ := F.ex
  refine fn_ofT lk hcd S (fun y hy => of_decide_eq_true (List.all_eq_true.mp hnc y hy)) hps (fun vs H Q E h => ?_) fun A outer s H vs Q E hr h => ?_
  · obtain ⟨G, ds, C, hd, r, hW, _⟩ := h
    rw [r.length]; exact hl ds C hW
  · obtain ⟨G, ds, C, hd, r, hW, hk⟩ := h
    obtain ⟨t, ht, hx⟩ := hb cdv A outer s H E hr
    refine ⟨t, psst_nox ht, hx ⟨G, [], H⟩ ds C hW G _ H (real_start rfl hd (by simp) (by simp) r) _ ⟨fun O' g' m' σ' H' c R' l => ?_, fun O' g' m' σ' d v H' c R' q => ?_, fun O' g' m' σ' es p H' c R' n nb f => ?_, fun _ _ _ _ _ c => c.elim, fun _ _ _ _ _ c => c.elim⟩⟩
    · exact hk _ _ H' c (LeX.le R'.le) .non
    · exact hk d v H' c (LeX.le R'.le) (q.mono (hid_sub R'.sub))
    · obtain ⟨vs, hp, q⟩ := f
      have l := hid1_le H' p
      exact hk _ _ H' c ((LeX.le R'.le).trans l) (.lst (by rw [hid_out (fun z => n (R'.sub p z))]; exact hp) ((q.mono (hid_sub R'.sub)).mono l.hid))
end
/-! what they ask of data -/
def dSpl (a : Str) (d : Dat) (C : List Dat → Prop) : Prop := ∃ b : Str, d = .str b ∧ (b.length == 0) = false ∧ a.length + 2 ≤ sizeLine ∧ C ((Txt.split a b).map Dat.str)
def dPar (a : Str) (d : Dat) (C : Dat → Prop) : Prop := ∃ b : Str, d = .str b ∧ (b.length == 0) = false ∧ a.length ≤ sizeLine ∧ C (.tup [.str (Txt.partition a b).1, .str (Txt.partition a b).2.1, .str (Txt.partition a b).2.2])
def dRep2 (y z : Str) (d : Dat) (C : Dat → Prop) : Prop := ∃ x : Str, d = .str x ∧ x.length + (x.length + 1) * z.length ≤ 16777216 ∧ C (.str (Txt.replace x y z))
def dSlS (d : Dat) (lo hi : Option Int) (C : Dat → Prop) : Prop := ∃ x : Str, d = .str x ∧ x.length ≤ sizeLine ∧ C (.str (cutS x lo hi))
theorem go_spl {a b : Str} {C : List Dat → Prop} (h1 : (b.length == 0) = false) (h2 : a.length + 2 ≤ sizeLine) (c : C ((Txt.split a b).map Dat.str)) : dSpl a (.str b) C := ⟨b, rfl, h1, h2, c⟩
theorem go_par {a b : Str} {C : Dat → Prop} (h1 : (b.length == 0) = false) (h2 : a.length ≤ sizeLine) (c : C (.tup [.str (Txt.partition a b).1, .str (Txt.partition a b).2.1, .str (Txt.partition a b).2.2])) : dPar a (.str b) C := ⟨b, rfl, h1, h2, c⟩
theorem go_rep2 {x y z : Str} {C : Dat → Prop} (h : x.length + (x.length + 1) * z.length ≤ 16777216) (c : C (.str (Txt.replace x y z))) : dRep2 y z (.str x) C := ⟨x, rfl, h, c⟩
theorem go_slS {x : Str} {lo hi : Option Int} {C : Dat → Prop} (h : x.length ≤ sizeLine) (c : C (.str (cutS x lo hi))) : dSlS (.str x) lo hi C := ⟨x, rfl, h, c⟩
/-- a text within a text -/
def inT (x y : Str) : Bool := !(Builtin.Str.occurrences y x 0 y.length 1).isEmpty
def dIn2 (neg : Bool) (d e : Dat) (C : Dat → Prop) : Prop := ∃ x y : Str, d = .str x ∧ e = .str y ∧ C (.bl (if neg then !inT x y else inT x y))
theorem go_in2 {neg : Bool} {x y : Str} {C : Dat → Prop} (c : C (.bl (if neg then !inT x y else inT x y))) : dIn2 neg (.str x) (.str y) C := ⟨x, y, rfl, rfl, c⟩
theorem dr_in2 : DR2 (fun x y H Q => ∃ i j, x = .str i ∧ y = .str j ∧ Q (.bl (!(Builtin.Str.occurrences j i 0 j.length 1).isEmpty)) H) (dIn2 false) := fun O H x y d e C Q _ rx ry ⟨i, j, e1, e2, c⟩ k => by
  subst e1 e2; cases rx; cases ry
  exact ⟨i, j, rfl, rfl, k _ _ H c (Le.refl H) (.bl _)⟩
theorem dr_notIn2 : DR2 (fun x y H Q => ∃ i j, x = .str i ∧ y = .str j ∧ Q (.bl (!(!(Builtin.Str.occurrences j i 0 j.length 1).isEmpty))) H) (dIn2 true) := fun O H x y d e C Q _ rx ry ⟨i, j, e1, e2, c⟩ k => by
  subst e1 e2; cases rx; cases ry
  exact ⟨i, j, rfl, rfl, k _ _ H c (Le.refl H) (.bl _)⟩
def dInC (neg : Bool) (d e : Dat) (C : Dat → Prop) : Prop := ∃ (c : Nat) (y : Str), d = .str ⟨#[c]⟩ ∧ e = .str y ∧ C (.bl (if neg then !decide (c ∈ y.cps.toList) else decide (c ∈ y.cps.toList)))
theorem go_inC {neg : Bool} {c : Nat} {y : Str} {C : Dat → Prop} (h : C (.bl (if neg then !decide (c ∈ y.cps.toList) else decide (c ∈ y.cps.toList)))) : dInC neg (.str ⟨#[c]⟩) (.str y) C := ⟨c, y, rfl, rfl, h⟩
theorem dr_inC : DR2 (fun x y H Q => ∃ (c : Nat) (z : Str), x = .str ⟨#[c]⟩ ∧ y = .str z ∧ Q (.bl (decide (c ∈ z.cps.toList))) H) (dInC false) := fun O H x y d e C Q _ rx ry ⟨i, j, e1, e2, c⟩ k => by
  subst e1 e2; cases rx; cases ry
  exact ⟨i, j, rfl, rfl, k _ _ H c (Le.refl H) (.bl _)⟩
theorem dr_notInC : DR2 (fun x y H Q => ∃ (c : Nat) (z : Str), x = .str ⟨#[c]⟩ ∧ y = .str z ∧ Q (.bl (!decide (c ∈ z.cps.toList))) H) (dInC true) := fun O H x y d e C Q _ rx ry ⟨i, j, e1, e2, c⟩ k => by
  subst e1 e2; cases rx; cases ry
  exact ⟨i, j, rfl, rfl, k _ _ H c (Le.refl H) (.bl _)⟩
def dLenT (ds : List Dat) (C : Dat → Prop) : Prop := ∃ x : Str, ds = [.str x] ∧ x.length ≤ sizeLine ∧ C (.int x.length)
theorem go_lenT {x : Str} {C : Dat → Prop} (h : x.length ≤ sizeLine) (c : C (.int x.length)) : dLenT [.str x] C := ⟨x, rfl, h, c⟩
theorem db_lenT : DCB (fun xs H Q => ∃ z, xs = [.str z] ∧ z.length ≤ sizeLine ∧ Q (.int z.length) H) dLenT := fun O H xs ds C Q _ r ⟨x, e, h, c⟩ k => by
  subst e
  cases r with
  | cons r t => cases t; cases r; exact ⟨x, rfl, h, k _ _ H c (Le.refl H) (.int _)⟩
def dIntT (ds : List Dat) (C : Dat → Prop) : Prop := ∃ (x : Str) (n : Int), ds = [.str x] ∧ PySem.intText? x = some n ∧ x.length ≤ 640 ∧ C (.int n)
theorem go_intT {x : Str} {n : Int} {C : Dat → Prop} (h1 : PySem.intText? x = some n) (h2 : x.length ≤ 640) (c : C (.int n)) : dIntT [.str x] C := ⟨x, n, rfl, h1, h2, c⟩
theorem db_intT : DCB (fun xs H Q => ∃ a n, xs = [.str a] ∧ PySem.intText? a = some n ∧ a.length ≤ 640 ∧ Q (.int n) H) dIntT := fun O H xs ds C Q _ r ⟨x, n, e, h1, h2, c⟩ k => by
  subst e
  cases r with
  | cons r t => cases t; cases r; exact ⟨x, n, rfl, h1, h2, k _ _ H c (Le.refl H) (.int _)⟩
theorem RpL.bls {H : Hp} : ∀ {vs : List V} {bs : List Bool}, RpL H vs (bs.map Dat.bl) → vs = bs.map V.bl
  | _, [], r => by cases r; rfl
  | _, y :: ys, r => by
    cases r with
    | cons a t => cases a; rw [RpL.bls t]; rfl
def dAll (ds : List Dat) (C : Dat → Prop) : Prop := ∃ bs : List Bool, ds = [.lst (bs.map Dat.bl)] ∧ C (.bl (bs.all _root_.id))
theorem go_all {bs : List Bool} {C : Dat → Prop} (c : C (.bl (bs.all _root_.id))) : dAll [.lst (bs.map Dat.bl)] C := ⟨bs, rfl, c⟩
theorem db_all {K : PySem.W.Frag} : DCB (rAll K) dAll := fun O H xs ds C Q _ r ⟨bs, e, c⟩ k => by
  subst e
  cases r with
  | cons r t =>
    cases t
    cases r with
    | lst h r => exact ⟨_, bs, rfl, SqL.of (by rw [← r.bls]; exact (hid_some h).2), k _ _ H c (Le.refl H) (.bl _)⟩
section
variable {z : Cz} {g : List Sl} {m : Nat} {C : Nat → Dat → Prop} {CL : Nat → List Dat → Prop} {t ta tb to te : TE} {tr : TA} {E : DE} {K : PySem.W.Frag}
theorem new_list {O : List Addr} {σ : L2.St} {H H2 : Hp} {m2 : Nat} {ds : List Dat} {vs : List V} {p : Addr} {Q : VK} (R2 : Real z O g m2 σ H2) (l : LeX z.P H H2) (n : H2 p = none) (q : RpL (hid O H2) vs ds) (c : CL m2 ds)
    (k : ∀ m' ds p H', CL m' ds → Real z O g m' σ (hid [p] H') → LeX z.P H (hid [p] H') → Fresh z O H H' p ds → Q (.ref p) H') : Q (.ref p) (upd H2 p (.lst vs)) := by
  obtain ⟨f, e⟩ := Fresh.of R2 n q
  refine k m2 ds p _ c (by rw [e]; exact R2) (by rw [e]; exact l) ⟨f.no, f.nb, ?_, f.at_⟩
  cases q : H p with
  | none => rfl
  | some o =>
    by_cases y : p ∈ z.P
    · exact absurd (R2.po p y) f.no
    · obtain ⟨o', ho⟩ := (l p o y q).get
      rw [n] at ho; cases ho
theorem RpL.ofStrs {H : Hp} : ∀ ys : List Str, RpL H (ys.map V.str) (ys.map Dat.str)
  | [] => .nil
  | y :: ys => .cons (.str y) (RpL.ofStrs ys)
theorem XN.spl (h : XE z to g m fun m1 x => dStr x fun a => XE z te g m1 fun m2 d => dSpl a d (CL m2)) : XN z (tM1 (fun x xs H Q => ∃ a b, x = .str a ∧ xs = [.str b] ∧ (b.length == 0) = false ∧ a.length + 2 ≤ sizeLine ∧ rNewStrs (Txt.split a b) H Q) to te) g m CL := fun O σ H R Q k =>
  h O σ H R _ fun m1 x v H1 ⟨a, e, c1⟩ R1 l1 q1 => by
    subst e; cases q1
    refine ⟨⟨a, rfl⟩, c1 O σ H1 R1 _ fun m2 d u H2 ⟨b, e2, h1, h2, c⟩ R2 l2 q2 => ?_⟩
    subst e2; cases q2
    exact ⟨a, b, rfl, rfl, h1, h2, fun p hp => new_list R2 (l1.trans l2) hp (RpL.ofStrs _) c k⟩
theorem XE.par (h : XE z to g m fun m1 x => dStr x fun a => XE z te g m1 fun m2 d => dPar a d (C m2)) : XE z (tM1 (fun x xs H Q => ∃ a b, x = .str a ∧ xs = [.str b] ∧ (b.length == 0) = false ∧ a.length ≤ sizeLine ∧
    ∀ p, H p = none → Q (.ref p) (upd H p (.tup [.str (Txt.partition a b).1, .str (Txt.partition a b).2.1, .str (Txt.partition a b).2.2]))) to te) g m C := fun O σ H R Q k =>
  h O σ H R _ fun m1 x v H1 ⟨a, e, c1⟩ R1 l1 q1 => by
    subst e; cases q1
    refine ⟨⟨a, rfl⟩, c1 O σ H1 R1 _ fun m2 d u H2 ⟨b, e2, h1, h2, c⟩ R2 l2 q2 => ?_⟩
    subst e2; cases q2
    refine ⟨a, b, rfl, rfl, h1, h2, fun p hp => ?_⟩
    have l : Le H2 (upd H2 p (.tup [.str (Txt.partition a b).1, .str (Txt.partition a b).2.1, .str (Txt.partition a b).2.2])) := .new hp
    have n : p ∉ O := fun q => by obtain ⟨o, ho⟩ := R2.dom p q; rw [hp] at ho; cases ho
    exact k m2 _ _ _ c (R2.up l) ((l1.trans l2).trans l.x) (.tup (by rw [hid_out n]; exact upd_same) (.cons (.str _) (.cons (.str _) (.cons (.str _) .nil))))
theorem XE.rep2 {y z' : Str} (h : XE z to g m fun m1 d => dRep2 y z' d (C m1)) : XE z (CwR.tReplC to y z') g m C := fun O σ H R Q k =>
  h O σ H R _ fun m1 d v H1 ⟨x, e, hl, c⟩ R1 l1 q1 => by
    subst e; cases q1
    exact ⟨x, rfl, hl, k m1 _ _ H1 c R1 l1 (.str _)⟩
theorem XE.slS {tl th : TO} (h : XE z ta g m fun m1 d => XO z tl g m1 fun m2 lo => XO z th g m2 fun m3 hi => dSlS d lo hi (C m3)) : XE z (tSl rSlS ta tl th) g m C := fun O σ H R Q k =>
  h O σ H R _ fun m1 d v H1 c1 R1 l1 q1 => c1 O σ H1 R1 _ fun m2 lo H2 c2 R2 l2 => c2 O σ H2 R2 _ fun m3 hi H3 ⟨x, e, hl, c⟩ R3 l3 => by
    subst e
    cases q1
    exact ⟨x, rfl, hl, k m3 _ _ H3 c R3 ((l1.trans l2).trans l3) (.str _)⟩
/-- sep.join(xs), xs a list made on the way -/
theorem XE.joinN (h : XE z to g m fun m1 d => dStr d fun a => XE z te g m1 fun m2 e => ∃ ys : List Str, e = .lst (ys.map Dat.str) ∧ (ys.map (·.length)).sum + ys.length * a.length ≤ 16777216 ∧ C m2 (.str (PySem.Txt.join a ys))) :
    XE z (tM1 (fun x xs H Q => ∃ a p, ∃ ys : List Str, x = .str a ∧ xs = [.ref p] ∧ (SqL K H p (ys.map V.str) ∨ SqT K H p (ys.map V.str)) ∧ (ys.map (·.length)).sum + ys.length * a.length ≤ 16777216 ∧ Q (.str (PySem.Txt.join a ys)) H) to te) g m C := fun O σ H R Q k =>
  h O σ H R _ fun m1 d v H1 ⟨a, e, c1⟩ R1 l1 q1 => by
    subst e; cases q1
    refine ⟨⟨a, rfl⟩, c1 O σ H1 R1 _ fun m2 d u H2 ⟨ys, e2, hl, c⟩ R2 l2 q2 => ?_⟩
    subst e2
    cases q2 with
    | lst hp r => exact ⟨a, _, ys, rfl, rfl, .inl (SqL.of (by rw [← r.strs]; exact (hid_some hp).2)), hl, k m2 _ _ H2 c R2 (l1.trans l2) (.str _)⟩
end
/-! try: y = x(..) with one clause of a tuple that keeps -/
section
variable {z : Cz} {g : List Sl} {m : Nat} {tr : TA} {E : DE} {K : PySem.W.Frag} {i j : Nat} {cs : List Value} {Wout : WX}
theorem wKeepT_ok {D : Ends} {C : Addr} {d : Option Addr} {σ : L2.St} {H : Hp} (hf : ∀ a, H a = none → (tAsg (tVar i) (gName j)) (DKeep i a (.ref C) d D) (σ.set i (some (.ref a))) H) (h : PySem.W.exmAny K (.ref C) cs = some true) : wKeepT K i Wout D cs (fun _ _ _ => tAsg (tVar i) (gName j)) (.ref C) d σ H :=
  ⟨true, h, fun _ a ha => hf a ha, fun z => nomatch z⟩
theorem XS.trySetT {Wp : WpX} {Xe : Nat → Err → Prop} {q : Nat} (hx : XA z tr g m fun m1 ds => Wp ds (fun d => E.nx (g.set q (.dt d)) m1) (Xe m1)) (hc : ∀ m' e, Xe m' e → PySem.W.exmAny K (.ref e.C) cs = some true ∧ E.nx ((g.set j (.dt (.exc e.C e.fs))).set i .un) m') (ij : i ≠ j) (il : i < g.length) :
    XS z (fun D σ H => tAsg (tCallS (spX Wp) (fun σ cls d H' => wKeepT K i Wout D cs (fun _ _ _ => tAsg (tVar i) (gName j)) cls d σ H') tr) (gName q) D σ H) g m E := fun O σ H R D k =>
  hx O σ H R _ fun m1 ds vs H1 c R1 l1 q1 => ⟨O, ds, _, Xe m1, R1.dom, q1, c, fun d v H' c' l' q' => k.nx _ _ _ _ _ c' ((R1.up l').set q q') ((l1.trans l'.x).z R.po), fun e cls d H' x l' q => by
    obtain ⟨hcat, hn⟩ := hc m1 e x
    have ec := q.1
    subst ec
    refine wKeepT_ok (fun a ha => ?_) hcat
    have R2 := R1.up l'
    have n : a ∉ O := no_of_dom R2.dom ha
    have l3 : Le H' (upd H' a (ExV (.ref e.C) d a)) := .new ha
    have R3 := R2.up l3
    have R4 := (R3.set j (exc_rp n ha q)).un i none
    refine ⟨.ref a, by rw [List.getElem?_set_self (by rw [R.len]; exact il)], fun _ => ?_⟩
    have es : (((σ.set i (some (V.ref a))).set j (some (.ref a))).set i none) = ((σ.set j (some (.ref a))).set i none) := by
      rw [List.set_comm _ _ ij, List.set_set]
    show D.nx (((σ.set i (some (V.ref a))).set j (some (.ref a))).set i none) _
    rw [es]
    exact k.nx _ _ _ _ _ hn R4 (((l1.trans l'.x).trans l3.x).z R.po)⟩
end
end My

/-! ### own lists cut, popped, turned -/
namespace My
open PySem PySem.Spec PyProof.Rows L2
section
variable {z : Cz} {g : List Sl} {m : Nat} {C : Nat → Dat → Prop} {CL : Nat → List Dat → Prop} {t ta tb to te : TE} {tr : TA} {E : DE} {K : PySem.W.Frag}
theorem XN.slO {tl th : TO} {i : Nat} {ds : List Dat} (hg : g[i]? = some (.ow ds)) (h : XO z tl g m fun m2 lo => XO z th g m2 fun m3 hi => CL m3 (cutD ds lo hi)) : XN z (tSl (rSlL K) (tVar i) tl th) g m CL := fun O σ H R Q k => by
  obtain ⟨p0, vs0, e0, _⟩ := R.sl i _ hg
  refine ⟨_, e0, h O σ H R _ fun m2 lo H2 c2 R2 l2 => c2 O σ H2 R2 _ fun m3 hi H3 c R3 l3 => ?_⟩
  obtain ⟨p, vs, e, po, pG, hp, q⟩ := R3.sl i _ hg
  rw [e0] at e
  cases e
  exact ⟨p0, vs, rfl, SqL.of hp, fun p' hp' => new_list R3 (l2.trans l3) hp' (q.cut lo hi) c k⟩
theorem XN.rev (h : XE z te g m fun m1 d => dLst d fun ds => CL m1 ds.reverse) : XN z (tRevL K te) g m CL := fun O σ H R Q k => h O σ H R _ fun m1 d v H1 ⟨ds, e, c⟩ R1 l1 q1 => by
  subst e
  cases q1 with
  | lst ha r => exact ⟨_, _, rfl, SqL.of (hid_some ha).2, fun p hp => new_list R1 l1 hp r.rev c k⟩
theorem XN.revO {i : Nat} {ds : List Dat} (hg : g[i]? = some (.ow ds)) (c : CL m ds.reverse) : XN z (tRevL K (tVar i)) g m CL := fun O σ H R Q k => by
  obtain ⟨p, vs, e, po, pG, hp, q⟩ := R.sl i _ hg
  exact ⟨_, e, p, vs, rfl, SqL.of hp, fun p' hp' => new_list R (LeX.refl _ _) hp' q.rev c k⟩
theorem XS.pop {T : String} {i : Nat} {ds : List Dat} {d : Dat} (hT : T = "list") (hg : g[i]? = some (.ow ds)) (hd : ds[ds.length - 1]? = some d) (c : E.nx (g.set i (.ow ds.dropLast)) m) : XS z (tDrop (tBM0 K T rPop (tVar i))) g m E := fun O σ H R D k => by
  obtain ⟨p, vs, e, po, pG, hp, q⟩ := R.sl i _ hg
  obtain ⟨y, hy, ry⟩ := q.get hd
  have qd : RpL (hid O H) vs.dropLast ds.dropLast := by
    rw [List.dropLast_eq_take, List.dropLast_eq_take, q.length]
    exact q.take _
  exact ⟨_, e, .inl ⟨hT, _, SqL.of hp⟩, p, vs, y, rfl, rfl, hp, by rw [q.length]; exact hy, k.nx _ _ _ _ _ c (R.put hg e qd) (Real.putz (σ := σ) po (Lz.refl O H))⟩
/-- a list of an own list's items by its turns -/
theorem XI.own {i : Nat} {ds : List Dat} (hg : g[i]? = some (.ow ds)) (c : CL m ds) : XIc z (iList K (tVar i)) g m CL := fun O σ H R Q k => by
  obtain ⟨p, vs, e, po, pG, hp, q⟩ := R.sl i _ hg
  refine ⟨_, e, p, rfl, ⟨_, SqL.of hp⟩, k m ds _ H c R (LeX.refl _ _) fun D j H' hD nO le' dom' => ?_⟩
  have hp2 := (hid_some (le'.lst (fun n => pG (R.pg p n)) hp)).2
  have lg : Le (hid O H) (hid (D :: O) H') := by
    have := le'.hid R.po
    rwa [hid_hid1] at this
  refine ⟨fun d hi => ?_, fun hi => ⟨_, SqL.of hp2, q.none hi⟩⟩
  obtain ⟨v, hv, rv⟩ := q.get hi
  refine ⟨⟨_, v, SqL.of hp2, hv⟩, fun x H'' ⟨e1, e2⟩ => ?_⟩
  subst e1
  have := e2 _ (SqL.of hp2)
  rw [hv] at this; cases this
  exact ⟨Le.refl _, rv.mono lg⟩
end
end My

/-! ### walks: fractions, products and sums as texts -/
namespace My
open PySem PySem.Spec PyProof.Rows L2
open C8 (Cal pe_c pe_gc InsC call_isC)
def W_fraction_text : WpD := fun ds C => ∃ q, ds = [qD q] ∧ TxQ q ∧ C (.str (fracT q))
def W_product_text : WpD := fun ds C => ∃ ps L, ds = [nsD ps, .str L] ∧ PsG ps L ∧ C (.str (prodG ps L))
def W_share_text : WpD := fun ds C => ∃ q x, ds = [qD q, .str x] ∧ TxQ q ∧ x.length ≤ 100 ∧ C (.str (shareT q x))
def W_sum_text : WpD := fun ds C => ∃ l, ds = [.lst (l.map pairD)] ∧ l.length ≤ 30 ∧ (∀ p ∈ l, TxQ p.1 ∧ p.2.length ≤ 100) ∧ C (.str (sumT l))
theorem eqD_q (q r : Int × Int) : eqD (qD q) (qD r) = decide (q = r) := by
  obtain ⟨a, b⟩ := q
  obtain ⟨c, d⟩ := r
  simp [eqD, qD, toP, toPs, PyData.eqv, PyData.eqvAll]
  rfl
theorem cmp_q (q : Int × Int) : Cmp (qD q) := Cmp.of rfl (Nat.le_of_ble_eq_true rfl)
theorem signs_L (L : Str) : (L.cps.toList.map fun c => Dat.str ⟨#[c]⟩) = (lets L).map Dat.str := by
  unfold lets
  rw [List.map_map]
  rfl
theorem zipD_is (ps : List Int) (ls : List Str) : zipD (ps.map Dat.int) (ls.map Dat.str) = (ps.zip ls).map fun p => .tup [.int p.1, .str p.2] := by
  unfold zipD
  rw [List.zip, List.map_zipWith, List.zipWith_map_left, List.zipWith_map_right]
theorem log_small {i : Int} (h0 : 0 ≤ i) (h1 : i ≤ 9) : i.natAbs.log2 < 1920 := by
  have : ∀ n : Nat, n < 10 → n.log2 < 1920 := by decide
  exact this _ (by omega)
section
variable {c : Cs} {P : Program} {w : World} {K : PySem.W.Frag} {mg : Str → Option Value} {base : Heap}
abbrev s_fraction_text : Stmt := top 23
abbrev N_fraction_text : List Str := ["fraction"]
abbrev P_fraction_text : List Str := ["fraction"]
theorem sc_fraction_text : FnScope N_fraction_text ["fraction"] (defScope s_fraction_text) := ⟨rfl, rfl, rfl, by decide +kernel, rfl, by decide +kernel, by decide +kernel⟩

theorem ok_fraction_text (T : Txt K mg c) {f : Addr} {fd : FuncData} (F : L2.Fun K "fraction_text" "fraction_text" s_fraction_text f fd) : FnOk P w K mg base CX0 1 f fd P_fraction_text (spD W_fraction_text) := by
  refine okD F sc_fraction_text (fun ds C ⟨_, e, _⟩ => by rw [e]; rfl) fun cdv A outer s H E hr => ⟨_, (pss_cons (ps_if (pt_cmpR op_eq (pe_ix ix_tup (pv 0) pe_int (fun _ _ => rfl)) pe_int (nomark _)) (pss_one (ps_ret (pe_callTy call_str_int (by rfl) T.z_str (by decide +kernel) (pa_cons (pe_ix ix_tup (pv 0) pe_int (fun _ _ => rfl)) pa_nil)))) pss_nil)
      (pss_one (ps_ret (pe_op op_add_str (pe_op op_add_str (pe_callTy call_str_int (by rfl) T.z_str (by decide +kernel) (pa_cons (pe_ix ix_tup (pv 0) pe_int (fun _ _ => rfl)) pa_nil)) pe_str) (pe_callTy call_str_int (by rfl) T.z_str (by decide +kernel) (pa_cons (pe_ix ix_tup (pv 0) pe_int (fun _ _ => rfl)) pa_nil)))))), fun z ds C ⟨q, e, h, k⟩ => ?_⟩
  subst e
  have h1 := PyProof.Rows.int_text_len_1921 h.1
  have h2 := PyProof.Rows.int_text_len_1921 h.2
  have sl := sizeLine_eq
  have e1 : ("/" : Str).length = 1 := by decide +kernel
  unfold fracT at k
  (repeat' (first | refine XS.seq ?_ | refine XS.ite ?_ | refine XE.var rfl ?_ | refine XE.int ?_ | refine XE.op dr_ixT ?_ | refine XE.op dr_eq ?_ | refine XT.test ?_ | refine go_ixT rfl ?_ | refine go_eq rfl rfl rfl ?_ | refine go_bl ?_))
  refine ite2 (fun hc => ?_) (fun hc => ?_)
  · rw [if_pos (of_decide_eq_true (show decide (q.2 = 1) = true from hc))] at k
    (repeat' (first | refine XS.ret ?_ | refine XE.var rfl ?_ | refine XE.int ?_ | refine XE.op dr_ixT ?_ | refine XE.cb db_strI ?_ | refine XA.nil ?_ | refine XA.cons ?_ | refine go_strI ?_ ?_ | refine go_ixT rfl ?_))
    · exact h.1
    · exact k
  · rw [if_neg (fun h => hc (show decide (q.2 = 1) = true from decide_eq_true h))] at k
    (repeat' (first | (guard_target =~ XS _ _ _ _ _; first | refine XS.next ?_ | refine XS.ret ?_) | (guard_target =~ XE _ _ _ _ _; first | refine XE.var rfl ?_ | refine XE.int ?_ | refine XE.str ?_ | refine XE.op dr_ixT ?_ | refine XE.op dr_addS ?_ | refine XE.cb db_strI ?_) | (guard_target =~ XA _ _ _ _ _; first | refine XA.nil ?_ | refine XA.cons ?_) | refine go_addS ?_ ?_ | refine go_strI ?_ ?_ | refine go_ixT rfl ?_))
    · exact h.1
    · omega
    · exact h.2
    · rw [Str.length_append]; omega
    · exact k
abbrev s_product_text : Stmt := top 24
abbrev N_product_text : List Str := ["powers", "letters", "found", "power", "letter"]
abbrev P_product_text : List Str := ["powers", "letters"]
theorem sc_product_text : FnScope N_product_text ["powers", "letters"] (defScope s_product_text) := ⟨rfl, rfl, rfl, by decide +kernel, rfl, by decide +kernel, by decide +kernel⟩

theorem ok_product_text (T : Txt K mg c) {f : Addr} {fd : FuncData} (F : L2.Fun K "product_text" "product_text" s_product_text f fd) : FnOk P w K mg base CX0 1 f fd P_product_text (spD W_product_text) := by
  refine okD F sc_product_text (fun ds C ⟨_, _, e, _⟩ => by rw [e]; rfl) fun cdv A outer s H E hr => ⟨_, (pss_cons (ps_set (i := 2) sc_product_text.nd rfl (by first | exact Or.inl rfl | exact Or.inr rfl) (pe_lst pa_nil))
      (pss_cons (ps_for PassesOwn.never rfl (pi_zipX (by rfl) T.z_zip (pa_cons (pv 0) (pa_cons (pv 1) pa_nil))) (pg_tup rfl (pgs_cons (pg_name (i := 3) sc_product_text.nd rfl (by first | exact Or.inl rfl | exact Or.inr rfl)) (pgs_cons (pg_name (i := 4) sc_product_text.nd rfl (by first | exact Or.inl rfl | exact Or.inr rfl)) pgs_nil))) (pss_cons (ps_if (pt_cmpR op_eq (pv 3) pe_int (nomark _)) (pss_one (ps_expr (pe_bm PySem.F.plainAttrs_list PySem.F.slot_list_append PySem.F.type_list_append mt_append (pv 2) (pa_cons (pv 4) pa_nil)))) pss_nil)
      (pss_one (ps_if (pt_cmpR op_gt (pv 3) pe_int (nomark _)) (pss_one (ps_expr (pe_bm PySem.F.plainAttrs_list PySem.F.slot_list_append PySem.F.type_list_append mt_append (pv 2) (pa_cons (pe_op op_add_str (pe_op op_add_str (pv 4) pe_str) (pe_callTy call_str_int (by rfl) T.z_str (by decide +kernel) (pa_cons (pv 3) pa_nil))) pa_nil)))) pss_nil))))
      (pss_one (ps_ret (pe_join pe_str (pv 2)))))), fun z ds C ⟨ps, L, e, h, k⟩ => ?_⟩
  subst e
  have sl := sizeLine_eq
  have hz := zip_lets h
  have hl := zip_lets_len h
  (repeat' (first | refine XS.seq ?_ | refine XS.setO (i := 2) ?_ | refine XN.lst ?_ | refine XA.nil ?_ | refine go_len rfl ?_))
  refine XS.for (XI.zipX ?_)
  (repeat' (first | refine XE.var rfl ?_ | refine XA.nil ?_ | refine XA.cons ?_ | refine go_zipX ?_ ?_ ?_))
  · exact h.2.2.2
  · rw [List.length_map]; exact h.2.1
  rw [signs_L, zipD_is]
  refine ⟨fun i g m => (∃ s3 s4, g = [.dt (nsD ps), .dt (.str L), .ow ((((ps.zip (lets L)).take i).flatMap stepP).map Dat.str), s3, s4]) ∧ m = 0, ⟨⟨_, _, rfl⟩, rfl⟩, fun i d g2 m2 hi ⟨⟨s3, s4, e1⟩, e2⟩ => ?_, fun g2 m2 ⟨⟨s3, s4, e1⟩, e2⟩ => ?_⟩
  · subst e1 e2
    obtain ⟨x, hx, rfl⟩ := map_get hi
    have hm := hz x (List.mem_of_getElem? hx)
    have e : (((ps.zip (lets L)).take (i + 1)).flatMap stepP).map Dat.str = (((ps.zip (lets L)).take i).flatMap stepP).map Dat.str ++ (stepP x).map Dat.str := by
      rw [take_more hx, List.flatMap_append, List.map_append]
      simp
    have la : ((((ps.zip (lets L)).take i).flatMap stepP).map Dat.str).length ≤ 100 := by
      have := (flat_len (l := (ps.zip (lets L)).take i) fun y hy => hz y (List.mem_of_mem_take hy)).1
      rw [List.length_map]
      have : ((ps.zip (lets L)).take i).length ≤ (ps.zip (lets L)).length := by rw [List.length_take]; omega
      omega
    (repeat' (first | (guard_target =~ XS _ _ _ _ _; first | refine XS.seq ?_ | refine XS.ite ?_) | (guard_target =~ XE _ _ _ _ _; first | refine XE.var rfl ?_ | refine XE.int ?_ | refine XE.op dr_eq ?_) | (guard_target =~ XT _ _ _ _ _; first | refine XT.test ?_) | (guard_target =~ XGs _ _ _ _ _ _; first | refine XGs.cons ?_ | refine XGs.nil ?_) | (guard_target =~ XG _ _ _ _ _ _; first | refine XG.name rfl ?_ | refine XG.tupG rfl ?_) | refine go_eq rfl rfl rfl ?_ | refine go_bl ?_))
    refine ite2 (fun hc => ?_) (fun hc => ?_)
    · have h1 : x.1 = 1 := of_decide_eq_true (show decide (x.1 = 1) = true from hc)
      (repeat' (first | (guard_target =~ XS _ _ _ _ _; first | refine XS.app rfl (i := 2) rfl ?_ | refine XS.ite ?_) | (guard_target =~ XE _ _ _ _ _; first | refine XE.var rfl ?_ | refine XE.int ?_ | refine XE.op dr_I0 ?_) | (guard_target =~ XA _ _ _ _ _; first | refine XA.nil ?_ | refine XA.cons ?_) | (guard_target =~ XT _ _ _ _ _; first | refine XT.test ?_) | refine go_I0 ?_ | refine go_bl ?_ | refine go_app ?_ ?_))
      · omega
      refine ite2 (fun hc => ?_) (fun hc => ?_)
      · have : 1 < x.1 := by simpa using hc
        omega
      · (repeat' (first | refine XS.next ?_))
        refine ⟨⟨.dt (.int x.1), .dt (.str x.2), ?_⟩, rfl⟩
        rw [e, show stepP x = [x.2] by unfold stepP; rw [if_pos h1]]
        rfl
    · have h1 : ¬ x.1 = 1 := fun h => hc (show decide (x.1 = 1) = true from decide_eq_true h)
      (repeat' (first | refine XS.next ?_ | refine XS.ite ?_ | refine XE.var rfl ?_ | refine XE.int ?_ | refine XE.op dr_I0 ?_ | refine XT.test ?_ | refine go_I0 ?_ | refine go_bl ?_))
      refine ite2 (fun hc => ?_) (fun hc => ?_)
      · have h2 : 1 < x.1 := by simpa using hc
        have l1 := PyProof.Rows.int_text_len_1921 (log_small hm.2.1 hm.2.2)
        have hl := lets_one hm.1
        have e1 : ("^" : Str).length = 1 := by decide +kernel
        (repeat' (first | refine XS.app rfl (i := 2) rfl ?_ | refine XE.var rfl ?_ | refine XE.str ?_ | refine XE.op dr_addS ?_ | refine XE.cb db_strI ?_ | refine XA.nil ?_ | refine XA.cons ?_ | refine go_addS ?_ ?_ | refine go_strI ?_ ?_ | refine go_app ?_ ?_))
        · omega
        · exact log_small hm.2.1 hm.2.2
        · rw [Str.length_append]; omega
        · omega
        refine ⟨⟨.dt (.int x.1), .dt (.str x.2), ?_⟩, rfl⟩
        rw [e, show stepP x = [(x.2 ++ ("^" : Str)) ++ ((toString x.1 : String) : Str)] by unfold stepP; rw [if_neg h1, if_pos h2]]
        rfl
      · have h2 : ¬ 1 < x.1 := by simpa using hc
        (repeat' (first | refine XS.next ?_))
        refine ⟨⟨.dt (.int x.1), .dt (.str x.2), ?_⟩, rfl⟩
        rw [e, show stepP x = [] by unfold stepP; rw [if_neg h1, if_neg h2]]
        simp
  · subst e1 e2
    rw [List.length_map, List.take_of_length_le (Nat.le_refl _)]
    (repeat' (first | refine XS.ret ?_ | refine XE.str ?_ | refine XE.joinO rfl ?_ | refine go_joinO ?_ ?_))
    · have h1 := flat_len hz
      rw [show ("*" : Str).length = 1 by decide +kernel]
      omega
    · exact k
abbrev s_share_text : Stmt := top 25
abbrev N_share_text : List Str := ["part", "product"]
abbrev P_share_text : List Str := ["part", "product"]
theorem sc_share_text : FnScope N_share_text ["part", "product"] (defScope s_share_text) := ⟨rfl, rfl, rfl, by decide +kernel, rfl, by decide +kernel, by decide +kernel⟩

theorem ok_share_text (T : Txt K mg c) {f : Addr} {fd : FuncData} (F : L2.Fun K "share_text" "share_text" s_share_text f fd) (h_fraction_text : Cal P w K mg base 1 "fraction_text" (spD W_fraction_text) []) : FnOk P w K mg base CX0 2 f fd P_share_text (spD W_share_text) := by
  refine okD F sc_share_text (fun ds C ⟨_, _, e, _⟩ => by rw [e]; rfl) fun cdv A outer s H E hr => ⟨_, (pss_cons (ps_if (pt_cmpR op_eq (pv 1) pe_str (nomark _)) (pss_one (ps_ret (pe_c h_fraction_text hr (by decide) rfl (pa_cons (pv 0) pa_nil)))) pss_nil)
      (pss_cons (ps_if (pt_cmpR (op_eqD hr.units) (pv 0) (pe_tup (pa_cons pe_int (pa_cons pe_int pa_nil))) (nomark _)) (pss_one (ps_ret (pv 1))) pss_nil)
      (pss_one (ps_ret (pe_op op_add_str (pe_op op_add_str (pe_c h_fraction_text hr (by decide) rfl (pa_cons (pv 0) pa_nil)) pe_str) (pv 1)))))), fun z ds C ⟨q, x, e, h, hx, k⟩ => ?_⟩
  subst e
  have sl := sizeLine_eq
  have hf := fracT_len h
  have e1 : ("*" : Str).length = 1 := by decide +kernel
  unfold shareT at k
  (repeat' (first | refine XS.seq ?_ | refine XS.ite ?_ | refine XE.var rfl ?_ | refine XE.str ?_ | refine XE.op dr_eq ?_ | refine XT.test ?_ | refine go_eq rfl rfl rfl ?_ | refine go_bl ?_))
  refine ite2 (fun hc => ?_) (fun hc => ?_)
  · rw [if_pos (of_decide_eq_true (show decide (x = "") = true from hc))] at k
    (repeat' (first | refine XS.ret ?_ | refine XE.var rfl ?_ | refine XE.call ?_ | refine XA.nil ?_ | refine XA.cons ?_))
    exact ⟨q, rfl, h, k⟩
  · rw [if_neg (fun h => hc (show decide (x = "") = true from decide_eq_true h))] at k
    (repeat' (first | (guard_target =~ XS _ _ _ _ _; first | refine XS.next ?_ | refine XS.seq ?_ | refine XS.ite ?_) | (guard_target =~ XE _ _ _ _ _; first | refine XE.var rfl ?_ | refine XE.int ?_ | refine XE.op dr_eqD ?_ | refine XE.tup ?_) | (guard_target =~ XA _ _ _ _ _; first | refine XA.nil ?_ | refine XA.cons ?_) | (guard_target =~ XT _ _ _ _ _; first | refine XT.test ?_) | refine go_len rfl ?_))
    refine go_eqD (cmp_q q) (cmp_q (1, 1)) ?_
    rw [show Dat.tup [.int 1, .int 1] = qD (1, 1) from rfl, eqD_q]
    (repeat' (first | refine go_bl ?_))
    refine ite2 (fun hc => ?_) (fun hc => ?_)
    · rw [if_pos (of_decide_eq_true hc)] at k
      (repeat' (first | refine XS.ret ?_ | refine XE.var rfl ?_))
      exact k
    · rw [if_neg (fun h => hc (decide_eq_true h))] at k
      (repeat' (first | refine XS.next ?_ | refine XS.ret ?_ | refine XE.var rfl ?_ | refine XE.call ?_ | refine XE.op dr_addS ?_ | refine XA.nil ?_ | refine XA.cons ?_))
      refine ⟨q, rfl, h, ?_⟩
      (repeat' (first | refine XE.var rfl ?_ | refine XE.str ?_ | refine go_addS ?_ ?_))
      · omega
      · rw [Str.length_append]; omega
      · exact k
abbrev s_sum_text : Stmt := top 26
abbrev N_sum_text : List Str := ["shares", "found", "part", "product", "text"]
abbrev P_sum_text : List Str := ["shares"]
theorem sc_sum_text : FnScope N_sum_text ["shares"] (defScope s_sum_text) := ⟨rfl, rfl, rfl, by decide +kernel, rfl, by decide +kernel, by decide +kernel⟩

theorem ok_sum_text (T : Txt K mg c) {f : Addr} {fd : FuncData} (F : L2.Fun K "sum_text" "sum_text" s_sum_text f fd) (h_share_text : Cal P w K mg base 2 "share_text" (spD W_share_text) []) : FnOk P w K mg base CX0 3 f fd P_sum_text (spD W_sum_text) := by
  refine okD F sc_sum_text (fun ds C ⟨_, e, _⟩ => by rw [e]; rfl) fun cdv A outer s H E hr => ⟨_, (pss_cons (ps_set (i := 1) sc_sum_text.nd rfl (by first | exact Or.inl rfl | exact Or.inr rfl) pe_str)
      (pss_cons (ps_for PassesOwn.never rfl (pi_list (pv 0)) (pg_tup rfl (pgs_cons (pg_name (i := 2) sc_sum_text.nd rfl (by first | exact Or.inl rfl | exact Or.inr rfl)) (pgs_cons (pg_name (i := 3) sc_sum_text.nd rfl (by first | exact Or.inl rfl | exact Or.inr rfl)) pgs_nil))) (pss_cons (ps_set (i := 4) sc_sum_text.nd rfl (by first | exact Or.inl rfl | exact Or.inr rfl) (pe_c h_share_text hr (by decide) rfl (pa_cons (pe_tup (pa_cons (pe_callB call_abs (by rfl) T.z_abs (by decide +kernel) (pa_cons (pe_ix ix_tup (pv 2) pe_int (fun _ _ => rfl)) pa_nil)) (pa_cons (pe_ix ix_tup (pv 2) pe_int (fun _ _ => rfl)) pa_nil))) (pa_cons (pv 3) pa_nil))))
      (pss_one (ps_if (PW.pt (pw_and (pt_cmpR op_eq (pv 1) pe_str (nomark _)) (pw_and1 (pt_cmpR op_lt (pe_ix ix_tup (pv 2) pe_int (fun _ _ => rfl)) pe_int (nomark _))))) (pss_one (ps_set (i := 1) sc_sum_text.nd rfl (by first | exact Or.inl rfl | exact Or.inr rfl) (pe_op op_add_str pe_str (pv 4)))) (pss_one (ps_if (pt_cmpR op_eq (pv 1) pe_str (nomark _)) (pss_one (ps_set (i := 1) sc_sum_text.nd rfl (by first | exact Or.inl rfl | exact Or.inr rfl) (pv 4))) (pss_one (ps_if (pt_cmpR op_lt (pe_ix ix_tup (pv 2) pe_int (fun _ _ => rfl)) pe_int (nomark _)) (pss_one (ps_set (i := 1) sc_sum_text.nd rfl (by first | exact Or.inl rfl | exact Or.inr rfl) (pe_op op_add_str (pe_op op_add_str (pv 1) pe_str) (pv 4)))) (pss_one (ps_set (i := 1) sc_sum_text.nd rfl (by first | exact Or.inl rfl | exact Or.inr rfl) (pe_op op_add_str (pe_op op_add_str (pv 1) pe_str) (pv 4))))))))))))
      (pss_one (ps_ret (pe_orT (pv 1) (pe_one pe_str)))))), fun z ds C ⟨l, e, h30, hl, k⟩ => ?_⟩
  subst e
  have sl := sizeLine_eq
  (repeat' (first | refine XS.seq ?_ | refine XS.set ?_ | refine XE.str ?_))
  refine XS.for (XI.list ?_)
  (repeat' (first | refine XE.var rfl ?_ | refine go_lst ?_))
  refine ⟨fun i g m => (∃ s2 s3 s4, g = [.dt (.lst (l.map pairD)), .dt (.str (sumT0 (l.take i))), s2, s3, s4]) ∧ m = 0, ⟨⟨_, _, _, rfl⟩, rfl⟩, fun i d g2 m2 hi ⟨⟨s2, s3, s4, e1⟩, e2⟩ => ?_, fun g2 m2 ⟨⟨s2, s3, s4, e1⟩, e2⟩ => ?_⟩
  · subst e1 e2
    obtain ⟨p, hp, rfl⟩ := map_get hi
    obtain ⟨q, x⟩ := p
    have hpq := hl _ (List.mem_of_getElem? hp)
    have hta := hpq.1.abs
    have hsh := shareT_len hta hpq.2
    have ilt : i < l.length := (List.getElem?_eq_some_iff.mp hp).1
    have hf : (sumT0 (l.take i)).length ≤ 3947 * 30 := by
      have h1 := foldT_len (l.take i) "" fun y hy => hl y (List.mem_of_mem_take hy)
      have h2 : (l.take i).length ≤ 30 := by rw [List.length_take]; omega
      have h3 : ("" : Str).length = 0 := by decide +kernel
      have h4 : (sumT0 (l.take i)).length ≤ ("" : Str).length + 3947 * (l.take i).length := h1
      omega
    have e : sumT0 (l.take (i + 1)) = stepT (sumT0 (l.take i)) q x := by
      unfold sumT0
      rw [take_more hp, List.foldl_append]
      rfl
    generalize sumT0 (l.take i) = fo at hf e ⊢
    have n1 : ("-" : Str).length = 1 := by decide +kernel
    have n2 : (" - " : Str).length = 3 := by decide +kernel
    have n3 : (" + " : Str).length = 3 := by decide +kernel
    (repeat' (first | (guard_target =~ XS _ _ _ _ _; first | refine XS.seq ?_ | refine XS.set ?_) | (guard_target =~ XE _ _ _ _ _; first | refine XE.var rfl ?_ | refine XE.int ?_ | refine XE.op dr_ixT ?_ | refine XE.tup ?_ | refine XE.cb db_abs ?_ | refine XE.call ?_) | (guard_target =~ XA _ _ _ _ _; first | refine XA.nil ?_ | refine XA.cons ?_) | (guard_target =~ XGs _ _ _ _ _ _; first | refine XGs.cons ?_ | refine XGs.nil ?_) | (guard_target =~ XG _ _ _ _ _ _; first | refine XG.name rfl ?_ | refine XG.tupG rfl ?_) | refine go_ixT rfl ?_))
    refine ⟨q.1, rfl, ?_⟩
    (repeat' (first | refine XE.var rfl ?_ | refine XE.int ?_ | refine XE.op dr_ixT ?_ | refine XA.nil ?_ | refine XA.cons ?_ | refine go_ixT rfl ?_ | refine go_len rfl ?_))
    refine ⟨(absT q.1, q.2), x, rfl, hta, hpq.2, ?_⟩
    unfold stepT at e
    generalize shareT (absT q.1, q.2) x = sh at hsh e ⊢
    (repeat' (first | refine XS.ite ?_ | refine XE.var rfl ?_ | refine XE.str ?_ | refine XE.op dr_eq ?_ | refine XT.test ?_ | refine XT.and ?_ | refine go_eq rfl rfl rfl ?_ | refine go_bl ?_))
    refine ite2 (fun hc => ?_) (fun hc => ?_)
    · have c1 : fo = "" := of_decide_eq_true (show decide (fo = "") = true from hc)
      (repeat' (first | refine XE.var rfl ?_ | refine XE.int ?_ | refine XE.op dr_I0 ?_ | refine XE.op dr_ixT ?_ | refine XT.test ?_ | refine go_I0 ?_ | refine go_ixT rfl ?_ | refine go_bl ?_))
      refine ite2 (fun hd => ?_) (fun hd => ?_)
      · have c2 : q.1 < 0 := of_decide_eq_true hd
        rw [if_pos ⟨c1, c2⟩] at e
        (repeat' (first | refine XS.set ?_ | refine XE.var rfl ?_ | refine XE.str ?_ | refine XE.op dr_addS ?_ | refine go_addS ?_ ?_))
        · omega
        exact ⟨⟨.dt (qD q), .dt (.str x), .dt (.str sh), by rw [e]; rfl⟩, rfl⟩
      · have c2 : ¬ q.1 < 0 := fun h => hd (decide_eq_true h)
        rw [if_neg (fun h => c2 h.2), if_pos c1] at e
        (repeat' (first | refine XS.ite ?_ | refine XE.var rfl ?_ | refine XE.str ?_ | refine XE.op dr_eq ?_ | refine XT.test ?_ | refine go_eq rfl rfl rfl ?_ | refine go_bl ?_))
        refine ite2 (fun hc => ?_) (fun hn => absurd hc hn)
        (repeat' (first | refine XS.set ?_ | refine XE.var rfl ?_))
        exact ⟨⟨.dt (qD q), .dt (.str x), .dt (.str sh), by rw [e]; rfl⟩, rfl⟩
    · have c1 : ¬ fo = "" := fun h => hc (show decide (fo = "") = true from decide_eq_true h)
      rw [if_neg (fun h => c1 h.1), if_neg c1] at e
      refine ite2 (fun hn => ?_) (fun hn => ?_)
      · exact absurd hn (by simp)
      (repeat' (first | refine XS.ite ?_ | refine XE.var rfl ?_ | refine XE.str ?_ | refine XE.op dr_eq ?_ | refine XT.test ?_ | refine go_eq rfl rfl rfl ?_ | refine go_bl ?_))
      refine ite2 (fun hn => absurd hn hc) (fun hn => ?_)
      (repeat' (first | refine XS.ite ?_ | refine XE.var rfl ?_ | refine XE.int ?_ | refine XE.op dr_I0 ?_ | refine XE.op dr_ixT ?_ | refine XT.test ?_ | refine go_I0 ?_ | refine go_ixT rfl ?_ | refine go_bl ?_))
      refine ite2 (fun hd => ?_) (fun hd => ?_)
      · have c2 : q.1 < 0 := of_decide_eq_true hd
        rw [if_pos c2] at e
        (repeat' (first | refine XS.set ?_ | refine XE.var rfl ?_ | refine XE.str ?_ | refine XE.op dr_addS ?_ | refine go_addS ?_ ?_))
        · omega
        · rw [Str.length_append]; omega
        exact ⟨⟨.dt (qD q), .dt (.str x), .dt (.str sh), by rw [e]; rfl⟩, rfl⟩
      · have c2 : ¬ q.1 < 0 := fun h => hd (decide_eq_true h)
        rw [if_neg c2] at e
        (repeat' (first | refine XS.set ?_ | refine XE.var rfl ?_ | refine XE.str ?_ | refine XE.op dr_addS ?_ | refine go_addS ?_ ?_))
        · omega
        · rw [Str.length_append]; omega
        exact ⟨⟨.dt (qD q), .dt (.str x), .dt (.str sh), by rw [e]; rfl⟩, rfl⟩
  · subst e1 e2
    rw [List.length_map, List.take_of_length_le (Nat.le_refl _)]
    have hf := foldT_len l "" hl
    have h3 : ("" : Str).length = 0 := by decide +kernel
    have h4 : (sumT0 l).length ≤ ("" : Str).length + 3947 * l.length := hf
    unfold sumT at k
    (repeat' (first | refine XS.ret ?_ | refine XE.var rfl ?_ | refine XE.orS ?_ | refine go_orS ?_ ?_))
    · omega
    refine ite2 (fun hc => ?_) (fun hc => ?_)
    · rw [if_pos hc] at k; exact k
    · rw [if_neg hc] at k
      (repeat' (first | refine XE.str ?_))
      exact k
end
end My

/-! ### walks: texts read -/
namespace My
open PySem PySem.Spec PyProof.Rows L2
open C8 (Cal pe_c pe_gc InsC call_isC)
abbrev noText (c : Cs) : Err := ⟨c.NoText, []⟩
/-- a text's sizes -/
def TxS (n : Nat) (x : Str) : Prop := x.length ≤ n ∧ cnt isFig x ≤ 640
theorem TxS.mono {n k : Nat} {x : Str} (h : TxS n x) (l : n ≤ k) : TxS k x := ⟨Nat.le_trans h.1 l, h.2⟩
theorem cut_len (x : Str) (lo hi : Option Int) : (cutS x lo hi).length ≤ x.length := by
  have h : ((((cp x).drop (HT.sIx x.length 0 lo)).take (HT.sIx x.length x.length hi - HT.sIx x.length 0 lo))).length ≤ (cp x).length := ((List.take_sublist ..).trans (List.drop_sublist ..)).length_le
  rw [cp_len x]
  unfold cutS
  rw [cp_len]
  show (((cp x).drop _).take _).toArray.toList.length ≤ _
  rw [List.toList_toArray]
  exact h
theorem TxS.cut {n : Nat} {x : Str} (h : TxS n x) (lo hi : Option Int) : TxS n (cutS x lo hi) := ⟨Nat.le_trans (cut_len x lo hi) h.1, Nat.le_trans (cnt_cut _ x lo hi) h.2⟩
theorem TxS.par {n : Nat} {x : Str} (h : TxS n x) (y : Str) : TxS n (PySem.Txt.partition x y).1 ∧ TxS n (PySem.Txt.partition x y).2.2 :=
  ⟨⟨Nat.le_trans (fact_partition x y).1 h.1, Nat.le_trans (cnt_part _ x y).1 h.2⟩, ⟨Nat.le_trans (fact_partition x y).2.2 h.1, Nat.le_trans (cnt_part _ x y).2 h.2⟩⟩
def W_must (c : Cs) : WpX := fun ds C X => ∃ b : Bool, ds = [.bl b] ∧ (b = true → C .non) ∧ (b = false → X (noText c))
def W_whole_in (c : Cs) : WpX := fun ds C X => ∃ x : Str, ds = [.str x] ∧ TxS 20000 x ∧ (∀ n, wholeIn x = some n → C (.int n)) ∧ (wholeIn x = none → X (noText c))
def pcD (p : Int × Str) : Dat := .tup [.int p.1, .str p.2]
def W_pieces_of : WpD := fun ds C => ∃ x : Str, ds = [.str x] ∧ x.length ≤ 1000 ∧ C (.lst ((piecesT x).map pcD))
def W_fraction_in (c : Cs) : WpX := fun ds C X => ∃ x : Str, ds = [.str x] ∧ TxS 20000 x ∧ (∀ q, fracIn x = some q → C (qD q)) ∧ (fracIn x = none → X (noText c))
def W_parted (c : Cs) : WpX := fun ds C X => ∃ x : Str, ds = [.str x] ∧ TxS 20000 x ∧ (∀ q y, partedT x = some (q, y) → C (.tup [qD q, .str y])) ∧ (partedT x = none → X (noText c))
theorem inT_fig (x : Str) : inT (cutS x none (some 1)) "0123456789" = figB ((cp x).take 1) := by
  have e := cut_to x 1
  cases h : cp x with
  | nil =>
    rw [h] at e
    have e2 : cutS x none (some 1) = "" := cp_ext (by rw [show cp (cutS x none (some 1)) = _ from e]; decide +kernel)
    rw [e2]
    decide +kernel
  | cons a r =>
    rw [h] at e
    have e2 : cutS x none (some 1) = ⟨#[a]⟩ := cp_ext (by rw [show cp (cutS x none (some 1)) = _ from e]; rfl)
    rw [e2]
    show (!(Builtin.Str.occurrences ("0123456789" : Str) ⟨#[a]⟩ 0 ("0123456789" : Str).length 1).isEmpty) = _
    rw [StrLaws.found_one, figs_mem]
    simp [figB]
section
variable {c : Cs} {P : Program} {w : World} {K : PySem.W.Frag} {mg : Str → Option Value} {base : Heap}
abbrev s_must : Stmt := top 30
abbrev N_must : List Str := ["fine"]
abbrev P_must : List Str := ["fine"]
theorem sc_must : FnScope N_must ["fine"] (defScope s_must) := ⟨rfl, rfl, rfl, by decide +kernel, rfl, by decide +kernel, by decide +kernel⟩

theorem ok_must (T : Txt K mg c) {f : Addr} {fd : FuncData} (F : L2.Fun K "must" "must" s_must f fd) : FnOk P w K mg base (L2.CX P w) 1 f fd P_must (spX (W_must c)) := by
  refine okX F sc_must (fun ds C X ⟨_, e, _⟩ => by rw [e]; rfl) fun cdv A outer s H E hr => ⟨_, (pss_one (ps_if (pt_not (pt_val (pv 0))) (pss_one (ps_raise rfl (takes_of rfl rfl rfl rfl) (pmk_own PySem.F.excBase_ValueError T.x_NoText T.g_NoText T.k_NoText (raises_own T.b_NoText T.t_NoText) rfl))) pss_nil)), fun z ds C X hX ⟨b, e, q, x⟩ => ?_⟩
  subst e
  (repeat' (first | refine XS.ite ?_ | refine XE.var rfl ?_ | refine XT.test ?_ | refine XT.not ?_ | refine go_bl ?_))
  cases b with
  | true =>
    rw [if_neg (by decide)]
    (repeat' (first | refine XS.next ?_))
    exact q rfl
  | false =>
    rw [if_pos (by decide)]
    exact XS.rai fun O σ H R => hX O _ _ σ H _ _ _ (x rfl) R ⟨rfl, .inl ⟨rfl, rfl⟩⟩
abbrev s_whole_in : Stmt := top 31
abbrev N_whole_in : List Str := ["figures", "sign"]
abbrev P_whole_in : List Str := ["figures"]
theorem sc_whole_in : FnScope N_whole_in ["figures"] (defScope s_whole_in) := ⟨rfl, rfl, rfl, by decide +kernel, rfl, by decide +kernel, by decide +kernel⟩

theorem ok_whole_in (T : Txt K mg c) {f : Addr} {fd : FuncData} (F : L2.Fun K "whole_in" "whole_in" s_whole_in f fd) (h_must : CalX P w K mg base 1 "must" (spX (W_must c))) : FnOk P w K mg base (L2.CX P w) 2 f fd P_whole_in (spX (W_whole_in c)) := by
  refine okX F sc_whole_in (fun ds C X ⟨_, e, _⟩ => by rw [e]; rfl) fun cdv A outer s H E hr => ⟨_, (pss_cons (ps_expr (pe_cS h_must hr (by decide) rfl (fun σ => passAt (takes_of rfl rfl rfl rfl) σ) (pa_cons (pe_and (pe_chain op_le op_le pe_int (pe_callB call_len_str (by rfl) T.z_len (by decide +kernel) (pa_cons (pv 0) pa_nil)) (pe_gc rfl T.mg_MOST_FIGURES)) (pe_one (pe_callB (cr_all rfl) (by rfl) T.z_all (by decide +kernel) (pa_cons (pe_lc (own := [("sign", 1)]) (g := gName 1) (by rfl) sc_whole_in.nd (pi_str (pv 0)) (blkOk_by (own := [("sign", 1)]) (N := N_whole_in) (sc := defScope s_whole_in) (by decide +kernel)) (fun _ _ _ _ _ => (pg_name (i := 1) sc_whole_in.nd rfl (by first | exact Or.inl rfl | exact Or.inr rfl))) (fun _ _ _ _ _ => pts_nil) (fun _ _ _ _ _ => (pe_cmpR op_in_sign (pv 1) (pe_gc rfl T.mg_FIGURES) (by rfl)))) pa_nil)))) pa_nil)))
      (pss_one (ps_ret (pe_callTy call_int_str (by rfl) T.z_int (by decide +kernel) (pa_cons (pv 0) pa_nil))))), fun z ds C X hX ⟨x, e, hs, q, qx⟩ => ?_⟩
  subst e
  have sl := sizeLine_eq
  have hl := hs.1
  have fin : ∀ {b : Bool}, (b = true ↔ 1 ≤ x.length ∧ x.length ≤ 1000 ∧ figB (cp x) = true) → W_must c [.bl b] (fun _ => XS z (tRet (tCB (fun xs H Q => ∃ a n, xs = [V.str a] ∧ PySem.intText? a = some n ∧ a.length ≤ 640 ∧ Q (V.int n) H) (tCons (tVar 0) tNil))) (argsG N_whole_in.length [Dat.str x]) 0 { nx := fun _ _ => C .non, rt := fun _ d => C d, rn := fun _ es => C (.lst es) }) X := fun {b} hb => by
    refine ⟨b, rfl, fun h => ?_, fun h => ?_⟩
    · have hw : wholeIn x = some (PySem.NumText.digitsVal (cp x)) := if_pos (hb.mp h)
      (repeat' (first | refine XS.ret ?_ | refine XE.var rfl ?_ | refine XE.cb db_intT ?_ | refine XA.nil ?_ | refine XA.cons ?_))
      obtain ⟨_, _, l, _⟩ := wholeIn_some hw hs.2
      exact go_intT (wholeIn_int hw hs.2) l (q _ hw)
    · refine qx (if_neg fun z => ?_)
      rw [hb.mpr z] at h
      cases h
  (repeat' (first | refine XS.seq ?_ | refine XS.drop ?_ | refine XE.andV ?_ | refine XE.callX (X := fun _ e => X e) (fun O σ m1 H2 e cls d x R q => hX O _ m1 σ H2 e cls d x R q) ?_ | refine XA.cons ?_))
  refine XE.chain dr_I0 dr_I0 ?_
  (repeat' (first | refine XE.var rfl ?_ | refine XE.int ?_ | refine XE.cb db_lenT ?_ | refine XA.nil ?_ | refine XA.cons ?_ | refine go_lenT ?_ ?_ | refine go_I0 ?_ | refine go_bl ?_))
  · omega
  refine ite2 (fun h1 => ?_) (fun h1 => ?_)
  · have h1 := of_decide_eq_true h1
    (repeat' (first | refine XE.int ?_ | refine go_I0 ?_ | refine go_bl ?_))
    refine ite2 (fun h2 => ?_) (fun h2 => ?_)
    · have h2 := of_decide_eq_true h2
      have l2 : x.length ≤ 1000 := by omega
      (repeat' (first | refine XE.cb db_all ?_ | refine XA.cons ?_))
      refine XE.ofN (XN.to (XI.str ?_))
      (repeat' (first | refine XE.var rfl ?_ | refine go_str ?_))
      refine ⟨((cp x).map isFig).map Dat.bl, by simp, by rw [List.length_map, ← cp_len]; exact l2, fun i d o hd ho => ?_, ?_⟩
      · obtain ⟨k, hk, rfl⟩ := map_get hd
        rw [List.map_map, List.getElem?_map, show (cp x)[i]? = some k from hk] at ho
        cases ho
        (repeat' (first | refine XE.var rfl ?_ | refine XE.str ?_ | refine XE.op dr_inC ?_ | refine XG.name rfl ?_ | refine go_inC ?_))
        refine ⟨rfl, ?_⟩
        show Dat.bl (decide (k ∈ cp ("0123456789" : Str))) = _
        rw [figs_mem]
        rfl
      · (repeat' (first | refine XA.nil ?_ | refine go_all ?_))
        refine fin ?_
        rw [List.all_map]
        exact ⟨fun h => ⟨by omega, l2, h⟩, fun h => h.2.2⟩
    · (repeat' (first | refine XA.nil ?_))
      exact fin ⟨(fun h => nomatch h), fun h => absurd (decide_eq_true (show (x.length : Int) ≤ 1000 by omega)) h2⟩
  · (repeat' (first | refine XA.nil ?_ | refine go_bl ?_))
    exact fin ⟨(fun h => nomatch h), fun h => absurd (decide_eq_true (show (1 : Int) ≤ x.length by omega)) h1⟩
abbrev s_pieces_of : Stmt := top 32
abbrev N_pieces_of : List Str := ["text", "found", "piece"]
abbrev P_pieces_of : List Str := ["text"]
theorem sc_pieces_of : FnScope N_pieces_of ["text"] (defScope s_pieces_of) := ⟨rfl, rfl, rfl, by decide +kernel, rfl, by decide +kernel, by decide +kernel⟩

theorem ok_pieces_of (T : Txt K mg c) {f : Addr} {fd : FuncData} (F : L2.Fun K "pieces_of" "pieces_of" s_pieces_of f fd) : FnOk P w K mg base CX0 1 f fd P_pieces_of (spD W_pieces_of) := by
  refine okDT F sc_pieces_of (by decide +kernel) (by decide) (fun ds C ⟨_, e, _⟩ => by rw [e]; rfl) fun cdv A outer s H E hr => ⟨_, (psst_cons (PST.of (ps_set (i := 1) sc_pieces_of.nd rfl (by first | exact Or.inl rfl | exact Or.inr rfl) (pe_lst pa_nil)))
      (psst_cons (L2.pst_for PassesOwn.never rfl (L2.pit_list (pet_split (CwR.pet_replC (pv 0) (by decide +kernel)) pe_str)) (pg_name (i := 2) sc_pieces_of.nd rfl (by first | exact Or.inl rfl | exact Or.inr rfl)) (pss_one (ps_if (pt_cmpR op_eq (pe_slice sl_str (pv 2) po_none (po_some pe_int)) pe_str (nomark _)) (pss_one (ps_expr (pe_bm PySem.F.plainAttrs_list PySem.F.slot_list_append PySem.F.type_list_append mt_append (pv 1) (pa_cons (pe_tup (pa_cons (pe_un un_neg pe_int) (pa_cons (pe_slice sl_str (pv 2) (po_some pe_int) po_none) pa_nil))) pa_nil)))) (pss_one (ps_expr (pe_bm PySem.F.plainAttrs_list PySem.F.slot_list_append PySem.F.type_list_append mt_append (pv 1) (pa_cons (pe_tup (pa_cons pe_int (pa_cons (pv 2) pa_nil))) pa_nil)))))))
      (PSsT.of (pss_one (ps_ret (pv 1)))))), fun z ds C ⟨x, e, hs, q⟩ => ?_⟩
  subst e
  have sl := sizeLine_eq
  have pl := partsX_len (x := x)
  (repeat' (first | refine XS.seq ?_ | refine XS.setO (i := 1) ?_ | refine XN.lst ?_ | refine XA.nil ?_ | refine go_len rfl ?_))
  refine XS.for (XI.list ?_)
  (repeat' (first | refine XE.var rfl ?_ | refine XE.str ?_ | refine XE.ofN (XN.spl ?_) | refine XE.rep2 ?_ | refine go_spl (by decide +kernel) ?_ ?_ | refine go_rep2 ?_ ?_ | refine go_lst ?_ | refine go_str ?_))
  · rw [show (" + -" : Str).length = 4 from by decide +kernel]; omega
  · omega
  refine ⟨fun i g m => (∃ s2, g = [.dt (.str x), .ow (((piecesT x).take i).map pcD), s2]) ∧ m = 0, ⟨⟨_, rfl⟩, rfl⟩, fun i d g2 m2 hi ⟨⟨s2, e1⟩, e2⟩ => ?_, fun g2 m2 ⟨⟨s2, e1⟩, e2⟩ => ?_⟩
  · subst e1 e2
    obtain ⟨t, ht, rfl⟩ := map_get hi
    have hm := partsX_ok (List.mem_of_getElem? ht)
    have ht2 : (piecesT x)[i]? = some (pieceT t) := by
      unfold piecesT
      rw [List.getElem?_map, show (partsX x)[i]? = some t from ht]
      rfl
    have e : ((piecesT x).take (i + 1)).map pcD = ((piecesT x).take i).map pcD ++ [pcD (pieceT t)] := by
      rw [take_more ht2, List.map_append]; rfl
    have la : (((piecesT x).take i).map pcD).length ≤ 1000 := by
      rw [List.length_map, List.length_take]
      have : i < (partsX x).length := (List.getElem?_eq_some_iff.mp ht).1
      omega
    have ct := cut_to t 1
    have cf := cut_from t 1
    (repeat' (first | (guard_target =~ XS _ _ _ _ _; first | refine XS.ite ?_) | (guard_target =~ XE _ _ _ _ _; first | refine XE.var rfl ?_ | refine XE.int ?_ | refine XE.str ?_ | refine XE.op dr_eq ?_ | refine XE.slS ?_) | (guard_target =~ XT _ _ _ _ _; first | refine XT.test ?_) | (guard_target =~ XO _ _ _ _ _; first | refine XO.no ?_ | refine XO.yes ?_) | (guard_target =~ XG _ _ _ _ _ _; first | refine XG.name rfl ?_) | refine go_slS ?_ ?_ | refine go_eq rfl rfl rfl ?_ | refine go_int ?_ | refine go_bl ?_))
    · omega
    refine ite2 (fun hc => ?_) (fun hc => ?_)
    · have hc : cutS t none (some 1) = "-" := of_decide_eq_true (show decide (cutS t none (some 1) = "-") = true from hc)
      have e3 : pieceT t = (-1, cutS t (some 1) none) := by
        unfold pieceT
        rw [if_pos (by rw [← ct]; exact (congrArg cp hc).trans (cp_lit (by decide +kernel)))]
        exact Prod.ext rfl (cp_ext (by rw [cp_ofL]; exact cf.symm))
      (repeat' (first | (guard_target =~ XS _ _ _ _ _; first | refine XS.app rfl (i := 1) rfl ?_) | (guard_target =~ XE _ _ _ _ _; first | refine XE.var rfl ?_ | refine XE.int ?_ | refine XE.unI ?_ | refine XE.tup ?_ | refine XE.slS ?_) | (guard_target =~ XA _ _ _ _ _; first | refine XA.nil ?_ | refine XA.cons ?_) | (guard_target =~ XO _ _ _ _ _; first | refine XO.no ?_ | refine XO.yes ?_) | refine go_slS ?_ ?_ | refine go_len rfl ?_ | refine go_un ?_ | refine go_int ?_ | refine go_app ?_ ?_))
      · omega
      · exact la
      refine ⟨⟨.dt (.str t), ?_⟩, rfl⟩
      rw [e, e3]
      rfl
    · have e3 : pieceT t = (1, t) := by
        unfold pieceT
        rw [if_neg]
        intro h
        refine hc (decide_eq_true (show cutS t none (some 1) = "-" from cp_ext ?_))
        rw [show cp (cutS t none (some 1)) = _ from ct, h]
        decide +kernel
      (repeat' (first | refine XS.app rfl (i := 1) rfl ?_ | refine XE.var rfl ?_ | refine XE.int ?_ | refine XE.tup ?_ | refine XA.nil ?_ | refine XA.cons ?_ | refine go_len rfl ?_ | refine go_app ?_ ?_))
      · exact la
      refine ⟨⟨.dt (.str t), ?_⟩, rfl⟩
      rw [e, e3]
      rfl
  · subst e1 e2
    have le : (piecesT x).length = (List.map Dat.str (PySem.Txt.split (PySem.Txt.replace x " - " " + -") " + ")).length := by
      unfold piecesT
      rw [List.length_map, List.length_map]
      rfl
    rw [← le, List.take_of_length_le (Nat.le_refl _)]
    (repeat' (first | refine XS.retO (i := 1) rfl ?_))
    exact q
abbrev s_fraction_in : Stmt := top 33
abbrev N_fraction_in : List Str := ["text", "under", "top", "stroke", "bottom"]
abbrev P_fraction_in : List Str := ["text"]
theorem sc_fraction_in : FnScope N_fraction_in ["text"] (defScope s_fraction_in) := ⟨rfl, rfl, rfl, by decide +kernel, rfl, by decide +kernel, by decide +kernel⟩

theorem ok_fraction_in (T : Txt K mg c) {f : Addr} {fd : FuncData} (F : L2.Fun K "fraction_in" "fraction_in" s_fraction_in f fd) (h_must : CalX P w K mg base 1 "must" (spX (W_must c))) (h_whole_in : CalX P w K mg base 2 "whole_in" (spX (W_whole_in c))) (h_lowest : Cal P w K mg base 2 "lowest" (sp_lowest K) []) : FnOk P w K mg base (L2.CX P w) 3 f fd P_fraction_in (spX (W_fraction_in c)) := by
  have hD_lowest := Cal.imp h_lowest fun _ _ _ _ h => ad_lowest h
  clear h_lowest
  have h_lowest := hD_lowest
  refine okX F sc_fraction_in (fun ds C X ⟨_, e, _⟩ => by rw [e]; rfl) fun cdv A outer s H E hr => ⟨_, (pss_cons (ps_asg (pe_partition (pv 0) pe_str) (pg_tup rfl (pgs_cons (pg_name (i := 2) sc_fraction_in.nd rfl (by first | exact Or.inl rfl | exact Or.inr rfl)) (pgs_cons (pg_name (i := 3) sc_fraction_in.nd rfl (by first | exact Or.inl rfl | exact Or.inr rfl)) (pgs_cons (pg_name (i := 4) sc_fraction_in.nd rfl (by first | exact Or.inl rfl | exact Or.inr rfl)) pgs_nil)))))
      (pss_cons (ps_if (pt_cmpR op_eq (pv 3) pe_str (nomark _)) (pss_one (ps_ret (pe_tup (pa_cons (pe_cS h_whole_in hr (by decide) rfl (fun σ => passAt (takes_of rfl rfl rfl rfl) σ) (pa_cons (pv 2) pa_nil)) (pa_cons pe_int pa_nil))))) pss_nil)
      (pss_cons (ps_set (i := 1) sc_fraction_in.nd rfl (by first | exact Or.inl rfl | exact Or.inr rfl) (pe_cS h_whole_in hr (by decide) rfl (fun σ => passAt (takes_of rfl rfl rfl rfl) σ) (pa_cons (pv 4) pa_nil)))
      (pss_cons (ps_expr (pe_cS h_must hr (by decide) rfl (fun σ => passAt (takes_of rfl rfl rfl rfl) σ) (pa_cons (pe_cmpR op_gt (pv 1) pe_int (nomark _)) pa_nil)))
      (pss_one (ps_ret (pe_c h_lowest hr (by decide) rfl (pa_cons (pe_cS h_whole_in hr (by decide) rfl (fun σ => passAt (takes_of rfl rfl rfl rfl) σ) (pa_cons (pv 2) pa_nil)) (pa_cons (pv 1) pa_nil))))))))), fun z ds C X hX ⟨x, e, hs, q, qx⟩ => ?_⟩
  subst e
  have sl := sizeLine_eq
  have hl := hs.1
  have ps := hs.par "/"
  (repeat' (first | (guard_target =~ XS _ _ _ _ _; first | refine XS.seq ?_ | refine XS.ite ?_ | refine XS.asg ?_) | (guard_target =~ XE _ _ _ _ _; first | refine XE.var rfl ?_ | refine XE.str ?_ | refine XE.op dr_eq ?_ | refine XE.par ?_) | (guard_target =~ XT _ _ _ _ _; first | refine XT.test ?_) | (guard_target =~ XGs _ _ _ _ _ _; first | refine XGs.cons ?_ | refine XGs.nil ?_) | (guard_target =~ XG _ _ _ _ _ _; first | refine XG.name rfl ?_ | refine XG.tupG rfl ?_) | refine go_par (by decide +kernel) ?_ ?_ | refine go_eq rfl rfl rfl ?_ | refine go_str ?_ | refine go_bl ?_))
  · omega
  refine ite2 (fun hc => ?_) (fun hc => ?_)
  · have hc : (PySem.Txt.partition x "/").2.1 = "" := of_decide_eq_true (show decide ((PySem.Txt.partition x "/").2.1 = "") = true from hc)
    have ef : fracIn x = (wholeIn (PySem.Txt.partition x "/").1).map fun t => (t, 1) := if_pos hc
    (repeat' (first | refine XS.ret ?_ | refine XE.var rfl ?_ | refine XE.tup ?_ | refine XE.callX (X := fun _ e => X e) (fun O σ m1 H2 e cls d x R q => hX O _ m1 σ H2 e cls d x R q) ?_ | refine XA.nil ?_ | refine XA.cons ?_))
    refine ⟨_, rfl, ps.1, fun n hn => ?_, fun hn => qx (by rw [ef, hn]; rfl)⟩
    (repeat' (first | refine XE.int ?_ | refine XA.nil ?_ | refine XA.cons ?_ | refine go_len rfl ?_))
    exact q (n, 1) (by rw [ef, hn]; rfl)
  · have hc : ¬ (PySem.Txt.partition x "/").2.1 = "" := fun h => hc (show decide ((PySem.Txt.partition x "/").2.1 = "") = true from decide_eq_true h)
    (repeat' (first | refine XS.next ?_ | refine XS.seq ?_ | refine XS.set ?_ | refine XE.var rfl ?_ | refine XE.callX (X := fun _ e => X e) (fun O σ m1 H2 e cls d x R q => hX O _ m1 σ H2 e cls d x R q) ?_ | refine XA.nil ?_ | refine XA.cons ?_))
    refine ⟨_, rfl, ps.2, fun u hu => ?_, fun hn => qx (by unfold fracIn; rw [if_neg hc, hn])⟩
    have ef : fracIn x = if 0 < u then (wholeIn (PySem.Txt.partition x "/").1).map fun t => ((Rat.divInt t u).num, ((Rat.divInt t u).den : Int)) else none := by
      unfold fracIn
      rw [if_neg hc, hu]
    (repeat' (first | refine XS.seq ?_ | refine XS.drop ?_ | refine XE.var rfl ?_ | refine XE.int ?_ | refine XE.op dr_I0 ?_ | refine XE.callX (X := fun _ e => X e) (fun O σ m1 H2 e cls d x R q => hX O _ m1 σ H2 e cls d x R q) ?_ | refine XA.nil ?_ | refine XA.cons ?_ | refine go_I0 ?_))
    refine ⟨_, rfl, fun h => ?_, fun h => ?_⟩
    · have h0 : 0 < u := of_decide_eq_true h
      rw [if_pos h0] at ef
      (repeat' (first | refine XS.ret ?_ | refine XE.var rfl ?_ | refine XE.call ?_ | refine XE.callX (X := fun _ e => X e) (fun O σ m1 H2 e cls d x R q => hX O _ m1 σ H2 e cls d x R q) ?_ | refine XA.nil ?_ | refine XA.cons ?_))
      refine ⟨_, rfl, ps.1, fun n hn => ?_, fun hn => qx (by rw [ef, hn]; rfl)⟩
      (repeat' (first | refine XE.var rfl ?_ | refine XA.nil ?_ | refine XA.cons ?_))
      obtain ⟨_, _, _, _, _, lt⟩ := wholeIn_some hu ps.2.2
      refine ⟨n, u, rfl, by omega, ?_, ?_⟩
      · have : (10 : Int) ^ 640 < 2 ^ 8000 := by decide +kernel
        show u.natAbs < 2 ^ 8000
        have : u < 2 ^ 8000 := by
          clear ef q qx
          exact Int.lt_trans lt this
        have e2 : ((u.natAbs : Nat) : Int) = u := by omega
        exact_mod_cast e2 ▸ this
      · exact q _ (by rw [ef, hn]; rfl)
    · have h0 : ¬ 0 < u := fun z => by rw [decide_eq_true z] at h; cases h
      exact qx (by rw [ef, if_neg h0])
abbrev s_parted : Stmt := top 34
abbrev N_parted : List Str := ["piece", "first", "star", "rest"]
abbrev P_parted : List Str := ["piece"]
theorem sc_parted : FnScope N_parted ["piece"] (defScope s_parted) := ⟨rfl, rfl, rfl, by decide +kernel, rfl, by decide +kernel, by decide +kernel⟩

theorem ok_parted (T : Txt K mg c) {f : Addr} {fd : FuncData} (F : L2.Fun K "parted" "parted" s_parted f fd) (h_must : CalX P w K mg base 1 "must" (spX (W_must c))) (h_fraction_in : CalX P w K mg base 3 "fraction_in" (spX (W_fraction_in c))) : FnOk P w K mg base (L2.CX P w) 4 f fd P_parted (spX (W_parted c)) := by
  refine okX F sc_parted (fun ds C X ⟨_, e, _⟩ => by rw [e]; rfl) fun cdv A outer s H E hr => ⟨_, (pss_cons (ps_if (PW.pt (pw_or (pt_cmpR (show OpR _ (compareOp .NotIn) _ from op_notIn_str) (pe_slice sl_str (pv 0) po_none (po_some pe_int)) (pe_gc rfl T.mg_FIGURES) (by rfl)) (pw_or1 (pt_cmpR op_eq (pv 0) pe_str (nomark _))))) (pss_one (ps_ret (pe_tup (pa_cons (pe_tup (pa_cons pe_int (pa_cons pe_int pa_nil))) (pa_cons (pv 0) pa_nil))))) pss_nil)
      (pss_cons (ps_asg (pe_partition (pv 0) pe_str) (pg_tup rfl (pgs_cons (pg_name (i := 1) sc_parted.nd rfl (by first | exact Or.inl rfl | exact Or.inr rfl)) (pgs_cons (pg_name (i := 2) sc_parted.nd rfl (by first | exact Or.inl rfl | exact Or.inr rfl)) (pgs_cons (pg_name (i := 3) sc_parted.nd rfl (by first | exact Or.inl rfl | exact Or.inr rfl)) pgs_nil)))))
      (pss_cons (ps_expr (pe_cS h_must hr (by decide) rfl (fun σ => passAt (takes_of rfl rfl rfl rfl) σ) (pa_cons (pe_or (pe_cmpR op_eq (pv 2) pe_str (nomark _)) (pe_one (pe_cmpR op_ne (pv 3) pe_str (nomark _)))) pa_nil)))
      (pss_one (ps_ret (pe_tup (pa_cons (pe_cS h_fraction_in hr (by decide) rfl (fun σ => passAt (takes_of rfl rfl rfl rfl) σ) (pa_cons (pv 1) pa_nil)) (pa_cons (pv 3) pa_nil)))))))), fun z ds C X hX ⟨x, e, hs, q, qx⟩ => ?_⟩
  subst e
  have sl := sizeLine_eq
  have hl := hs.1
  have ps := hs.par "*"
  (repeat' (first | (guard_target =~ XS _ _ _ _ _; first | refine XS.seq ?_ | refine XS.ite ?_) | (guard_target =~ XE _ _ _ _ _; first | refine XE.var rfl ?_ | refine XE.int ?_ | refine XE.str ?_ | refine XE.slS ?_ | refine XE.op dr_notIn2 ?_) | (guard_target =~ XT _ _ _ _ _; first | refine XT.test ?_ | refine XT.or ?_) | (guard_target =~ XO _ _ _ _ _; first | refine XO.no ?_ | refine XO.yes ?_) | refine go_slS ?_ ?_ | refine go_in2 ?_ | refine go_int ?_ | refine go_bl ?_))
  · omega
  rw [if_pos rfl, inT_fig]
  refine ite2 (fun hc => ?_) (fun hc => ?_)
  · have hf : figB ((cp x).take 1) = false := by simpa using hc
    rw [if_pos rfl]
    (repeat' (first | refine XS.ret ?_ | refine XE.var rfl ?_ | refine XE.int ?_ | refine XE.tup ?_ | refine XA.nil ?_ | refine XA.cons ?_ | refine go_len rfl ?_))
    exact q (1, 1) x (if_pos (.inl hf))
  have hf : figB ((cp x).take 1) = true := by simpa using hc
  (repeat' (first | refine XE.var rfl ?_ | refine XE.str ?_ | refine XE.op dr_eq ?_ | refine XT.test ?_ | refine go_eq rfl rfl rfl ?_ | refine go_bl ?_))
  refine ite2 (fun hc => ?_) (fun hc => ?_)
  · have hx : x = "" := of_decide_eq_true (show decide (x = "") = true from hc)
    (repeat' (first | refine XS.ret ?_ | refine XE.var rfl ?_ | refine XE.int ?_ | refine XE.tup ?_ | refine XA.nil ?_ | refine XA.cons ?_ | refine go_len rfl ?_))
    exact q (1, 1) x (if_pos (.inr hx))
  · have hx : ¬ x = "" := fun h => hc (show decide (x = "") = true from decide_eq_true h)
    have ef : partedT x = if (PySem.Txt.partition x "*").2.1 = "" ∨ (PySem.Txt.partition x "*").2.2 ≠ "" then (fracIn (PySem.Txt.partition x "*").1).map fun q => (q, (PySem.Txt.partition x "*").2.2) else none := if_neg fun h => h.elim (fun h => by rw [hf] at h; cases h) hx
    (repeat' (first | (guard_target =~ XS _ _ _ _ _; first | refine XS.next ?_ | refine XS.seq ?_ | refine XS.drop ?_ | refine XS.asg ?_) | (guard_target =~ XE _ _ _ _ _; first | refine XE.var rfl ?_ | refine XE.str ?_ | refine XE.op dr_eq ?_ | refine XE.orV ?_ | refine XE.callX (X := fun _ e => X e) (fun O σ m1 H2 e cls d x R q => hX O _ m1 σ H2 e cls d x R q) ?_ | refine XE.par ?_) | (guard_target =~ XA _ _ _ _ _; first | refine XA.cons ?_) | (guard_target =~ XGs _ _ _ _ _ _; first | refine XGs.cons ?_ | refine XGs.nil ?_) | (guard_target =~ XG _ _ _ _ _ _; first | refine XG.name rfl ?_ | refine XG.tupG rfl ?_) | refine go_par (by decide +kernel) ?_ ?_ | refine go_eq rfl rfl rfl ?_ | refine go_str ?_ | refine go_bl ?_))
    · omega
    have rest : ((PySem.Txt.partition x "*").2.1 = "" ∨ (PySem.Txt.partition x "*").2.2 ≠ "") → ∀ {C' : Dat → Prop}, (∀ r : Int × Int, C (.tup [qD r, .str (PySem.Txt.partition x "*").2.2]) → C' (qD r)) → W_fraction_in c [.str (PySem.Txt.partition x "*").1] C' X := fun h {C'} kk => by
      rw [if_pos h] at ef
      refine ⟨_, rfl, ps.1, fun r hr => ?_, fun hn => qx (by rw [ef, hn]; rfl)⟩
      exact kk r (q r _ (by rw [ef, hr]; rfl))
    refine ite2 (fun h1 => ?_) (fun h1 => ?_)
    · have h1 : (PySem.Txt.partition x "*").2.1 = "" := of_decide_eq_true (show decide ((PySem.Txt.partition x "*").2.1 = "") = true from h1)
      (repeat' (first | refine XA.nil ?_))
      refine ⟨_, rfl, fun _ => ?_, fun h => nomatch h⟩
      (repeat' (first | refine XS.ret ?_ | refine XE.var rfl ?_ | refine XE.tup ?_ | refine XE.callX (X := fun _ e => X e) (fun O σ m1 H2 e cls d x R q => hX O _ m1 σ H2 e cls d x R q) ?_ | refine XA.nil ?_ | refine XA.cons ?_))
      refine rest (.inl h1) fun r hr => ?_
      (repeat' (first | refine XE.var rfl ?_ | refine XA.nil ?_ | refine XA.cons ?_ | refine go_len rfl ?_))
      exact hr
    · have h1 : ¬ (PySem.Txt.partition x "*").2.1 = "" := fun h => h1 (show decide ((PySem.Txt.partition x "*").2.1 = "") = true from decide_eq_true h)
      (repeat' (first | refine XE.var rfl ?_ | refine XE.str ?_ | refine XE.op dr_ne ?_ | refine XA.nil ?_ | refine go_ne rfl rfl rfl ?_))
      refine ⟨_, rfl, fun h => ?_, fun h => ?_⟩
      · have h2 : (PySem.Txt.partition x "*").2.2 ≠ "" := fun z => by
          have h : (!decide ((PySem.Txt.partition x "*").2.2 = "")) = true := h
          rw [z] at h
          cases h
        (repeat' (first | refine XS.ret ?_ | refine XE.var rfl ?_ | refine XE.tup ?_ | refine XE.callX (X := fun _ e => X e) (fun O σ m1 H2 e cls d x R q => hX O _ m1 σ H2 e cls d x R q) ?_ | refine XA.nil ?_ | refine XA.cons ?_))
        refine rest (.inr h2) fun r hr => ?_
        (repeat' (first | refine XE.var rfl ?_ | refine XA.nil ?_ | refine XA.cons ?_ | refine go_len rfl ?_))
        exact hr
      · have h2 : (PySem.Txt.partition x "*").2.2 = "" := by
          have h : (!decide ((PySem.Txt.partition x "*").2.2 = "")) = false := h
          simpa using h
        exact qx (by rw [ef, if_neg (fun z => z.elim h1 fun z => z h2)])
end
end My

/-! ### walks: polynomials as texts -/
namespace My
open PySem PySem.Spec PyProof.Rows L2
open C8 (Cal pe_c pe_gc InsC call_isC)
section
variable {z : Cz} {g : List Sl} {m : Nat} {tr : TA} {E : DE} {K : PySem.W.Frag} {Wout : WX}
/-- try: x(..) except C: raise .. -/
theorem XS.tryOnly {Wp : WpX} {Xe : Nat → Err → Prop} {cc : Value} {ts : Addr → Value → Option Addr → TS} (hx : XA z tr g m fun m1 ds => Wp ds (fun _ => E.nx g m1) (Xe m1)) (hc : ∀ m' e, Xe m' e → PySem.W.exmOne K (.ref e.C) cc = some true)
    (hs : ∀ O σ m' H a cls d D e, Xe m' e → Real z O g m' σ H → ts a cls d D σ H) :
    XS z (fun D σ H => tDrop (tCallS (spX Wp) (fun σ cls d H' => wOnly K cc ts Wout D cls d σ H') tr) D σ H) g m E := fun O σ H R D k =>
  hx O σ H R _ fun m1 ds vs H1 c R1 l1 q1 => ⟨O, ds, _, Xe m1, R1.dom, q1, c, fun d v H' c' l' q' => k.nx _ _ _ _ _ c' (R1.up l') ((l1.trans l'.x).z R.po), fun e cls d H' x l' q => by
    have ec := q.1
    subst ec
    exact ⟨true, hc m1 e x, fun _ a ha => hs O σ m1 H' a _ d D e x (R1.up l'), fun z => nomatch z⟩⟩
end
def oneD (n : Int) : Dat := qD (n, 1)
def W_powers_text : WpD := fun ds C => ∃ ns : List Int, ds = [.lst (ns.map oneD)] ∧ ns.length ≤ 6 ∧ (∀ n ∈ ns, n.natAbs < 2 ^ 64) ∧ C (.str (powersT ns))
def W_text_of (c : Cs) : WpX := fun ds C X => ∃ ns : List Int, ds = [nsD ns] ∧ ((faultOf ns).1 = true → C (.str (powersT ns))) ∧ ((faultOf ns).1 = false → X ⟨c.NoPoly, [("at", optD (faultOf ns).2)]⟩)
def W_power_in (c : Cs) : WpX := fun ds C X => ∃ x : Str, ds = [.str x] ∧ (∀ k, powerIn x = some k → C (.int (k : Nat))) ∧ (powerIn x = none → X (noText c))
def W_read_poly (c : Cs) : WpX := fun ds C X => ∃ x : Str, ds = [.str x] ∧ TxS 1000 x ∧ (∀ ns, readP x = some ns → C (nsD ns)) ∧ (readP x = none → X (noText c))
theorem PsG.x {p : Nat} (h : p ≤ 9) : PsG [(p : Int)] lx := ⟨(show 1 ≤ 3 by decide), (show 1 ≤ lx.length by decide +kernel), fun q hq => by rw [List.mem_singleton.mp hq]; omega, by decide +kernel⟩
theorem fold_next {x : Str} {i : Nat} {p : Int × Str} {f z0 : List Int} (hi : (piecesT x)[i]? = some p) (hf : ((piecesT x).take i).foldlM stepRd z0 = some f) : ((piecesT x).take (i + 1)).foldlM stepRd z0 = stepRd f p := by
  rw [take_more hi, List.foldlM_append, hf]
  show ([p].foldlM stepRd f) = _
  rw [List.foldlM_cons]
  cases stepRd f p <;> rfl
theorem fold_none {x : Str} {i : Nat} {p : Int × Str} {f : List Int} (hi : (piecesT x)[i]? = some p) (hf : ((piecesT x).take i).foldlM stepRd [0, 0, 0, 0, 0] = some f) (hn : stepRd f p = none) : readP x = none := by
  have h1 := fold_next hi hf
  rw [hn] at h1
  have h2 : (piecesT x).foldlM stepRd [0, 0, 0, 0, 0] = none := by
    rw [← List.take_append_drop (i + 1) (piecesT x), List.foldlM_append, h1]
    rfl
  unfold readP
  rw [h2]
theorem stepRd_len {f f' : List Int} {p : Int × Str} (h : stepRd f p = some f') : f'.length = f.length := by
  unfold stepRd at h
  split at h
  · cases h
  · split at h
    · cases hp : powerIn ‹_› with
      | none => rw [hp] at h; cases h
      | some k => rw [hp] at h; cases h; exact List.length_set
    · cases h
theorem powerIn_lt {x : Str} {k : Nat} (h : powerIn x = some k) : k < 5 := List.mem_range.mp (List.mem_of_find?_eq_some h)
theorem fracIn_small {x : Str} {q : Int × Int} (h : fracIn x = some q) (hc : cnt isFig x ≤ 640) : q.1.natAbs < 10 ^ 640 := by
  have cp1 := cnt_part isFig x "/"
  have key : ∀ {n : Int}, wholeIn (PySem.Txt.partition x "/").1 = some n → n.natAbs < 10 ^ 640 := fun {n} hn => by
    obtain ⟨_, _, _, _, h0, lt⟩ := wholeIn_some hn (Nat.le_trans cp1.1 hc)
    have e : ((n.natAbs : Nat) : Int) = n := by omega
    have : ((n.natAbs : Nat) : Int) < ((10 ^ 640 : Nat) : Int) := by rw [e]; exact_mod_cast lt
    exact Int.ofNat_lt.mp this
  unfold fracIn at h
  split at h
  · cases hw : wholeIn (PySem.Txt.partition x "/").1 with
    | none => rw [hw] at h; cases h
    | some n => rw [hw] at h; cases h; exact key hw
  · split at h
    · cases h
    · rename_i u hu
      split at h
      · rename_i h0
        cases hw : wholeIn (PySem.Txt.partition x "/").1 with
        | none => rw [hw] at h; cases h
        | some n =>
          rw [hw] at h; cases h
          have e := congrArg Prod.fst (low_rat (t := n) (b := u) (by omega))
          have e : lowT n u = (Rat.divInt n u).num := e
          show (Rat.divInt n u).num.natAbs < _
          rw [← e]
          exact Nat.lt_of_le_of_lt (lowT_abs (by omega)) (key hw)
      · cases h
theorem parted_small {x y : Str} {q : Int × Int} (h : partedT x = some (q, y)) (hc : cnt isFig x ≤ 640) : q.1.natAbs < 10 ^ 640 := by
  unfold partedT at h
  split at h
  · cases h
    exact Nat.one_lt_pow (by decide) (by decide)
  · split at h
    · cases hf : fracIn (PySem.Txt.partition x "*").1 with
      | none => rw [hf] at h; cases h
      | some r => rw [hf] at h; cases h; exact fracIn_small hf (Nat.le_trans (cnt_part isFig x "*").1 hc)
    · cases h
theorem pow640 : 10 ^ 640 < 2 ^ 3000 := by decide +kernel
theorem pieceT_sign (t : Str) : (pieceT t).1 = 1 ∨ (pieceT t).1 = -1 := by
  unfold pieceT
  split
  · exact .inr rfl
  · exact .inl rfl
theorem trim_pop {l : List Int} : trim (l ++ [0]) = trim l := by
  unfold trim
  rw [List.reverse_append, List.reverse_singleton, List.singleton_append, List.dropWhile_cons, if_pos (decide_eq_true rfl)]
theorem trim_done {l : List Int} (h : l.drop (l.length - 1) ≠ [0]) : trim l = l := by
  rcases List.eq_nil_or_concat l with e | ⟨r, x, e⟩
  · rw [e]; rfl
  · subst e
    have hx : x ≠ 0 := fun z => h (by rw [z]; simp)
    unfold trim
    rw [List.concat_eq_append, List.reverse_append, List.reverse_singleton, List.singleton_append, List.dropWhile_cons, if_neg (by simpa using hx), List.reverse_cons, List.reverse_reverse]
theorem cut_last (l : List Int) : cutD (l.map Dat.int) (some (-1)) none = (l.drop (l.length - 1)).map Dat.int := by
  unfold cutD
  have e1 : HT.sIx (l.map Dat.int).length 0 (some (-1)) = l.length - 1 := by
    rw [List.length_map]
    simp [HT.sIx]
    omega
  have e2 : HT.sIx (l.map Dat.int).length (l.map Dat.int).length none = l.length := by rw [List.length_map]; rfl
  rw [e1, e2, ← List.map_drop, ← List.map_take]
  congr 1
  exact List.take_of_length_le (by rw [List.length_drop]; omega)
theorem log64 {n : Int} (h : n.natAbs < 2 ^ 64) : n.natAbs.log2 < 1920 := by
  by_cases h0 : n.natAbs = 0
  · rw [h0]; decide
  · exact Nat.lt_of_lt_of_le ((Nat.log2_lt h0).mpr h) (by decide)
def selI (ns : List Int) (i : Nat) : List ((Int × Int) × Str) := (List.range i).flatMap fun k => oneX ns (ns.length - 1 - k)
theorem selI_succ (ns : List Int) (i : Nat) : selI ns (i + 1) = selI ns i ++ oneX ns (ns.length - 1 - i) := by
  unfold selI
  rw [List.range_succ, List.flatMap_append]
  simp
theorem selI_len (ns : List Int) (i : Nat) : (selI ns i).length ≤ i := by
  induction i with
  | zero => simp [selI]
  | succ i ih =>
    rw [selI_succ, List.length_append]
    have : (oneX ns (ns.length - 1 - i)).length ≤ 1 := by unfold oneX; split <;> simp
    omega
theorem rngC_get {lo c : Int} {n i : Nat} {d : Dat} (h : (rngC lo c n)[i]? = some d) : i < n ∧ d = .int (lo + (i : Nat) * c) := by
  unfold rngC at h
  rw [List.getElem?_map] at h
  by_cases l : i < n
  · rw [List.getElem?_range l] at h
    exact ⟨l, (Option.some.inj h).symm⟩
  · rw [List.getElem?_eq_none (by rw [List.length_range]; omega)] at h; cases h
theorem selX_ok {ns : List Int} (h6 : ns.length ≤ 6) (hs : ∀ n ∈ ns, n.natAbs < 2 ^ 64) : ∀ p ∈ selX ns, TxQ p.1 ∧ p.2.length ≤ 100 := fun p hp => by
  obtain ⟨j, hj, _, rfl⟩ := selX_mem hp
  refine ⟨⟨?_, (show (1 : Int).natAbs.log2 < 1920 by decide)⟩, prodG_len (PsG.x (by omega))⟩
  refine log64 (hs _ ?_)
  rw [List.getD_eq_getElem?_getD, List.getElem?_eq_getElem hj]
  exact List.getElem_mem hj
section
variable {c : Cs} {P : Program} {w : World} {K : PySem.W.Frag} {mg : Str → Option Value} {base : Heap}
abbrev s_powers_text : Stmt := top 35
abbrev N_powers_text : List Str := ["shares", "found", "power"]
abbrev P_powers_text : List Str := ["shares"]
theorem sc_powers_text : FnScope N_powers_text ["shares"] (defScope s_powers_text) := ⟨rfl, rfl, rfl, by decide +kernel, rfl, by decide +kernel, by decide +kernel⟩

theorem ok_powers_text (T : Txt K mg c) {f : Addr} {fd : FuncData} (F : L2.Fun K "powers_text" "powers_text" s_powers_text f fd) (h_product_text : Cal P w K mg base 1 "product_text" (spD W_product_text) []) (h_sum_text : Cal P w K mg base 3 "sum_text" (spD W_sum_text) []) : FnOk P w K mg base CX0 4 f fd P_powers_text (spD W_powers_text) := by
  refine okD F sc_powers_text (fun ds C ⟨_, e, _⟩ => by rw [e]; rfl) fun cdv A outer s H E hr => ⟨_, (pss_cons (ps_set (i := 1) sc_powers_text.nd rfl (by first | exact Or.inl rfl | exact Or.inr rfl) (pe_lst pa_nil))
      (pss_cons (ps_for PassesOwn.never rfl (pi_range3 rfl T.z_range (pa_cons (pe_op op_sub (pe_callB call_len_seq (by rfl) T.z_len (by decide +kernel) (pa_cons (pv 0) pa_nil)) pe_int) (pa_cons (pe_un un_neg pe_int) (pa_cons (pe_un un_neg pe_int) pa_nil)))) (pg_name (i := 2) sc_powers_text.nd rfl (by first | exact Or.inl rfl | exact Or.inr rfl)) (pss_one (ps_if (pt_cmpR op_ne (pe_ix ix_tup (pe_ix ix_list (pv 0) (pv 2) (fun _ _ => rfl)) pe_int (fun _ _ => rfl)) pe_int (nomark _)) (pss_one (ps_expr (pe_bm PySem.F.plainAttrs_list PySem.F.slot_list_append PySem.F.type_list_append mt_append (pv 1) (pa_cons (pe_tup (pa_cons (pe_ix ix_list (pv 0) (pv 2) (fun _ _ => rfl)) (pa_cons (pe_c h_product_text hr (by decide) rfl (pa_cons (pe_lst (pa_cons (pv 2) pa_nil)) (pa_cons pe_str pa_nil))) pa_nil))) pa_nil)))) pss_nil)))
      (pss_one (ps_ret (pe_c h_sum_text hr (by decide) rfl (pa_cons (pv 1) pa_nil)))))), fun z ds C ⟨ns, e, h6, hs, q⟩ => ?_⟩
  subst e
  have sl := sizeLine_eq
  (repeat' (first | refine XS.seq ?_ | refine XS.setO (i := 1) ?_ | refine XN.lst ?_ | refine XA.nil ?_ | refine go_len rfl ?_))
  refine XS.for (XI.rng3 ?_)
  (repeat' (first | refine XE.var rfl ?_ | refine XE.int ?_ | refine XE.op dr_I0 ?_ | refine XE.unI ?_ | refine XE.len1 ?_ | refine XA.nil ?_ | refine XA.cons ?_ | refine go_len1 rfl ?_ | refine go_I0 ?_ | refine go_un ?_))
  rw [List.length_map]
  refine go_rg3 (RgC.neg (i := (ns.length : Int) - 1) (j := -1) (by omega) (by omega) (by decide) (by decide)) ?_
  have en : ((ns.length : Int) - 1 - -1).toNat = ns.length := by omega
  rw [en]
  refine ⟨fun i g m => (∃ s2, g = [.dt (.lst (ns.map oneD)), .ow ((selI ns i).map pairD), s2]) ∧ m = 0, ⟨⟨_, rfl⟩, rfl⟩, fun i d g2 m2 hi ⟨⟨s2, e1⟩, e2⟩ => ?_, fun g2 m2 ⟨⟨s2, e1⟩, e2⟩ => ?_⟩
  · subst e1 e2
    obtain ⟨hi, rfl⟩ := rngC_get hi
    have ej : (ns.length : Int) - 1 + (i : Nat) * -1 = ((ns.length - 1 - i : Nat) : Int) := by omega
    rw [ej]
    obtain ⟨j, ejj⟩ : ∃ j, j = ns.length - 1 - i := ⟨_, rfl⟩
    have es := selI_succ ns i
    rw [← ejj] at es ⊢
    have hj : j < ns.length := by omega
    have la : ((selI ns i).map pairD).length ≤ 1000 := by
      have := selI_len ns i
      rw [List.length_map]; omega
    have hix : atI (ns.map oneD) (j : Int) = some (oneD (ns.getD j 0)) := by
      refine atI_nat ?_
      rw [List.getElem?_map, List.getElem?_eq_getElem hj, List.getD_eq_getElem?_getD, List.getElem?_eq_getElem hj]
      rfl
    (repeat' (first | refine XS.ite ?_ | refine XE.var rfl ?_ | refine XE.op dr_ixL ?_ | refine XE.op dr_ixT ?_ | refine XE.op dr_ne ?_ | refine XT.test ?_ | refine XG.name rfl ?_))
    refine go_ix hix ?_
    (repeat' (first | refine XE.int ?_ | refine go_ixT rfl ?_ | refine go_ne rfl rfl rfl ?_ | refine go_bl ?_))
    refine ite2 (fun hc => ?_) (fun hc => ?_)
    · have h0 : ns.getD j 0 ≠ 0 := by
        intro h
        have hc : (!decide (ns.getD j 0 = 0)) = true := hc
        rw [decide_eq_true h] at hc
        cases hc
      (repeat' (first | refine XS.app rfl (i := 1) rfl ?_ | refine XE.var rfl ?_ | refine XE.op dr_ixL ?_ | refine XE.tup ?_ | refine XA.cons ?_))
      refine go_ix hix ?_
      (repeat' (first | refine XE.var rfl ?_ | refine XE.str ?_ | refine XE.ofN (XN.lst ?_) | refine XE.call ?_ | refine XA.nil ?_ | refine XA.cons ?_ | refine go_len rfl ?_))
      refine ⟨[(j : Int)], lx, rfl, PsG.x (by omega), ?_⟩
      (repeat' (first | refine XA.nil ?_ | refine go_len rfl ?_ | refine go_app ?_ ?_))
      · exact la
      refine ⟨⟨.dt (.int (j : Int)), ?_⟩, rfl⟩
      rw [es, List.map_append, show oneX ns j = [((ns.getD j 0, 1), prodX j)] from if_neg h0]
      rfl
    · have h0 : ns.getD j 0 = 0 := by
        refine Classical.byContradiction fun h => hc ?_
        show (!decide (ns.getD j 0 = 0)) = true
        rw [decide_eq_false h]; rfl
      (repeat' (first | refine XS.next ?_))
      refine ⟨⟨.dt (.int (j : Int)), ?_⟩, rfl⟩
      rw [es, show oneX ns j = [] from if_pos h0, List.append_nil]
      rfl
  · subst e1 e2
    rw [show (rngC ((ns.length : Int) - 1) (-1) ns.length).length = ns.length by simp [rngC]]
    refine XS.frz (i := 1) rfl ?_
    (repeat' (first | refine XS.ret ?_ | refine XE.var rfl ?_ | refine XE.call ?_ | refine XA.nil ?_ | refine XA.cons ?_))
    refine ⟨selX ns, rfl, ?_, selX_ok h6 hs, q⟩
    have := selI_len ns ns.length
    show (selI ns ns.length).length ≤ 30
    omega
abbrev s_text_of : Stmt := top 36
abbrev N_text_of : List Str := ["polynomial", "number"]
abbrev P_text_of : List Str := ["polynomial"]
theorem sc_text_of : FnScope N_text_of ["polynomial"] (defScope s_text_of) := ⟨rfl, rfl, rfl, by decide +kernel, rfl, by decide +kernel, by decide +kernel⟩

theorem ok_text_of (T : Txt K mg c) {f : Addr} {fd : FuncData} (F : L2.Fun K "text_of" "text_of" s_text_of f fd) (h_must_poly : CalX P w K mg base 3 "must_poly" (spX (W_must_poly c))) (h_powers_text : Cal P w K mg base 4 "powers_text" (spD W_powers_text) []) : FnOk P w K mg base (L2.CX P w) 5 f fd P_text_of (spX (W_text_of c)) := by
  refine okX F sc_text_of (fun ds C X ⟨_, e, _⟩ => by rw [e]; rfl) fun cdv A outer s H E hr => ⟨_, (pss_cons (ps_expr (pe_cS h_must_poly hr (by decide) rfl (fun σ => passAt (takes_of rfl rfl rfl rfl) σ) (pa_cons (pv 0) pa_nil)))
      (pss_one (ps_ret (pe_c h_powers_text hr (by decide) rfl (pa_cons (pe_lc (own := [("number", 1)]) (g := gName 1) (by rfl) sc_text_of.nd (pi_list (pv 0)) (blkOk_by (own := [("number", 1)]) (N := N_text_of) (sc := defScope s_text_of) (by decide +kernel)) (fun _ _ _ _ _ => (pg_name (i := 1) sc_text_of.nd rfl (by first | exact Or.inl rfl | exact Or.inr rfl))) (fun _ _ _ _ _ => pts_nil) (fun _ _ _ _ _ => (pe_tup (pa_cons (pv 1) (pa_cons pe_int pa_nil))))) pa_nil))))), fun z ds C X hX ⟨ns, e, q, qx⟩ => ?_⟩
  subst e
  (repeat' (first | refine XS.seq ?_ | refine XS.drop ?_ | refine XE.var rfl ?_ | refine XE.callX (X := fun _ e => X e) (fun O σ m1 H2 e cls d x R q => hX O _ m1 σ H2 e cls d x R q) ?_ | refine XA.nil ?_ | refine XA.cons ?_))
  refine ⟨ns, rfl, fun hf => ?_, qx⟩
  have G := good_of hf
  have l5 := G.l5
  (repeat' (first | refine XS.ret ?_ | refine XE.call ?_ | refine XA.cons ?_))
  refine XE.ofN (XN.to (XI.list ?_))
  (repeat' (first | refine XE.var rfl ?_ | refine go_lst ?_))
  refine ⟨ns.map oneD, by rw [List.length_map, List.length_map], by rw [List.length_map]; omega, fun i d o hd ho => ?_, ?_⟩
  · obtain ⟨n, hn, rfl⟩ := map_get hd
    rw [List.getElem?_map, hn] at ho
    cases ho
    (repeat' (first | refine XE.var rfl ?_ | refine XE.int ?_ | refine XE.tup ?_ | refine XA.nil ?_ | refine XA.cons ?_ | refine XG.name rfl ?_ | refine go_len rfl ?_))
    exact ⟨rfl, rfl⟩
  · (repeat' (first | refine XA.nil ?_))
    exact ⟨ns, rfl, by omega, fun n hn => Nat.lt_of_le_of_lt (G.sm n hn) (by decide), q hf⟩
abbrev s_power_in : Stmt := top 37
abbrev N_power_in : List Str := ["product", "power"]
abbrev P_power_in : List Str := ["product"]
theorem sc_power_in : FnScope N_power_in ["product"] (defScope s_power_in) := ⟨rfl, rfl, rfl, by decide +kernel, rfl, by decide +kernel, by decide +kernel⟩

theorem ok_power_in (T : Txt K mg c) {f : Addr} {fd : FuncData} (F : L2.Fun K "power_in" "power_in" s_power_in f fd) (h_product_text : Cal P w K mg base 1 "product_text" (spD W_product_text) []) : FnOk P w K mg base (L2.CX P w) 2 f fd P_power_in (spX (W_power_in c)) := by
  refine okX F sc_power_in (fun ds C X ⟨_, e, _⟩ => by rw [e]; rfl) fun cdv A outer s H E hr => ⟨_, (pss_cons (ps_for (passes_of rfl) rfl (pi_range1 rfl T.z_range (pa_cons pe_int pa_nil)) (pg_name (i := 1) sc_power_in.nd rfl (by first | exact Or.inl rfl | exact Or.inr rfl)) (pss_one (ps_if (pt_cmpR op_eq (pv 0) (pe_c h_product_text hr (by decide) rfl (pa_cons (pe_lst (pa_cons (pv 1) pa_nil)) (pa_cons pe_str pa_nil))) (nomark _)) (pss_one (ps_ret (pv 1))) pss_nil)))
      (pss_one (ps_raise rfl (takes_of rfl rfl rfl rfl) (pmk_own PySem.F.excBase_ValueError T.x_NoText T.g_NoText T.k_NoText (raises_own T.b_NoText T.t_NoText) rfl)))), fun z ds C X hX ⟨x, e, q, qx⟩ => ?_⟩
  subst e
  (repeat' (first | refine XS.seq ?_))
  refine XS.for (XI.rng1 ?_)
  (repeat' (first | refine XE.int ?_ | refine XA.nil ?_ | refine XA.cons ?_ | refine go_rg1 ?_ ?_))
  · decide
  refine ⟨fun i g m => (∃ s1, g = [.dt (.str x), s1]) ∧ m = 0 ∧ ∀ j, j < i → x ≠ prodX j, ⟨⟨_, rfl⟩, rfl, fun j hj => absurd hj (Nat.not_lt_zero j)⟩, fun i d g2 m2 hi ⟨⟨s1, e1⟩, e2, hn⟩ => ?_, fun g2 m2 ⟨⟨s1, e1⟩, e2, hn⟩ => ?_⟩
  · subst e1 e2
    obtain ⟨hl, rfl⟩ := rng_get hi
    have hl : i < 5 := hl
    rw [Int.zero_add]
    (repeat' (first | (guard_target =~ XS _ _ _ _ _; first | refine XS.ite ?_) | (guard_target =~ XE _ _ _ _ _; first | refine XE.var rfl ?_ | refine XE.str ?_ | refine XE.op dr_eq ?_ | refine XE.ofN (XN.lst ?_) | refine XE.call ?_) | (guard_target =~ XA _ _ _ _ _; first | refine XA.nil ?_ | refine XA.cons ?_) | (guard_target =~ XT _ _ _ _ _; first | refine XT.test ?_) | (guard_target =~ XG _ _ _ _ _ _; first | refine XG.name rfl ?_) | refine go_len rfl ?_))
    refine ⟨[(i : Int)], lx, rfl, PsG.x (by omega), ?_⟩
    (repeat' (first | refine go_eq rfl rfl rfl ?_ | refine go_bl ?_))
    refine ite2 (fun hc => ?_) (fun hc => ?_)
    · have hx : x = prodX i := of_decide_eq_true (show decide (x = prodX i) = true from hc)
      (repeat' (first | refine XS.ret ?_ | refine XE.var rfl ?_))
      exact q i (by rw [hx]; exact powerIn_prod hl)
    · have hx : x ≠ prodX i := fun h => hc (show decide (x = prodX i) = true from decide_eq_true h)
      (repeat' (first | refine XS.next ?_))
      refine ⟨⟨_, rfl⟩, rfl, fun j hj => ?_⟩
      by_cases h : j = i
      · rw [h]; exact hx
      · exact hn j (by omega)
  · refine XS.rai fun O σ H R => hX O _ _ σ H _ _ _ (qx ?_) R ⟨rfl, .inl ⟨rfl, rfl⟩⟩
    refine List.find?_eq_none.mpr fun j hj => ?_
    have := hn j (List.mem_range.mp hj)
    simpa using this
abbrev s_read_polynomial : Stmt := top 38
abbrev N_read_polynomial : List Str := ["text", "found", "sign", "piece", "product", "top", "bottom", "number"]
abbrev P_read_polynomial : List Str := ["text"]
theorem sc_read_polynomial : FnScope N_read_polynomial ["text"] (defScope s_read_polynomial) := ⟨rfl, rfl, rfl, by decide +kernel, rfl, by decide +kernel, by decide +kernel⟩

theorem ok_read_polynomial (T : Txt K mg c) {f : Addr} {fd : FuncData} (F : L2.Fun K "read_polynomial" "read_polynomial" s_read_polynomial f fd) (h_must : CalX P w K mg base 1 "must" (spX (W_must c))) (h_pieces_of : Cal P w K mg base 1 "pieces_of" (spD W_pieces_of) []) (h_parted : CalX P w K mg base 4 "parted" (spX (W_parted c))) (h_power_in : CalX P w K mg base 2 "power_in" (spX (W_power_in c)))
    (hN_must_poly : CalN P w K mg base 3 "must_poly" (spX (W_must_poly c))) (h_powers_text : Cal P w K mg base 4 "powers_text" (spD W_powers_text) []) : FnOk P w K mg base (L2.CX P w) 5 f fd P_read_polynomial (spX (W_read_poly c)) := by
  refine okX F sc_read_polynomial (fun ds C X ⟨_, e, _⟩ => by rw [e]; rfl) fun cdv A outer s H E hr => ⟨_, (pss_cons (ps_set (i := 1) sc_read_polynomial.nd rfl (by first | exact Or.inl rfl | exact Or.inr rfl) (pe_op op_rep (pe_lst (pa_cons pe_int pa_nil)) pe_int))
      (pss_cons (ps_for (passes_of rfl) rfl (pi_list (pe_c h_pieces_of hr (by decide) rfl (pa_cons (pv 0) pa_nil))) (pg_tup rfl (pgs_cons (pg_name (i := 2) sc_read_polynomial.nd rfl (by first | exact Or.inl rfl | exact Or.inr rfl)) (pgs_cons (pg_name (i := 3) sc_read_polynomial.nd rfl (by first | exact Or.inl rfl | exact Or.inr rfl)) pgs_nil))) (pss_cons (ps_asg (pe_cS h_parted hr (by decide) rfl (fun σ => passAt (takes_of rfl rfl rfl rfl) σ) (pa_cons (pv 3) pa_nil)) (pg_tup rfl (pgs_cons (pg_tup rfl (pgs_cons (pg_name (i := 5) sc_read_polynomial.nd rfl (by first | exact Or.inl rfl | exact Or.inr rfl)) (pgs_cons (pg_name (i := 6) sc_read_polynomial.nd rfl (by first | exact Or.inl rfl | exact Or.inr rfl)) pgs_nil))) (pgs_cons (pg_name (i := 4) sc_read_polynomial.nd rfl (by first | exact Or.inl rfl | exact Or.inr rfl)) pgs_nil))))
      (pss_cons (ps_expr (pe_cS h_must hr (by decide) rfl (fun σ => passAt (takes_of rfl rfl rfl rfl) σ) (pa_cons (pe_cmpR op_eq (pv 6) pe_int (nomark _)) pa_nil)))
      (pss_one (ps_asg (pe_op op_mulW (pv 2) (pv 5)) (pg_sub (pv 1) (pe_cS h_power_in hr (by decide) rfl (fun σ => passAt (takes_of rfl rfl rfl rfl) σ) (pa_cons (pv 4) pa_nil)) set_list))))))
      (pss_cons (ps_while (passes_of rfl) (pt_cmpR (op_eqD hr.units) (pe_slice sl_list (pv 1) (po_some (pe_un un_neg pe_int)) po_none) (pe_lst (pa_cons pe_int pa_nil)) (nomark _)) (pss_one (ps_expr (pe_bm0 PySem.F.plainAttrs_list PySem.F.slot_list_pop PySem.F.type_list_pop mt_pop (pv 1)))))
      (pss_cons (L2H.ps_try_onlyX rfl rfl ⟨rfl, by decide, .inl T.g_NoPoly⟩ (fun hd => L2H.passesAt_of rfl hd) (takes_of rfl rfl rfl rfl) (fun W pn xe tk tk2 po => (pss_one (ps_expr (pe_cSN hN_must_poly hr (by decide) rfl (fun σ => L2N.passAt tk σ) (pa_cons (pv 1) pa_nil))))) (fun a oe cls d pn hz hv tks hot => (pss_one (L2H.ps_raiseHN hot tks (pmk5_own PySem.F.excBase_ValueError T.x_NoText T.g_NoText T.k_NoText (raises_own T.b_NoText T.t_NoText) rfl)))))
      (pss_cons (ps_expr (pe_cS h_must hr (by decide) rfl (fun σ => passAt (takes_of rfl rfl rfl rfl) σ) (pa_cons (pe_cmpR op_eq (pe_c h_powers_text hr (by decide) rfl (pa_cons (pe_lc (own := [("number", 7)]) (g := gName 7) (by rfl) sc_read_polynomial.nd (pi_list (pv 1)) (blkOk_by (own := [("number", 7)]) (N := N_read_polynomial) (sc := defScope s_read_polynomial) (by decide +kernel)) (fun _ _ _ _ _ => (pg_name (i := 7) sc_read_polynomial.nd rfl (by first | exact Or.inl rfl | exact Or.inr rfl))) (fun _ _ _ _ _ => pts_nil) (fun _ _ _ _ _ => (pe_tup (pa_cons (pv 7) (pa_cons pe_int pa_nil))))) pa_nil)) (pv 0) (nomark _)) pa_nil)))
      (pss_one (ps_ret (pv 1)))))))), fun z ds C X hX ⟨x, e, hs, q, qx⟩ => ?_⟩
  subst e
  have sl := sizeLine_eq
  (repeat' (first | refine XS.seq ?_ | refine XS.setO (i := 1) ?_ | refine XE.int ?_ | refine XE.ofN (XN.lst ?_) | refine XN.op dn_rep ?_ | refine XA.nil ?_ | refine XA.cons ?_ | refine go_len rfl ?_ | refine go_rep ?_ ?_ ?_ ?_))
  · decide
  · decide
  · decide
  refine XS.for (XI.list ?_)
  (repeat' (first | refine XE.var rfl ?_ | refine XE.call ?_ | refine XA.nil ?_ | refine XA.cons ?_))
  refine ⟨x, rfl, hs.1, ?_⟩
  (repeat' (first | refine go_lst ?_))
  refine ⟨fun i g m => ∃ f, ((piecesT x).take i).foldlM stepRd [0, 0, 0, 0, 0] = some f ∧ f.length = 5 ∧ (∃ s2 s3 s4 s5 s6 s7, g = [.dt (.str x), .ow (f.map Dat.int), s2, s3, s4, s5, s6, s7]) ∧ m = 0, ⟨[0, 0, 0, 0, 0], rfl, rfl, ⟨_, _, _, _, _, _, rfl⟩, rfl⟩, fun i d g2 m2 hi ⟨f, hf, lf, ⟨s2, s3, s4, s5, s6, s7, e1⟩, e2⟩ => ?_, fun g2 m2 ⟨f, hf, lf, ⟨s2, s3, s4, s5, s6, s7, e1⟩, e2⟩ => ?_⟩
  · subst e1 e2
    obtain ⟨p, hp, rfl⟩ := map_get hi
    obtain ⟨sg_, y⟩ := p
    have hm := piecesT_ok (List.mem_of_getElem? hp)
    have hm : y.length * 3 ≤ x.length * 4 ∧ cnt isFig y ≤ cnt isFig x := hm
    have hs1 := hs.1
    have hs2 := hs.2
    have hsg : sg_ = 1 ∨ sg_ = -1 := by
      obtain ⟨t, _, e⟩ := List.mem_map.mp (List.mem_of_getElem? hp)
      have := pieceT_sign t
      rw [e] at this
      exact this
    have nx := fold_next hp hf
    (repeat' (first | refine XS.seq ?_ | refine XS.asg ?_ | refine XE.var rfl ?_ | refine XE.callX (X := fun _ e => X e) (fun O σ m1 H2 e cls d x R q => hX O _ m1 σ H2 e cls d x R q) ?_ | refine XA.nil ?_ | refine XA.cons ?_ | refine XGs.cons ?_ | refine XGs.nil ?_ | refine XG.name rfl ?_ | refine XG.tupG rfl ?_))
    refine ⟨y, rfl, ⟨by omega, by omega⟩, fun r w hr => ?_, fun hn => qx (fold_none hp hf (by unfold stepRd; rw [hn]))⟩
    obtain ⟨t, b⟩ := r
    have sm := parted_small hr (by omega)
    (repeat' (first | (guard_target =~ XS _ _ _ _ _; first | refine XS.seq ?_ | refine XS.drop ?_) | (guard_target =~ XE _ _ _ _ _; first | refine XE.var rfl ?_ | refine XE.int ?_ | refine XE.op dr_eq ?_ | refine XE.callX (X := fun _ e => X e) (fun O σ m1 H2 e cls d x R q => hX O _ m1 σ H2 e cls d x R q) ?_) | (guard_target =~ XA _ _ _ _ _; first | refine XA.nil ?_ | refine XA.cons ?_) | (guard_target =~ XGs _ _ _ _ _ _; first | refine XGs.cons ?_ | refine XGs.nil ?_) | (guard_target =~ XG _ _ _ _ _ _; first | refine XG.name rfl ?_ | refine XG.tupG rfl ?_) | refine go_eq rfl rfl rfl ?_))
    refine ⟨_, rfl, fun hb => ?_, fun hb => ?_⟩
    · have hb : b = 1 := of_decide_eq_true (show decide (b = 1) = true from hb)
      have es : stepRd f (sg_, y) = (powerIn w).map fun k => f.set k (sg_ * t) := by
        unfold stepRd
        rw [hr]
        exact if_pos hb
      rw [es] at nx
      (repeat' (first | refine XS.setI (i := 1) rfl ?_ | refine XE.var rfl ?_ | refine XE.op dr_I ?_ | refine XE.callX (X := fun _ e => X e) (fun O σ m1 H2 e cls d x R q => hX O _ m1 σ H2 e cls d x R q) ?_ | refine XA.nil ?_ | refine XA.cons ?_ | refine go_I ?_ ?_))
      · refine Sz.cmul (n := 1) (m := 3000) ?_ (Nat.lt_trans sm pow640) (by decide) (by decide) (by decide)
        show sg_.natAbs < 2 ^ 1
        omega
      refine ⟨w, rfl, fun k hk => ?_, fun hn => qx (fold_none hp hf (by rw [es, hn]; rfl))⟩
      rw [hk] at nx
      have k5 := powerIn_lt hk
      refine go_put (j := k) (by rw [List.length_map, lf]; unfold ixN; rw [if_pos (by omega), if_pos (by omega)]; congr 1) ?_
      refine ⟨f.set k (sg_ * t), nx, by rw [List.length_set]; exact lf, ⟨.dt (.int sg_), .dt (.str y), .dt (.str w), .dt (.int t), .dt (.int b), s7, ?_⟩, rfl⟩
      rw [List.map_set]
      rfl
    · have hb : ¬ b = 1 := fun h => by
        have hb : decide (b = 1) = false := hb
        rw [decide_eq_true h] at hb
        cases hb
      refine qx (fold_none hp hf ?_)
      unfold stepRd
      rw [hr]
      exact if_neg hb
  · subst e1 e2
    rw [List.length_map, List.take_of_length_le (Nat.le_refl _)] at hf
    refine XS.seq (XS.whi (fun g m => ∃ f', trim f' = trim f ∧ f'.length ≤ 5 ∧ (∃ s2 s3 s4 s5 s6 s7, g = [.dt (.str x), .ow (f'.map Dat.int), s2, s3, s4, s5, s6, s7]) ∧ m = 0) (fun g => match g[1]? with | some (Sl.ow ds) => ds.length | _ => 0) ⟨f, rfl, by omega, ⟨_, _, _, _, _, _, rfl⟩, rfl⟩ fun g2 m2 ⟨f', ht, lf', ⟨s2, s3, s4, s5, s6, s7, e1⟩, e2⟩ => ?_)
    subst e1 e2
    refine XT.test (XE.op dr_eqD (XE.ofN (XN.slO (i := 1) rfl ?_)))
    (repeat' (first | refine XE.int ?_ | refine XE.unI ?_ | refine XE.ofN (XN.lst ?_) | refine XA.nil ?_ | refine XA.cons ?_ | refine XO.no ?_ | refine XO.yes ?_ | refine go_len rfl ?_ | refine go_un ?_ | refine go_int ?_))
    rw [cut_last]
    refine go_eqD (cmp_ns _) (cmp_ns [0]) ?_
    rw [show eqD (.lst ((f'.drop (f'.length - 1)).map Dat.int)) (.lst [.int 0]) = decide (f'.drop (f'.length - 1) = [0]) from eqD_ns _ [0]]
    (repeat' (first | refine go_bl ?_))
    refine ite2 (fun hc => ?_) (fun hc => ?_)
    · have hc := of_decide_eq_true hc
      have ef : f' = f'.dropLast ++ [0] := by
        rw [List.dropLast_eq_take]
        conv => lhs; rw [← List.take_append_drop (f'.length - 1) f', hc]
      have lp : 0 < f'.length := by
        cases f' with
        | nil => cases hc
        | cons _ _ => simp
      refine XS.pop (i := 1) (d := .int 0) rfl rfl ?_ ⟨⟨f'.dropLast, ?_, by rw [List.length_dropLast]; omega, ⟨s2, s3, s4, s5, s6, s7, ?_⟩, rfl⟩, ?_⟩
      · rw [List.length_map, List.getElem?_map]
        have : f'[f'.length - 1]? = some 0 := by
          have h := congrArg (fun l : List Int => l[0]?) hc
          simp only [List.getElem?_drop] at h
          exact h
        rw [this]; rfl
      · rw [← ht]
        conv => rhs; rw [ef]
        exact trim_pop.symm
      · show [Sl.dt (.str x), .ow (f'.map Dat.int).dropLast, s2, s3, s4, s5, s6, s7] = _
        rw [List.map_dropLast]
      · show ((f'.map Dat.int).dropLast).length < (f'.map Dat.int).length
        rw [List.length_dropLast, List.length_map]; omega
    · have hc : f'.drop (f'.length - 1) ≠ [0] := fun h => hc (decide_eq_true h)
      have et : f' = trim f := by rw [← ht, trim_done hc]
      rw [et] at lf' ⊢
      have er : readP x = if (faultOf (trim f)).1 = true ∧ powersT (trim f) = x then some (trim f) else none := by
        unfold readP
        rw [hf]
      refine XS.frz (i := 1) rfl ?_
      refine XS.seq (XS.tryOnly (Xe := fun _ e => e.C = c.NoPoly ∧ (faultOf (trim f)).1 = false) ?_ (fun _ e he => by rw [he.1]; exact T.exm_NoPoly_NoPoly) fun O σ m' H a cls d D e he R => hX O _ m' σ H _ _ _ (qx (by rw [er, if_neg (fun z => by rw [he.2] at z; cases z.1)])) R ⟨rfl, .inl ⟨rfl, rfl⟩⟩)
      (repeat' (first | refine XE.var rfl ?_ | refine XA.nil ?_ | refine XA.cons ?_))
      refine ⟨trim f, rfl, fun hg => ?_, fun hb => ⟨rfl, hb⟩⟩
      have G := good_of hg
      (repeat' (first | refine XS.seq ?_ | refine XS.drop ?_ | refine XE.op dr_eq ?_ | refine XE.call ?_ | refine XE.callX (X := fun _ e => X e) (fun O σ m1 H2 e cls d x R q => hX O _ m1 σ H2 e cls d x R q) ?_ | refine XA.cons ?_))
      have l5 := G.l5
      refine XE.ofN (XN.to (XI.list ?_))
      (repeat' (first | refine XE.var rfl ?_ | refine go_lst ?_))
      refine ⟨(trim f).map oneD, by rw [List.length_map, List.length_map], by rw [List.length_map]; omega, fun i d o hd ho => ?_, ?_⟩
      · obtain ⟨n, hn, rfl⟩ := map_get hd
        rw [List.getElem?_map, hn] at ho
        cases ho
        (repeat' (first | refine XE.var rfl ?_ | refine XE.int ?_ | refine XE.tup ?_ | refine XA.nil ?_ | refine XA.cons ?_ | refine XG.name rfl ?_ | refine go_len rfl ?_))
        exact ⟨rfl, rfl⟩
      · (repeat' (first | refine XA.nil ?_))
        refine ⟨trim f, rfl, by omega, fun n hn => Nat.lt_of_le_of_lt (G.sm n hn) (by decide), ?_⟩
        (repeat' (first | refine XE.var rfl ?_ | refine XA.nil ?_ | refine go_eq rfl rfl rfl ?_))
        refine ⟨_, rfl, fun h => ?_, fun h => ?_⟩
        · have h : powersT (trim f) = x := of_decide_eq_true (show decide (powersT (trim f) = x) = true from h)
          (repeat' (first | refine XS.ret ?_ | refine XE.var rfl ?_))
          exact q _ (by rw [er, if_pos ⟨hg, h⟩])
        · have h : ¬ powersT (trim f) = x := fun z => by
            have h : decide (powersT (trim f) = x) = false := h
            rw [decide_eq_true z] at h
            cases h
          exact qx (by rw [er, if_neg (fun z => h z.2)])
end
end My

/-! ### exceptions as data: asked of, their fields; True in a list of truths -/
namespace My
open PySem PySem.Spec PyProof.Rows L2
section
variable {z : Cz} {g : List Sl} {m : Nat} {C : Nat → Dat → Prop} {t ta te to : TE} {tr : TA} {K : PySem.W.Frag} {Cc : Addr} {kn : Str}
theorem exc_kept {O : List Addr} {H : Hp} {v : V} {fs : List (Str × Dat)} (r : Rp (hid O H) v (.exc Cc fs)) : ∃ a d, v = .ref a ∧ Kept H a Cc d := by
  cases r with
  | exc0 h => exact ⟨_, _, rfl, (hid_some h).2, .inl rfl⟩
  | exc1 h h2 _ => exact ⟨_, _, rfl, (hid_some h).2, .inr ⟨_, _, rfl, (hid_some h2).2⟩⟩
theorem XE.isE {w : V} {u : Value} (hc : ClsV w u) (h : XE z ta g m fun m1 d => ∃ (D : Addr) (fs : List (Str × Dat)) (b : Bool), d = .exc D fs ∧ ExcC K D ∧ PySem.W.kitOne K (.ref D) u = some b ∧ C m1 (.bl b)) :
    XE z (tCB (fun xs H Q => rIsi K xs H Q ∨ rIsK K xs H Q) (tCons ta (tCons (tC w) tNil))) g m C := fun O σ H R Q k => h O σ H R _ fun m1 d v H1 ⟨D, fs, b, e, x, kt, c⟩ R1 l1 q1 => by
  subst e
  obtain ⟨a, dd, rfl, hk⟩ := exc_kept q1
  exact .inr ⟨a, D, dd, w, u, b, rfl, hk, x, hc, kt, k m1 _ _ H1 c R1 l1 (.bl b)⟩
theorem XE.kf {f : Str} (h : XE z te g m fun m1 d => ∃ (D : Addr) (fs : List (Str × Dat)) (x : Dat), d = .exc D fs ∧ ExcC K D ∧ PySem.W.findIn K (.ref D) f = some none ∧ fs.lookup f = some x ∧ C m1 x) : XE z (tKFld K te f) g m C := fun O σ H R Q k =>
  h O σ H R _ fun m1 d v H1 ⟨D, fs, x, e, ex, no, hl, c⟩ R1 l1 q1 => by
    subst e
    cases q1 with
    | exc0 h1 => cases hl
    | exc1 h1 h2 rf =>
      obtain ⟨u, hu, ru⟩ := rf.look hl
      exact ⟨_, D, _, _, u, rfl, (hid_some h1).2, (hid_some h2).2, ex, no, hu, k m1 _ _ H1 c R1 l1 ru⟩end
/-- what a statement leaves, told by itself -/
theorem XS.cut {z : Cz} {g : List Sl} {m : Nat} {t : TS} {E : DE} {N : List Sl → Nat → Prop} (h : XS z t g m { E with nx := N }) (hk : ∀ g1 m1, N g1 m1 → E.nx g1 m1) : XS z t g m E := fun O σ H R D k =>
  h O σ H R D ⟨fun O' g' m' σ' H' c R' l => k.nx _ _ _ _ _ (hk _ _ c) R' l, k.rt, k.rn, k.bk, k.ct⟩
theorem inB (b : Bool) (bs : List Bool) : inV (.bl b) (bs.map V.bl) = bs.contains b := by
  induction bs with
  | nil => rfl
  | cons x r ih =>
    have h : inV (.bl b) ((x :: r).map V.bl) = (eqV (.bl x) (.bl b) || inV (.bl b) (r.map V.bl)) := rfl
    rw [h, ih, List.contains_cons]
    congr 1
    cases x <;> cases b <;> rfl
def dInB (d e : Dat) (C : Dat → Prop) : Prop := ∃ (b : Bool) (bs : List Bool), d = .bl b ∧ e = .lst (bs.map Dat.bl) ∧ C (.bl (bs.contains b))
theorem dr_inB {K : PySem.W.Frag} : DR2 (rIn K false) dInB := fun O H x y d e C Q _ rx ry ⟨b, bs, e1, e2, c⟩ k => by
  subst e1 e2
  cases rx
  cases ry with
  | lst h r =>
    have e := r.bls
    subst e
    refine ⟨_, _, rfl, .inl (SqL.of (hid_some h).2), rfl, by rw [List.all_map]; exact List.all_eq_true.mpr fun _ _ => rfl, ?_⟩
    rw [inB]
    exact k _ _ H c (Le.refl H) (.bl _)
end My

/-! ### walks: the law of polynomials as texts, a -/
namespace My
open PySem PySem.Spec PyProof.Rows L2
open C8 (Cal pe_c pe_gc InsC call_isC)
def wordsL : List Str := ["poly", "house", "letter", "count", "move", "word", "full", "deed", "text", "line", "over", "name", "twice", "number"]
def wordOf : Option Nat → Str
  | none => "done"
  | some i => wordsL.getD i "odd"
def SortX (K : PySem.W.Frag) (c : Cs) (d : Dat) (j : Option Nat) : Prop := (d = .non ∧ j = none) ∨ ∃ C fs i, d = .exc C fs ∧ j = some i ∧ i < 14 ∧ Row K c (.ref C) (some i) ∧ ExcC K C
def W_Lclass (K : PySem.W.Frag) (c : Cs) : WpD := fun ds C => ∃ d j, ds = [d] ∧ SortX K c d j ∧ C (.str (wordOf j))
def flagB (i : Nat) : List Bool := (List.range 14).map fun k => (some i == some k)
def flagB10 (i : Nat) : List Bool := [some i == some 0, some i == some 1, some i == some 2, some i == some 3, some i == some 4, some i == some 5, some i == some 6, some i == some 7, some i == some 8, some i == some 9]
theorem flag_any {i : Nat} (h : i < 14) : (flagB10 i).contains true = (some i).any fun i => decide (i < 10) := by
  match i, h with
  | 0, _ | 1, _ | 2, _ | 3, _ | 4, _ | 5, _ | 6, _ | 7, _ | 8, _ | 9, _ | 10, _ | 11, _ | 12, _ | 13, _ => rfl
section
variable {c : Cs} {P : Program} {w : World} {K : PySem.W.Frag} {mg : Str → Option Value} {base : Heap}
abbrev s_Lclass : Stmt := top 44
abbrev N_Lclass : List Str := ["_law_caught", "_law_some", "_law_under", "_law_words", "_law_found", "_law_word", "_law_truth"]
abbrev P_Lclass : List Str := ["_law_caught"]
theorem sc_Lclass : FnScope N_Lclass ["_law_caught"] (defScope s_Lclass) := ⟨rfl, rfl, rfl, by decide +kernel, rfl, by decide +kernel, by decide +kernel⟩

theorem ok_Lclass (T : Txt K mg c) {f : Addr} {fd : FuncData} (F : L2.Fun K "_law_class" "_law_class" s_Lclass f fd) : FnOk P w K mg base CX0 1 f fd P_Lclass (spD (W_Lclass K c)) := by
  refine okD F sc_Lclass (fun ds C ⟨_, _, e, _⟩ => by rw [e]; rfl) fun cdv A outer s H E hr => ⟨_, (pss_cons (ps_if (pt_cmpR op_isN (pv 0) pe_non (nomark _)) (pss_one (ps_ret pe_str)) pss_nil)
      (pss_cons (ps_set (i := 1) sc_Lclass.nd rfl (by first | exact Or.inl rfl | exact Or.inr rfl) (pe_lst (pa_cons (pe_callB call_isA (by rfl) T.z_isinstance (by decide +kernel) (pa_cons (pv 0) (pa_cons (pe_gc (v := .ref c.NoPoly) rfl ⟨_, T.g_NoPoly, rfl⟩) pa_nil))) (pa_cons (pe_callB call_isA (by rfl) T.z_isinstance (by decide +kernel) (pa_cons (pv 0) (pa_cons (pe_gc (v := .ref c.NoHouse) rfl ⟨_, T.g_NoHouse, rfl⟩) pa_nil))) (pa_cons (pe_callB call_isA (by rfl) T.z_isinstance (by decide +kernel) (pa_cons (pv 0) (pa_cons (pe_gc (v := .ref c.NoLetter) rfl ⟨_, T.g_NoLetter, rfl⟩) pa_nil))) pa_nil)))))
      (pss_cons (ps_set (i := 1) sc_Lclass.nd rfl (by first | exact Or.inl rfl | exact Or.inr rfl) (pe_op op_cat (pv 1) (pe_lst (pa_cons (pe_callB call_isA (by rfl) T.z_isinstance (by decide +kernel) (pa_cons (pv 0) (pa_cons (pe_gc (v := .ref c.NoCount) rfl ⟨_, T.g_NoCount, rfl⟩) pa_nil))) (pa_cons (pe_callB call_isA (by rfl) T.z_isinstance (by decide +kernel) (pa_cons (pv 0) (pa_cons (pe_gc (v := .ref c.NoMove) rfl ⟨_, T.g_NoMove, rfl⟩) pa_nil))) (pa_cons (pe_callB call_isA (by rfl) T.z_isinstance (by decide +kernel) (pa_cons (pv 0) (pa_cons (pe_gc (v := .ref c.NoWord) rfl ⟨_, T.g_NoWord, rfl⟩) pa_nil))) pa_nil))))))
      (pss_cons (ps_set (i := 1) sc_Lclass.nd rfl (by first | exact Or.inl rfl | exact Or.inr rfl) (pe_op op_cat (pv 1) (pe_lst (pa_cons (pe_callB call_isA (by rfl) T.z_isinstance (by decide +kernel) (pa_cons (pv 0) (pa_cons (pe_gc (v := .ref c.Full) rfl ⟨_, T.g_Full, rfl⟩) pa_nil))) (pa_cons (pe_callB call_isA (by rfl) T.z_isinstance (by decide +kernel) (pa_cons (pv 0) (pa_cons (pe_gc (v := .ref c.NoDeed) rfl ⟨_, T.g_NoDeed, rfl⟩) pa_nil))) (pa_cons (pe_callB call_isA (by rfl) T.z_isinstance (by decide +kernel) (pa_cons (pv 0) (pa_cons (pe_gc (v := .ref c.NoText) rfl ⟨_, T.g_NoText, rfl⟩) pa_nil))) pa_nil))))))
      (pss_cons (ps_set (i := 2) sc_Lclass.nd rfl (by first | exact Or.inl rfl | exact Or.inr rfl) (pe_op op_cat (pv 1) (pe_lst (pa_cons (pe_callB call_isA (by rfl) T.z_isinstance (by decide +kernel) (pa_cons (pv 0) (pa_cons (pe_gc (v := .ref c.NoLine) rfl ⟨_, T.g_NoLine, rfl⟩) pa_nil))) pa_nil))))
      (pss_cons (ps_set (i := 1) sc_Lclass.nd rfl (by first | exact Or.inl rfl | exact Or.inr rfl) (pe_op op_cat (pv 2) (pe_lst (pa_cons (pe_callB call_isA (by rfl) T.z_isinstance (by decide +kernel) (pa_cons (pv 0) (pa_cons (pe_gc (v := .ref c.NoOver) rfl ⟨_, T.g_NoOver, rfl⟩) pa_nil))) (pa_cons (pe_callB call_isA (by rfl) T.z_isinstance (by decide +kernel) (pa_cons (pv 0) (pa_cons (pe_gc (v := .ref c.NoName) rfl ⟨_, T.g_NoName, rfl⟩) pa_nil))) (pa_cons (pe_callB call_isA (by rfl) T.z_isinstance (by decide +kernel) (pa_cons (pv 0) (pa_cons (pe_gc (v := .ref c.Twice) rfl ⟨_, T.g_Twice, rfl⟩) pa_nil))) pa_nil))))))
      (pss_cons (ps_set (i := 1) sc_Lclass.nd rfl (by first | exact Or.inl rfl | exact Or.inr rfl) (pe_op op_cat (pv 1) (pe_lst (pa_cons (pe_callB call_isA (by rfl) T.z_isinstance (by decide +kernel) (pa_cons (pv 0) (pa_cons (pe_gc (v := .ref c.NoNumber) rfl ⟨_, T.g_NoNumber, rfl⟩) pa_nil))) pa_nil))))
      (pss_cons (ps_set (i := 3) sc_Lclass.nd rfl (by first | exact Or.inl rfl | exact Or.inr rfl) (pe_lst (pa_cons pe_str (pa_cons pe_str (pa_cons pe_str (pa_cons pe_str (pa_cons pe_str (pa_cons pe_str (pa_cons pe_str (pa_cons pe_str (pa_cons pe_str (pa_cons pe_str (pa_cons pe_str (pa_cons pe_str pa_nil))))))))))))))
      (pss_cons (ps_setLc (i := 4) (own := [("_law_word", 5), ("_law_truth", 6)]) (g := gTup K 2 (gCons (gName 5) (gCons (gName 6) gNil))) (by rfl) sc_Lclass.nd rfl rfl (sw_true rfl rfl rfl (by decide +kernel)) (pi_zip (by rfl) T.z_zip (pa_cons (pe_op op_cat (pv 3) (pe_lst (pa_cons pe_str (pa_cons pe_str pa_nil)))) (pa_cons (pv 1) pa_nil))) (blkOk_by (own := [("_law_word", 5), ("_law_truth", 6)]) (N := N_Lclass) (sc := defScope s_Lclass) (by decide +kernel)) (fun _ _ _ _ _ => (pg_tup rfl (pgs_cons (pg_name (i := 5) sc_Lclass.nd rfl (by first | exact Or.inl rfl | exact Or.inr rfl)) (pgs_cons (pg_name (i := 6) sc_Lclass.nd rfl (by first | exact Or.inl rfl | exact Or.inr rfl)) pgs_nil)))) (fun _ _ _ _ _ => (pts_one (pt_val (pv 6)))) (fun _ _ _ _ _ => (pv 5)))
      (pss_cons (ps_if (PW.pt (pw_or (pt_cmpR op_ne (pe_callB call_len_seq (by rfl) T.z_len (by decide +kernel) (pa_cons (pv 4) pa_nil)) pe_int (nomark _)) (pw_or1 (pt_cmpR op_ne (pe_callB call_isA (by rfl) T.z_isinstance (by decide +kernel) (pa_cons (pv 0) (pa_cons (pe_gc (v := .ref c.RootError) rfl ⟨_, T.g_RootError, rfl⟩) pa_nil))) (pe_cmpR op_in_seq pe_bl (pv 2) (by rfl)) (nomark _))))) (pss_one (ps_ret pe_str)) pss_nil)
      (pss_one (ps_ret (pe_ix ix_list (pv 4) pe_int (fun _ _ => rfl)))))))))))))), fun z ds C ⟨d, j, e, hs, q⟩ => ?_⟩
  subst e
  rcases hs with ⟨rfl, rfl⟩ | ⟨D, fs, i, rfl, rfl, lt, row, ex⟩
  · (repeat' (first | refine XS.seq ?_ | refine XS.ite ?_ | refine XE.var rfl ?_ | refine XE.non ?_ | refine XE.op dr_isN ?_ | refine XT.test ?_))
    refine ⟨rfl, ?_⟩
    (repeat' (first | refine XS.ret ?_ | refine XE.str ?_ | refine go_bl ?_))
    exact q
  · (repeat' (first | refine XS.seq ?_ | refine XS.ite ?_ | refine XE.var rfl ?_ | refine XE.non ?_ | refine XE.op dr_isN ?_ | refine XT.test ?_))
    refine ⟨rfl, ?_⟩
    (repeat' (first | refine XS.next ?_ | refine XS.seq ?_ | refine XS.set ?_ | refine XE.ofN (XN.lst ?_) | refine XA.cons ?_ | refine go_bl ?_))
    refine XE.isE (.own _) (XE.var rfl ⟨_, _, _, rfl, ex, row.k_NoPoly, ?_⟩)
    (repeat' (first | refine XA.cons ?_))
    any_goals (try exact Nat.le_of_ble_eq_true rfl)
    refine XE.isE (.own _) (XE.var rfl ⟨_, _, _, rfl, ex, row.k_NoHouse, ?_⟩)
    (repeat' (first | refine XA.cons ?_))
    any_goals (try exact Nat.le_of_ble_eq_true rfl)
    refine XE.isE (.own _) (XE.var rfl ⟨_, _, _, rfl, ex, row.k_NoLetter, ?_⟩)
    (repeat' (first | refine XS.seq ?_ | refine XS.set ?_ | refine XE.var rfl ?_ | refine XE.ofN (XN.lst ?_) | refine XE.ofN (XN.op dn_cat ?_) | refine XA.nil ?_ | refine XA.cons ?_ | refine go_len rfl ?_))
    any_goals (try exact Nat.le_of_ble_eq_true rfl)
    refine XE.isE (.own _) (XE.var rfl ⟨_, _, _, rfl, ex, row.k_NoCount, ?_⟩)
    (repeat' (first | refine XA.cons ?_))
    any_goals (try exact Nat.le_of_ble_eq_true rfl)
    refine XE.isE (.own _) (XE.var rfl ⟨_, _, _, rfl, ex, row.k_NoMove, ?_⟩)
    (repeat' (first | refine XA.cons ?_))
    any_goals (try exact Nat.le_of_ble_eq_true rfl)
    refine XE.isE (.own _) (XE.var rfl ⟨_, _, _, rfl, ex, row.k_NoWord, ?_⟩)
    (repeat' (first | refine XS.seq ?_ | refine XS.set ?_ | refine XE.var rfl ?_ | refine XE.ofN (XN.lst ?_) | refine XE.ofN (XN.op dn_cat ?_) | refine XA.nil ?_ | refine XA.cons ?_ | refine go_len rfl ?_ | refine go_cat ?_ ?_))
    any_goals (try exact Nat.le_of_ble_eq_true rfl)
    refine XE.isE (.own _) (XE.var rfl ⟨_, _, _, rfl, ex, row.k_Full, ?_⟩)
    (repeat' (first | refine XA.cons ?_))
    any_goals (try exact Nat.le_of_ble_eq_true rfl)
    refine XE.isE (.own _) (XE.var rfl ⟨_, _, _, rfl, ex, row.k_NoDeed, ?_⟩)
    (repeat' (first | refine XA.cons ?_))
    any_goals (try exact Nat.le_of_ble_eq_true rfl)
    refine XE.isE (.own _) (XE.var rfl ⟨_, _, _, rfl, ex, row.k_NoText, ?_⟩)
    (repeat' (first | refine XS.seq ?_ | refine XS.set ?_ | refine XE.var rfl ?_ | refine XE.ofN (XN.lst ?_) | refine XE.ofN (XN.op dn_cat ?_) | refine XA.nil ?_ | refine XA.cons ?_ | refine go_len rfl ?_ | refine go_cat ?_ ?_))
    any_goals (try exact Nat.le_of_ble_eq_true rfl)
    refine XE.isE (.own _) (XE.var rfl ⟨_, _, _, rfl, ex, row.k_NoLine, ?_⟩)
    (repeat' (first | refine XS.seq ?_ | refine XS.set ?_ | refine XE.var rfl ?_ | refine XE.ofN (XN.lst ?_) | refine XE.ofN (XN.op dn_cat ?_) | refine XA.nil ?_ | refine XA.cons ?_ | refine go_len rfl ?_ | refine go_cat ?_ ?_))
    any_goals (try exact Nat.le_of_ble_eq_true rfl)
    refine XE.isE (.own _) (XE.var rfl ⟨_, _, _, rfl, ex, row.k_NoOver, ?_⟩)
    (repeat' (first | refine XA.cons ?_))
    any_goals (try exact Nat.le_of_ble_eq_true rfl)
    refine XE.isE (.own _) (XE.var rfl ⟨_, _, _, rfl, ex, row.k_NoName, ?_⟩)
    (repeat' (first | refine XA.cons ?_))
    any_goals (try exact Nat.le_of_ble_eq_true rfl)
    refine XE.isE (.own _) (XE.var rfl ⟨_, _, _, rfl, ex, row.k_Twice, ?_⟩)
    (repeat' (first | refine XS.seq ?_ | refine XS.set ?_ | refine XE.var rfl ?_ | refine XE.ofN (XN.lst ?_) | refine XE.ofN (XN.op dn_cat ?_) | refine XA.nil ?_ | refine XA.cons ?_ | refine go_len rfl ?_ | refine go_cat ?_ ?_))
    any_goals (try exact Nat.le_of_ble_eq_true rfl)
    refine XE.isE (.own _) (XE.var rfl ⟨_, _, _, rfl, ex, row.k_NoNumber, ?_⟩)
    (repeat' (first | refine XS.seq ?_ | refine XS.set ?_ | refine XE.str ?_ | refine XE.ofN (XN.lst ?_) | refine XA.nil ?_ | refine XA.cons ?_ | refine go_len rfl ?_ | refine go_cat ?_ ?_))
    any_goals (try exact Nat.le_of_ble_eq_true rfl)
    refine XE.ofN (XN.lc (XI.zip ?_))
    (repeat' (first | refine XE.var rfl ?_ | refine XE.str ?_ | refine XE.ofN (XN.lst ?_) | refine XE.ofN (XN.op dn_cat ?_) | refine XA.nil ?_ | refine XA.cons ?_ | refine go_len rfl ?_ | refine go_cat ?_ ?_ | refine go_zip ?_))
    any_goals (try exact Nat.le_of_ble_eq_true rfl)
    refine ⟨fun k acc m => acc = (if i < k then [Dat.str (wordsL.getD i "odd")] else []) ∧ m = 0, ⟨(if_neg (Nat.not_lt_zero i)).symm, rfl⟩, fun k d acc m2 hi ⟨e1, e2⟩ => ?_, fun acc m2 ⟨e1, e2⟩ => ?_⟩
    · subst e2
      obtain ⟨hk, rfl⟩ : k < 14 ∧ Dat.tup [.str (wordsL.getD k "odd"), .bl (some i == some k)] = d := by
        rcases k with _ | _ | _ | _ | _ | _ | _ | _ | _ | _ | _ | _ | _ | _ | k
        all_goals first | (cases hi; exact ⟨by decide, rfl⟩) | (exact absurd hi (by intro h; cases h))
      (repeat' (first | refine XE.var rfl ?_ | refine XT.test ?_ | refine XGs.cons ?_ | refine XGs.nil ?_ | refine XG.name rfl ?_ | refine XG.tupG rfl ?_ | refine go_bl ?_))
      by_cases ek : i = k
      · subst ek
        rw [if_pos (by simp)]
        (repeat' (first | refine XE.var rfl ?_))
        rw [e1, if_neg (by omega)]
        exact ⟨by simp, (if_pos (by omega)).symm, rfl⟩
      · rw [if_neg (by simpa using ek)]
        refine ⟨?_, rfl⟩
        rw [e1]
        by_cases l : i < k
        · rw [if_pos l, if_pos (by omega)]
        · rw [if_neg l, if_neg (by omega)]
    · subst e2
      rw [show acc = [Dat.str (wordsL.getD i "odd")] from by rw [e1]; exact if_pos lt]
      (repeat' (first | (guard_target =~ XS _ _ _ _ _; first | refine XS.seq ?_ | refine XS.ite ?_) | (guard_target =~ XE _ _ _ _ _; first | refine XE.var rfl ?_ | refine XE.int ?_ | refine XE.op dr_ne ?_ | refine XE.len1 ?_) | (guard_target =~ XT _ _ _ _ _; first | refine XT.test ?_ | refine XT.or ?_) | refine go_len1 rfl ?_ | refine go_ne rfl rfl rfl ?_ | refine go_bl ?_))
      refine XE.isE (.own _) (XE.var rfl ⟨_, _, _, rfl, ex, row.k_RootError, ?_⟩)
      skip
      refine XE.op dr_inB ?_
      (repeat' (first | refine XE.var rfl ?_ | refine XE.bl ?_))
      refine ⟨true, flagB10 i, rfl, rfl, ?_⟩
      (repeat' (first | refine go_ne rfl rfl rfl ?_ | refine go_bl ?_))
      rw [flag_any lt]
      skip
      refine ite2 (fun hc => ?_) (fun _ => ?_)
      · generalize Option.any _ _ = b at hc
        cases b <;> cases hc
      (repeat' (first | refine XS.next ?_ | refine XS.ret ?_ | refine XE.var rfl ?_ | refine XE.int ?_ | refine XE.op dr_ixL ?_ | refine go_ix rfl ?_))
      exact q
def W_Lalike : WpD := fun ds C => ∃ ns : List Int, ds = [nsD ns] ∧ 2 ≤ ns.length ∧ ns.length ≤ 5 ∧ (∀ x ∈ ns, Bd 100 x) ∧ C (.bl (decide (toldOf ns = 0)))
abbrev s_Lalike_roots : Stmt := top 48
abbrev N_Lalike_roots : List Str := ["_law_some", "_law_found", "_law_c", "_law_b", "_law_a"]
abbrev P_Lalike_roots : List Str := ["_law_some"]
theorem sc_Lalike_roots : FnScope N_Lalike_roots ["_law_some"] (defScope s_Lalike_roots) := ⟨rfl, rfl, rfl, by decide +kernel, rfl, by decide +kernel, by decide +kernel⟩

theorem ok_Lalike_roots (T : Txt K mg c) {f : Addr} {fd : FuncData} (F : L2.Fun K "_law_alike_roots" "_law_alike_roots" s_Lalike_roots f fd) : FnOk P w K mg base CX0 1 f fd P_Lalike_roots (spD W_Lalike) := by
  refine okD F sc_Lalike_roots (fun ds C ⟨_, e, _⟩ => by rw [e]; rfl) fun cdv A outer s H E hr => ⟨_, (pss_cons (ps_if (pt_cmpR op_eq (pe_callB call_len_seq (by rfl) T.z_len (by decide +kernel) (pa_cons (pv 0) pa_nil)) pe_int (nomark _)) (pss_one (ps_ret pe_bl)) pss_nil)
      (pss_cons (ps_if (pt_cmpR op_eq (pe_callB call_len_seq (by rfl) T.z_len (by decide +kernel) (pa_cons (pv 0) pa_nil)) pe_int (nomark _)) (pss_one (ps_ret (pe_cmpR op_eq (pe_op op_mulW (pe_ix ix_list (pv 0) pe_int (fun _ _ => rfl)) (pe_ix ix_list (pv 0) pe_int (fun _ _ => rfl))) (pe_op op_mulW pe_int (pe_ix ix_list (pv 0) pe_int (fun _ _ => rfl))) (nomark _)))) pss_nil)
      (pss_cons (ps_asg (pe_slice sl_list (pv 0) po_none (po_some pe_int)) (pg_unl rfl (pgs_cons (pg_name (i := 2) sc_Lalike_roots.nd rfl (by first | exact Or.inl rfl | exact Or.inr rfl)) (pgs_cons (pg_name (i := 3) sc_Lalike_roots.nd rfl (by first | exact Or.inl rfl | exact Or.inr rfl)) (pgs_cons (pg_name (i := 4) sc_Lalike_roots.nd rfl (by first | exact Or.inl rfl | exact Or.inr rfl)) pgs_nil)))))
      (pss_cons (ps_if (pt_cmpR op_eq (pe_callB call_len_seq (by rfl) T.z_len (by decide +kernel) (pa_cons (pv 0) pa_nil)) pe_int (nomark _)) (pss_one (ps_ret (pe_or (pe_cmpR op_eq (pv 2) pe_int (nomark _)) (pe_one (pe_cmpR op_eq (pe_op op_mulW (pv 4) (pv 4)) (pe_op op_mulW pe_int (pv 2)) (nomark _)))))) pss_nil)
      (pss_cons (ps_set (i := 1) sc_Lalike_roots.nd rfl (by first | exact Or.inl rfl | exact Or.inr rfl) (pe_op op_sub (pe_op op_mulW (pe_op op_mulW (pe_op op_mulW pe_int (pv 4)) (pv 3)) (pv 2)) (pe_op op_mulW (pe_op op_mulW (pe_op op_mulW (pe_op op_mulW pe_int (pv 4)) (pv 4)) (pv 4)) (pv 2))))
      (pss_cons (ps_set (i := 1) sc_Lalike_roots.nd rfl (by first | exact Or.inl rfl | exact Or.inr rfl) (pe_op op_sub (pe_op op_add (pv 1) (pe_op op_mulW (pe_op op_mulW (pe_op op_mulW (pv 4) (pv 4)) (pv 3)) (pv 3))) (pe_op op_mulW (pe_op op_mulW (pe_op op_mulW pe_int (pv 3)) (pv 3)) (pv 3))))
      (pss_one (ps_ret (pe_cmpR op_eq (pv 1) (pe_op op_mulW (pe_op op_mulW pe_int (pv 2)) (pv 2)) (nomark _)))))))))), fun z ds C ⟨ns, e, l2, l5, sm, q⟩ => ?_⟩
  subst e
  have b4 : Bd 4 4 := bd_lit
  have b18 : Bd 18 18 := bd_lit
  have b27 : Bd 27 27 := bd_lit
  rcases ns with _ | ⟨c, _ | ⟨b, _ | ⟨a, _ | ⟨d, _ | ⟨e, _ | ⟨g, r⟩⟩⟩⟩⟩⟩
  · simp at l2
  · simp at l2
  · (repeat' (first | (guard_target =~ XS _ _ _ _ _; first | refine XS.seq ?_ | refine XS.ret ?_ | refine XS.ite ?_) | (guard_target =~ XE _ _ _ _ _; first | refine XE.var rfl ?_ | refine XE.int ?_ | refine XE.bl ?_ | refine XE.op dr_eq ?_ | refine XE.len1 ?_) | (guard_target =~ XT _ _ _ _ _; first | refine XT.test ?_) | refine go_len1 rfl ?_ | refine go_eq rfl rfl rfl ?_ | refine go_bl ?_))
    exact q
  · have bc : Bd 100 c := sm _ (by simp)
    have bb : Bd 100 b := sm _ (by simp)
    (repeat' (first | (guard_target =~ XS _ _ _ _ _; first | refine XS.next ?_ | refine XS.seq ?_ | refine XS.ret ?_ | refine XS.ite ?_) | (guard_target =~ XE _ _ _ _ _; first | refine XE.var rfl ?_ | refine XE.int ?_ | refine XE.op dr_I ?_ | refine XE.op dr_ixL ?_ | refine XE.op dr_eq ?_ | refine XE.len1 ?_) | (guard_target =~ XT _ _ _ _ _; first | refine XT.test ?_) | refine go_len1 rfl ?_ | refine go_I ?_ ?_ | refine go_ix rfl ?_ | refine go_eq rfl rfl rfl ?_ | refine go_bl ?_))
    any_goals first | exact bb.cm bb | exact b4.cm bc
    have e : decide (b * b = 4 * c) = decide (toldOf [c, b, a] = 0) := decide_eq_decide.mpr (by show _ ↔ b * b - 4 * c = 0; omega)
    rw [← e] at q
    exact q
  · have bc : Bd 100 c := sm _ (by simp)
    have bb : Bd 100 b := sm _ (by simp)
    have ba : Bd 100 a := sm _ (by simp)
    (repeat' (first | (guard_target =~ XS _ _ _ _ _; first | refine XS.next ?_ | refine XS.seq ?_ | refine XS.set ?_ | refine XS.ret ?_ | refine XS.ite ?_ | refine XS.asg ?_) | (guard_target =~ XE _ _ _ _ _; first | refine XE.var rfl ?_ | refine XE.int ?_ | refine XE.op dr_I0 ?_ | refine XE.op dr_I ?_ | refine XE.op dr_eq ?_ | refine XE.ofN (XN.sl ?_) | refine XE.len1 ?_) | (guard_target =~ XT _ _ _ _ _; first | refine XT.test ?_) | (guard_target =~ XO _ _ _ _ _; first | refine XO.no ?_ | refine XO.yes ?_) | (guard_target =~ XGs _ _ _ _ _ _; first | refine XGs.cons ?_ | refine XGs.nil ?_) | (guard_target =~ XG _ _ _ _ _ _; first | refine XG.name rfl ?_ | refine XG.unlG rfl ?_) | refine go_len1 rfl ?_ | refine go_I0 ?_ | refine go_I ?_ ?_ | refine go_eq rfl rfl rfl ?_ | refine go_int ?_ | refine go_lst ?_ | refine go_bl ?_))
    any_goals first | exact b18.cm ba | exact (b18.mul ba).cm bb | exact ((b18.mul ba).mul bb).cm bc | exact b4.cm ba | exact (b4.mul ba).cm ba | exact ((b4.mul ba).mul ba).cm ba | exact (((b4.mul ba).mul ba).mul ba).cm bc | exact ba.cm ba | exact (ba.mul ba).cm bb | exact ((ba.mul ba).mul bb).cm bb | exact b4.cm bb | exact (b4.mul bb).cm bb | exact ((b4.mul bb).mul bb).cm bb | exact b27.cm bc | exact (b27.mul bc).cm bc
    have e : decide (18 * a * b * c - 4 * a * a * a * c + a * a * b * b - 4 * b * b * b = 27 * c * c) = decide (toldOf [c, b, a, d] = 0) := decide_eq_decide.mpr (by show _ ↔ 18 * a * b * c - 4 * a * a * a * c + a * a * b * b - 4 * b * b * b - 27 * c * c = 0; omega)
    rw [← e] at q
    exact q
  · have bc : Bd 100 c := sm _ (by simp)
    have ba : Bd 100 a := sm _ (by simp)
    (repeat' (first | (guard_target =~ XS _ _ _ _ _; first | refine XS.next ?_ | refine XS.seq ?_ | refine XS.ret ?_ | refine XS.ite ?_ | refine XS.asg ?_) | (guard_target =~ XE _ _ _ _ _; first | refine XE.var rfl ?_ | refine XE.int ?_ | refine XE.op dr_eq ?_ | refine XE.ofN (XN.sl ?_) | refine XE.len1 ?_ | refine XE.orV ?_) | (guard_target =~ XT _ _ _ _ _; first | refine XT.test ?_) | (guard_target =~ XO _ _ _ _ _; first | refine XO.no ?_ | refine XO.yes ?_) | (guard_target =~ XGs _ _ _ _ _ _; first | refine XGs.cons ?_ | refine XGs.nil ?_) | (guard_target =~ XG _ _ _ _ _ _; first | refine XG.name rfl ?_ | refine XG.unlG rfl ?_) | refine go_len1 rfl ?_ | refine go_eq rfl rfl rfl ?_ | refine go_int ?_ | refine go_lst ?_ | refine go_bl ?_))
    have eo : (decide (c = 0) || decide (a * a = 4 * c)) = decide (toldOf [c, b, a, d, e] = 0) := by
      rw [← Bool.decide_or]
      refine decide_eq_decide.mpr ?_
      show _ ↔ c * (a * a - 4 * c) = 0
      rw [Int.mul_eq_zero]
      constructor
      · rintro (h | h)
        · exact .inl h
        · exact .inr (by omega)
      · rintro (h | h)
        · exact .inl h
        · exact .inr (by omega)
    refine ite2 (fun hc => ?_) (fun hc => ?_)
    · rw [← eo, show decide (c = 0) = true from hc] at q
      exact q
    · (repeat' (first | refine XE.var rfl ?_ | refine XE.int ?_ | refine XE.op dr_I ?_ | refine XE.op dr_eq ?_ | refine go_I ?_ ?_ | refine go_eq rfl rfl rfl ?_))
      any_goals first | exact ba.cm ba | exact b4.cm bc
      rw [← eo, show decide (c = 0) = false from by simpa using (show ¬ decide (c = 0) = true from hc)] at q
      exact q
  · simp at l5
end
end My

/-! ### walks: the law of polynomials as texts, b -/
namespace My
open PySem PySem.Spec PyProof.Rows L2
open C8 (Cal pe_c pe_gc InsC call_isC)
def faultD (f : Bool × Option Nat) : Dat := if f.1 = true then .lst [.str "done"] else .lst [.str "poly", optD f.2]
def farP (ns : List Int) (j : Nat) : Bool := decide (100 < (ns.getD j 0).natAbs)
def farN (ns : List Int) : List Nat := (List.range ns.length).filter (farP ns)
theorem atI_last' {α : Type} {l : List α} (h : 0 < l.length) : ∃ x, x ∈ l ∧ atI l (-1) = some x := by
  have e : ixN l.length (-1) = some (l.length - 1) := by
    unfold ixN
    rw [if_neg (by decide), if_pos (by omega)]
    congr 1
    omega
  exact ⟨l[l.length - 1], List.getElem_mem _, by unfold atI; rw [e]; exact List.getElem?_eq_getElem (by omega)⟩
theorem atI_map' {α β : Type} {f : α → β} {l : List α} {i : Int} {x : α} (h : atI l i = some x) : atI (l.map f) i = some (f x) := by
  unfold atI at *
  rw [List.length_map]
  cases e : ixN l.length i with
  | none => rw [e] at h; cases h
  | some j =>
    rw [e] at h
    have h' : l[j]? = some x := h
    show (l.map f)[j]? = _
    rw [List.getElem?_map, h']; rfl
theorem getD_at {ns : List Int} {j : Nat} (h : j < ns.length) : ns[j]? = some (ns.getD j 0) := by
  rw [List.getD_eq_getElem?_getD, List.getElem?_eq_getElem h]
  rfl
theorem atI_getD {ns : List Int} {j : Nat} (h : j < ns.length) : atI (ns.map Dat.int) (j : Int) = some (.int (ns.getD j 0)) := by
  refine atI_nat ?_
  rw [List.getElem?_map, getD_at h]
  rfl
theorem far_none {ns : List Int} (h : farN ns = []) : ∀ y ∈ ns, y.natAbs ≤ 100 := fun y hy => by
  obtain ⟨j, hj⟩ := List.getElem?_of_mem hy
  have l : j < ns.length := (List.getElem?_eq_some_iff.mp hj).1
  have h2 := List.filter_eq_nil_iff.mp h j (List.mem_range.mpr l)
  have h2 : ¬ decide (100 < (ns.getD j 0).natAbs) = true := h2
  rw [List.getD_eq_getElem?_getD, hj] at h2
  simpa using h2
theorem far_some {ns : List Int} {k : Nat} {r : List Nat} (h : farN ns = k :: r) : ∃ z, ns[k]? = some z ∧ 100 < z.natAbs ∧ ∀ j y, j < k → ns[j]? = some y → y.natAbs ≤ 100 := by
  have h1 : (farN ns).head? = some k := by rw [h]; rfl
  unfold farN at h1
  rw [List.head?_filter, List.find?_range_eq_some] at h1
  obtain ⟨hp, hk, hb⟩ := h1
  have l := List.mem_range.mp hk
  refine ⟨_, getD_at l, of_decide_eq_true hp, fun j y hj hy => ?_⟩
  have := hb j hj
  unfold farP at this
  rw [List.getD_eq_getElem?_getD, hy] at this
  simpa using this
theorem rngD_get {lo : Int} {n i : Nat} {d : Dat} (h : (rngD lo n)[i]? = some d) : i < n ∧ d = .int (lo + (i : Nat)) := by
  unfold rngD at h
  rw [List.getElem?_map] at h
  by_cases l : i < n
  · rw [List.getElem?_range l] at h
    exact ⟨l, (Option.some.inj h).symm⟩
  · rw [List.getElem?_eq_none (by rw [List.length_range]; omega)] at h; cases h
def W_Lfault : WpD := fun ds C => ∃ ns : List Int, ds = [nsD ns] ∧ ns.length ≤ 6 ∧ C (faultD (faultOf ns))
def W_Lpowers : WpD := fun ds C => ∃ ns : List Int, ds = [nsD ns] ∧ ns.length ≤ 6 ∧ (∀ n ∈ ns, n.natAbs < 1000) ∧ C (.str (powersL ns))
section
variable {c : Cs} {P : Program} {w : World} {K : PySem.W.Frag} {mg : Str → Option Value} {base : Heap}
abbrev s_Lfault : Stmt := top 49
abbrev N_Lfault : List Str := ["_law_some", "_law_far", "_law_place"]
abbrev P_Lfault : List Str := ["_law_some"]
theorem sc_Lfault : FnScope N_Lfault ["_law_some"] (defScope s_Lfault) := ⟨rfl, rfl, rfl, by decide +kernel, rfl, by decide +kernel, by decide +kernel⟩

theorem ok_Lfault (T : Txt K mg c) {f : Addr} {fd : FuncData} (F : L2.Fun K "_law_fault" "_law_fault" s_Lfault f fd) (h_Lalike_roots : Cal P w K mg base 1 "_law_alike_roots" (spD W_Lalike) []) : FnOk P w K mg base CX0 2 f fd P_Lfault (spD W_Lfault) := by
  refine okD F sc_Lfault (fun ds C ⟨_, e, _⟩ => by rw [e]; rfl) fun cdv A outer s H E hr => ⟨_, (pss_cons (ps_if (PW.pt (pw_or (pt_cmpR op_lt (pe_callB call_len_seq (by rfl) T.z_len (by decide +kernel) (pa_cons (pv 0) pa_nil)) pe_int (nomark _)) (pw_or1 (pt_cmpR op_gt (pe_callB call_len_seq (by rfl) T.z_len (by decide +kernel) (pa_cons (pv 0) pa_nil)) pe_int (nomark _))))) (pss_one (ps_ret (pe_lst (pa_cons pe_str (pa_cons pe_non pa_nil))))) pss_nil)
      (pss_cons (ps_setLc (i := 1) (own := [("_law_place", 2)]) (g := gName 2) (by rfl) sc_Lfault.nd rfl rfl (sw_true rfl rfl rfl (by decide +kernel)) (pi_range1 rfl T.z_range (pa_cons (pe_callB call_len_seq (by rfl) T.z_len (by decide +kernel) (pa_cons (pv 0) pa_nil)) pa_nil)) (blkOk_by (own := [("_law_place", 2)]) (N := N_Lfault) (sc := defScope s_Lfault) (by decide +kernel)) (fun _ _ _ _ _ => (pg_name (i := 2) sc_Lfault.nd rfl (by first | exact Or.inl rfl | exact Or.inr rfl))) (fun _ _ _ _ _ => (pts_one (pt_cmpR op_gt (pe_callB call_abs (by rfl) T.z_abs (by decide +kernel) (pa_cons (pe_ix (show IxR _ (rIxL K) from ix_list) (pv 0) (pv 2) (fun _ _ => rfl)) pa_nil)) pe_int (nomark _)))) (fun _ _ _ _ _ => (pv 2)))
      (pss_cons (ps_if (pt_cmpR (op_neD hr.units) (pv 1) (pe_lst pa_nil) (nomark _)) (pss_one (ps_ret (pe_lst (pa_cons pe_str (pa_cons (pe_ix ix_list (pv 1) pe_int (fun _ _ => rfl)) pa_nil))))) pss_nil)
      (pss_cons (ps_if (pt_cmpR op_ne (pe_ix ix_list (pv 0) (pe_un un_neg pe_int) (fun _ _ => rfl)) pe_int (nomark _)) (pss_one (ps_ret (pe_lst (pa_cons pe_str (pa_cons (pe_op op_sub (pe_callB call_len_seq (by rfl) T.z_len (by decide +kernel) (pa_cons (pv 0) pa_nil)) pe_int) pa_nil))))) pss_nil)
      (pss_cons (ps_for PassesOwn.never rfl (pi_list (pe_lst (pa_cons pe_int (pa_cons pe_int pa_nil)))) (pg_name (i := 2) sc_Lfault.nd rfl (by first | exact Or.inl rfl | exact Or.inr rfl)) (pss_one (ps_if (PW.pt (pw_and (pt_cmpR op_eq (pe_callB call_len_seq (by rfl) T.z_len (by decide +kernel) (pa_cons (pv 0) pa_nil)) pe_int (nomark _)) (pw_and1 (pt_cmpR op_ne (pe_ix ix_list (pv 0) (pv 2) (fun _ _ => rfl)) pe_int (nomark _))))) (pss_one (ps_ret (pe_lst (pa_cons pe_str (pa_cons (pv 2) pa_nil))))) pss_nil)))
      (pss_one (ps_ret (pe_ix ix_list (pe_lst (pa_cons (pe_lst (pa_cons pe_str pa_nil)) (pa_cons (pe_lst (pa_cons pe_str (pa_cons pe_non pa_nil))) pa_nil))) (pe_callTy call_int1 (by rfl) T.z_int (by decide +kernel) (pa_cons (pe_c h_Lalike_roots hr (by decide) rfl (pa_cons (pv 0) pa_nil)) pa_nil)) (fun _ _ => rfl))))))))), fun z ds C ⟨ns, e, l6, q⟩ => ?_⟩
  subst e
  have fin : ∀ {b : Bool} {C : Dat → Prop}, C (faultD (!b, none)) → (∃ i, [Dat.bl b] = [Dat.int i] ∧ dIx (.lst [.lst [.str "done"], .lst [.str "poly", .non]]) (.int i) C) ∨ ∃ k, [Dat.bl b] = [Dat.bl k] ∧ dIx (.lst [.lst [.str "done"], .lst [.str "poly", .non]]) (.int (if k = true then 1 else 0)) C := fun {b} {C} q => .inr ⟨b, rfl, by
    cases b with
    | true => exact go_ix (j := 1) rfl q
    | false => exact go_ix (j := 0) rfl q⟩
  have tn : decide (toldOf ns ≠ 0) = !decide (toldOf ns = 0) := decide_not
  have el : (List.map Dat.int ns).length = ns.length := List.length_map ..
  (repeat' (first | (guard_target =~ XS _ _ _ _ _; first | refine XS.seq ?_ | refine XS.ite ?_) | (guard_target =~ XE _ _ _ _ _; first | refine XE.var rfl ?_ | refine XE.int ?_ | refine XE.op dr_I0 ?_ | refine XE.len1 ?_) | (guard_target =~ XT _ _ _ _ _; first | refine XT.test ?_ | refine XT.or ?_) | refine go_len1 rfl ?_ | refine go_I0 ?_ | refine go_bl ?_))
  rw [el]
  refine ite2 (fun h1 => ?_) (fun h1 => ?_)
  · have h1 := of_decide_eq_true h1
    (repeat' (first | refine XS.ret ?_ | refine XE.str ?_ | refine XE.non ?_ | refine XE.ofN (XN.lst ?_) | refine XA.nil ?_ | refine XA.cons ?_ | refine go_len rfl ?_))
    rw [fault_len (.inl (by omega))] at q
    exact q
  have h1 : ¬ (ns.length : Int) < 2 := fun h => h1 (decide_eq_true h)
  (repeat' (first | refine XE.var rfl ?_ | refine XE.int ?_ | refine XE.op dr_I0 ?_ | refine XE.len1 ?_ | refine XT.test ?_ | refine go_len1 rfl ?_ | refine go_I0 ?_ | refine go_bl ?_))
  rw [el]
  refine ite2 (fun h2 => ?_) (fun h2 => ?_)
  · have h2 := of_decide_eq_true h2
    (repeat' (first | refine XS.ret ?_ | refine XE.str ?_ | refine XE.non ?_ | refine XE.ofN (XN.lst ?_) | refine XA.nil ?_ | refine XA.cons ?_ | refine go_len rfl ?_))
    rw [fault_len (.inr (by omega))] at q
    exact q
  have h2 : ¬ (5 : Int) < ns.length := fun h => h2 (decide_eq_true h)
  have h12 : ¬ (ns.length < 2 ∨ 5 < ns.length) := by omega
  (repeat' (first | refine XS.next ?_ | refine XS.seq ?_ | refine XS.set ?_))
  refine XE.ofN (XN.lc (XI.rng1 ?_))
  (repeat' (first | refine XE.var rfl ?_ | refine XE.len1 ?_ | refine XA.nil ?_ | refine XA.cons ?_ | refine go_len1 rfl ?_ | refine go_rg1 ?_ ?_))
  · rw [el]; omega
  rw [el]
  have er : (0 : Int) + (ns.length : Int) - 0 = ns.length := by omega
  refine ⟨fun k acc m => acc = (((List.range k).filter (farP ns)).map fun j => Dat.int (j : Nat)) ∧ m = 0, ⟨rfl, rfl⟩, fun k d acc m2 hi ⟨e1, e2⟩ => ?_, fun acc m2 ⟨e1, e2⟩ => ?_⟩
  · subst e2
    obtain ⟨hk, rfl⟩ := rngD_get hi
    have hk : k < ns.length := by omega
    rw [Int.zero_add]
    (repeat' (first | refine XE.var rfl ?_ | refine XE.op dr_I0 ?_ | refine XE.op dr_ixL ?_ | refine XE.cb db_abs ?_ | refine XA.cons ?_ | refine XT.test ?_ | refine XG.name rfl ?_))
    refine go_ix (atI_getD hk) ?_
    (repeat' (first | refine XA.nil ?_))
    refine ⟨_, rfl, ?_⟩
    (repeat' (first | refine XE.int ?_ | refine go_I0 ?_ | refine go_bl ?_))
    have ec : decide ((100 : Int) < if ns.getD k 0 < 0 then -ns.getD k 0 else ns.getD k 0) = farP ns k := decide_eq_decide.mpr (by omega)
    rw [ec]
    have es : (List.range (k + 1)).filter (farP ns) = (List.range k).filter (farP ns) ++ (if farP ns k = true then [k] else []) := by
      rw [List.range_succ, List.filter_append]
      congr 1
      rw [List.filter_cons]
      rfl
    refine ite2 (fun hc => ?_) (fun hc => ?_)
    · (repeat' (first | refine XE.var rfl ?_))
      rw [if_pos hc] at es
      refine ⟨?_, ?_, rfl⟩
      · rw [e1, List.length_map]
        have := List.length_filter_le (farP ns) (List.range k)
        rw [List.length_range] at this
        omega
      · rw [es, e1, List.map_append]
        rfl
    · rw [if_neg hc, List.append_nil] at es
      exact ⟨by rw [e1, es], rfl⟩
  · subst e2
    have e1 : acc = ((farN ns).map fun j => ((j : Nat) : Int)).map Dat.int := by
      rw [e1, List.map_map]
      have : (rngD 0 (ns.length : Int).toNat).length = ns.length := by unfold rngD; rw [List.length_map, List.length_range]; omega
      rw [this]
      rfl
    rw [e1]
    (repeat' (first | refine XS.seq ?_ | refine XS.ite ?_ | refine XE.var rfl ?_ | refine XE.op dr_neD ?_ | refine XE.ofN (XN.lst ?_) | refine XA.nil ?_ | refine XT.test ?_ | refine go_len rfl ?_))
    refine go_neD (cmp_ns _) (cmp_ns []) ?_
    rw [show eqD (Dat.lst (((farN ns).map fun j => ((j : Nat) : Int)).map Dat.int)) (Dat.lst []) = decide ((farN ns).map (fun j => ((j : Nat) : Int)) = []) from eqD_ns _ []]
    cases ef : farN ns with
    | cons k r =>
      (repeat' (first | refine XS.ret ?_ | refine XE.var rfl ?_ | refine XE.int ?_ | refine XE.str ?_ | refine XE.op dr_ixL ?_ | refine XE.ofN (XN.lst ?_) | refine XA.cons ?_ | refine go_bl ?_))
      refine go_ix (j := 0) (x := Dat.int (k : Nat)) (atI_nat (j := 0) rfl) ?_
      (repeat' (first | refine XA.nil ?_ | refine go_len rfl ?_))
      obtain ⟨y, hy, h100, hs⟩ := far_some ef
      rw [fault_big h12 hy h100 hs] at q
      exact q
    | nil =>
      have sm := far_none ef
      rw [fault_small h12 sm] at q
      unfold fault3 at q
      rw [tn] at q
      clear tn
      obtain ⟨x, _, hx⟩ := atI_last' (l := ns) (by omega)
      rw [hx] at q
      (repeat' (first | (guard_target =~ XS _ _ _ _ _; first | refine XS.next ?_ | refine XS.seq ?_ | refine XS.ite ?_) | (guard_target =~ XE _ _ _ _ _; first | refine XE.var rfl ?_ | refine XE.int ?_ | refine XE.op dr_ixL ?_ | refine XE.op dr_ne ?_ | refine XE.unI ?_) | (guard_target =~ XT _ _ _ _ _; first | refine XT.test ?_) | refine go_un ?_ | refine go_bl ?_))
      refine go_ix (atI_map' hx) ?_
      (repeat' (first | refine XE.int ?_ | refine go_ne rfl rfl rfl ?_ | refine go_bl ?_))
      refine ite2 (fun hc => ?_) (fun hc => ?_)
      · have hc : ¬ some x = some 1 := fun h => by
          cases h
          exact absurd hc (by decide)
        rw [if_pos hc] at q
        (repeat' (first | (guard_target =~ XS _ _ _ _ _; first | refine XS.ret ?_) | (guard_target =~ XE _ _ _ _ _; first | refine XE.var rfl ?_ | refine XE.int ?_ | refine XE.str ?_ | refine XE.op dr_I0 ?_ | refine XE.ofN (XN.lst ?_) | refine XE.len1 ?_) | (guard_target =~ XA _ _ _ _ _; first | refine XA.nil ?_ | refine XA.cons ?_) | refine go_len1 rfl ?_ | refine go_I0 ?_ | refine go_len rfl ?_))
        rw [el]
        have e3 : ((ns.length : Int) - 1) = ((ns.length - 1 : Nat) : Int) := by omega
        rw [e3]
        exact q
      have x1 : x = 1 := Classical.byContradiction fun h => hc (by
        show (!decide (x = 1)) = true
        rw [decide_eq_false h]
        rfl)
      rw [if_neg (by rw [x1]; simp)] at q
      (repeat' (first | refine XS.next ?_ | refine XS.seq ?_))
      refine XS.forU (XI.list ?_)
      (repeat' (first | refine XE.int ?_ | refine XE.ofN (XN.lst ?_) | refine XA.nil ?_ | refine XA.cons ?_ | refine go_len rfl ?_ | refine go_lst ?_))
      refine XFor.cons ?_
      (repeat' (first | (guard_target =~ XS _ _ _ _ _; first | refine XS.ite ?_) | (guard_target =~ XE _ _ _ _ _; first | refine XE.var rfl ?_ | refine XE.int ?_ | refine XE.op dr_eq ?_ | refine XE.len1 ?_) | (guard_target =~ XT _ _ _ _ _; first | refine XT.test ?_ | refine XT.and ?_) | (guard_target =~ XG _ _ _ _ _ _; first | refine XG.name rfl ?_) | refine go_len1 rfl ?_ | refine go_eq rfl rfl rfl ?_ | refine go_bl ?_))
      rw [el]
      by_cases h5 : ns.length = 5
      · rw [show eqS (.int (ns.length : Nat)) (.int 5) = true from decide_eq_true (by omega)]
        rcases ns with _ | ⟨n0, _ | ⟨n1, _ | ⟨n2, _ | ⟨n3, _ | ⟨n4, _ | ⟨n5, r⟩⟩⟩⟩⟩⟩
        all_goals first | (exfalso; simp at h5; done) | (exfalso; simp at h12; done) | skip
        (repeat' (first | refine XE.var rfl ?_ | refine XE.int ?_ | refine XE.op dr_ixL ?_ | refine XE.op dr_ne ?_ | refine XT.test ?_ | refine go_ix rfl ?_ | refine go_ne rfl rfl rfl ?_ | refine go_bl ?_))
        refine ite2 (fun hc => ?_) (fun hc => ?_)
        · have hn : n1 ≠ 0 := fun h => by
            rw [h] at hc
            exact absurd hc (by decide)
          rw [if_pos ⟨rfl, fun h => hn (Option.some.inj h)⟩] at q
          (repeat' (first | refine XS.ret ?_ | refine XE.var rfl ?_ | refine XE.str ?_ | refine XE.ofN (XN.lst ?_) | refine XA.nil ?_ | refine XA.cons ?_ | refine go_len rfl ?_))
          exact q
        have e1 : n1 = 0 := Classical.byContradiction fun h => hc (by
          show (!decide (n1 = 0)) = true
          rw [decide_eq_false h]
          rfl)
        rw [if_neg (fun h => h.2 (congrArg some e1))] at q
        (repeat' (first | refine XS.next ?_))
        refine XFor.cons ?_
        (repeat' (first | (guard_target =~ XS _ _ _ _ _; first | refine XS.ite ?_) | (guard_target =~ XE _ _ _ _ _; first | refine XE.var rfl ?_ | refine XE.int ?_ | refine XE.op dr_ixL ?_ | refine XE.op dr_eq ?_ | refine XE.op dr_ne ?_ | refine XE.len1 ?_) | (guard_target =~ XT _ _ _ _ _; first | refine XT.test ?_ | refine XT.and ?_) | (guard_target =~ XG _ _ _ _ _ _; first | refine XG.name rfl ?_) | refine go_len1 rfl ?_ | refine go_ix rfl ?_ | refine go_eq rfl rfl rfl ?_ | refine go_ne rfl rfl rfl ?_ | refine go_bl ?_))
        refine ite2 (fun hc => ?_) (fun hc => ?_)
        · have hn : n3 ≠ 0 := fun h => by
            rw [h] at hc
            exact absurd hc (by decide)
          rw [if_pos ⟨rfl, fun h => hn (Option.some.inj h)⟩] at q
          (repeat' (first | refine XS.ret ?_ | refine XE.var rfl ?_ | refine XE.str ?_ | refine XE.ofN (XN.lst ?_) | refine XA.nil ?_ | refine XA.cons ?_ | refine go_len rfl ?_))
          exact q
        have e3 : n3 = 0 := Classical.byContradiction fun h => hc (by
          show (!decide (n3 = 0)) = true
          rw [decide_eq_false h]
          rfl)
        rw [if_neg (fun h => h.2 (congrArg some e3))] at q
        (repeat' (first | refine XS.next ?_))
        refine XFor.nil ?_
        (repeat' (first | (guard_target =~ XS _ _ _ _ _; first | refine XS.ret ?_) | (guard_target =~ XE _ _ _ _ _; first | refine XE.var rfl ?_ | refine XE.str ?_ | refine XE.non ?_ | refine XE.op dr_ixL ?_ | refine XE.ofN (XN.lst ?_) | refine XE.cb db_int1 ?_ | refine XE.call ?_) | (guard_target =~ XA _ _ _ _ _; first | refine XA.nil ?_ | refine XA.cons ?_) | refine go_len rfl ?_))
        refine ⟨_, rfl, by omega, by omega, sm, ?_⟩
        (repeat' (first | refine XA.nil ?_))
        exact fin q
      · rw [show eqS (.int (ns.length : Nat)) (.int 5) = false from decide_eq_false (by omega)]
        rw [if_neg (fun h => h5 h.1), if_neg (fun h => h5 h.1)] at q
        (repeat' (first | refine XS.next ?_))
        refine XFor.cons ?_
        (repeat' (first | (guard_target =~ XS _ _ _ _ _; first | refine XS.ite ?_) | (guard_target =~ XE _ _ _ _ _; first | refine XE.var rfl ?_ | refine XE.int ?_ | refine XE.op dr_eq ?_ | refine XE.len1 ?_) | (guard_target =~ XT _ _ _ _ _; first | refine XT.test ?_ | refine XT.and ?_) | (guard_target =~ XG _ _ _ _ _ _; first | refine XG.name rfl ?_) | refine go_len1 rfl ?_ | refine go_eq rfl rfl rfl ?_ | refine go_bl ?_))
        rw [el, show eqS (.int (ns.length : Nat)) (.int 5) = false from decide_eq_false (by omega)]
        (repeat' (first | refine XS.next ?_))
        refine XFor.nil ?_
        (repeat' (first | (guard_target =~ XS _ _ _ _ _; first | refine XS.ret ?_) | (guard_target =~ XE _ _ _ _ _; first | refine XE.var rfl ?_ | refine XE.str ?_ | refine XE.non ?_ | refine XE.op dr_ixL ?_ | refine XE.ofN (XN.lst ?_) | refine XE.cb db_int1 ?_ | refine XE.call ?_) | (guard_target =~ XA _ _ _ _ _; first | refine XA.nil ?_ | refine XA.cons ?_) | refine go_len rfl ?_))
        refine ⟨ns, rfl, by omega, by omega, sm, ?_⟩
        (repeat' (first | refine XA.nil ?_))
        exact fin q
end
end My

/-! ### walks: the law of polynomials as texts, c -/
namespace My
open PySem PySem.Spec PyProof.Rows L2
open C8 (Cal pe_c pe_gc InsC call_isC)
abbrev natT (n : Nat) : Str := ((toString (n : Int) : String) : Str)
theorem natT_one {n : Nat} : natT n = "1" ↔ n = 1 := ⟨fun h => by
  have e := congrArg cp h
  rw [cp_nat, cp_1] at e
  have e2 := congrArg PySem.NumText.digitsVal e
  rw [digs_val, digs_val] at e2
  omega, fun h => by rw [h]; exact cp_ext (by rw [cp_nat, cp_1])⟩
theorem sumI_next {ns : List Int} {i j : Nat} (hj : j = ns.length - 1 - i) : sumT0 (selI ns (i + 1)) = if ns.getD j 0 = 0 then sumT0 (selI ns i) else stepT (sumT0 (selI ns i)) (ns.getD j 0, 1) (prodX j) := by
  rw [selI_succ, ← hj]
  unfold oneX
  split
  · rw [List.append_nil]
  · unfold sumT0
    rw [List.foldl_append]
    rfl
/-- the law's text of one power -/
def lawT (a j : Nat) : Str := if j = 0 then natT a else (if a = 1 then ("x" : Str) else natT a ++ ("*x" : Str)) ++ (if 1 < j then ("^" : Str) ++ natT j else "")
theorem lawT_share (a j : Nat) : lawT a j = shareT ((a : Int), 1) (prodX j) := by
  refine cp_ext ?_
  have ex : cp ("x" : Str) = [120] := cp_lit (by decide +kernel)
  have es : cp ("*x" : Str) = [42, 120] := cp_lit (by decide +kernel)
  have eh : cp ("^" : Str) = [94] := cp_lit (by decide +kernel)
  rw [cp_share, cp_prodX]
  unfold lawT
  by_cases h0 : j = 0
  · rw [if_pos h0, if_pos h0, cp_nat]
  · rw [if_neg h0, if_neg h0, if_neg h0, cp_app]
    have e2 : cp (if 1 < j then ("^" : Str) ++ natT j else "") = if j = 1 then [] else 94 :: digs j := by
      by_cases h1 : j = 1
      · rw [if_neg (by omega), if_pos h1]; exact cp_e
      · rw [if_pos (by omega), if_neg h1, cp_app, eh, cp_nat]; rfl
    rw [e2]
    by_cases ha : a = 1
    · rw [if_pos ha, if_pos ha, ex]
      by_cases h1 : j = 1
      · rw [if_pos h1, if_pos h1]; rfl
      · rw [if_neg h1, if_neg h1]; rfl
    · rw [if_neg ha, if_neg ha, cp_app, cp_nat, es]
      by_cases h1 : j = 1
      · rw [if_pos h1, if_pos h1]; simp
      · rw [if_neg h1, if_neg h1]; simp
theorem digs_len3 {a : Nat} (h : a < 1000) : (digs a).length ≤ 3 := by
  have : ∀ n, n < 1000 → (digs n).length ≤ 3 := by decide +kernel
  exact this a h
theorem natT_len {a : Nat} (h : a < 1000) : (natT a).length ≤ 3 := by
  rw [cp_len, cp_nat]; exact digs_len3 h
theorem lawT_len {a j : Nat} (ha : a < 1000) (hj : j < 1000) : (lawT a j).length ≤ 9 := by
  have h1 := natT_len ha
  have h2 := natT_len hj
  have ex : ("x" : Str).length = 1 := by decide +kernel
  have es : ("*x" : Str).length = 2 := by decide +kernel
  have eh : ("^" : Str).length = 1 := by decide +kernel
  have ee : ("" : Str).length = 0 := by decide +kernel
  unfold lawT
  split
  · omega
  · rw [Str.length_append]
    have : (if a = 1 then ("x" : Str) else natT a ++ ("*x" : Str)).length ≤ 5 := by
      split
      · omega
      · rw [Str.length_append]; omega
    have : (if 1 < j then ("^" : Str) ++ natT j else "").length ≤ 4 := by
      split
      · rw [Str.length_append]; omega
      · omega
    omega
theorem sumI_len {ns : List Int} {i : Nat} (hi : i ≤ ns.length) (l6 : ns.length ≤ 6) (hb : ∀ n ∈ ns, n.natAbs < 1000) : (sumT0 (selI ns i)).length ≤ 12 * i := by
  induction i with
  | zero => exact Nat.le_of_eq (by show ("" : Str).length = 0; decide +kernel)
  | succ i ih =>
    have ih := ih (by omega)
    rw [sumI_next rfl]
    split
    · omega
    · have hj : ns.length - 1 - i < ns.length := by omega
      have hm : (ns.getD (ns.length - 1 - i) 0).natAbs < 1000 := hb _ (List.mem_of_getElem? (getD_at hj))
      have hl := lawT_len hm (show ns.length - 1 - i < 1000 by omega)
      rw [lawT_share] at hl
      have n1 : ("-" : Str).length = 1 := by decide +kernel
      have n2 : (" - " : Str).length = 3 := by decide +kernel
      have n3 : (" + " : Str).length = 3 := by decide +kernel
      unfold stepT
      rw [show (absT (ns.getD (ns.length - 1 - i) 0), (ns.getD (ns.length - 1 - i) 0, (1 : Int)).2) = (((ns.getD (ns.length - 1 - i) 0).natAbs : Int), (1 : Int)) from abs_pair _]
      split
      · rw [Str.length_append]; omega
      · split
        · omega
        · split
          · rw [Str.length_append, Str.length_append]; omega
          · rw [Str.length_append, Str.length_append]; omega
theorem go_pickS {b : Bool} {x y : Str} {C : Dat → Prop} (c : C (.str (if b = true then y else x))) : (∃ i, [Dat.bl b] = [Dat.int i] ∧ dIx (.lst [.str x, .str y]) (.int i) C) ∨ ∃ k, [Dat.bl b] = [Dat.bl k] ∧ dIx (.lst [.str x, .str y]) (.int (if k = true then 1 else 0)) C := .inr ⟨b, rfl, by
  cases b with
  | true => exact go_ix (j := 1) rfl c
  | false => exact go_ix (j := 0) rfl c⟩
theorem ifS {f a b : Str} : (if f = "" then a else b) = if eqS (.str f) (.str "") = true then a else b := by
  by_cases h : f = ""
  · rw [if_pos h]
    exact (if_pos (show decide (f = "") = true from decide_eq_true h)).symm
  · rw [if_neg h]
    exact (if_neg (fun z => h (of_decide_eq_true (show decide (f = "") = true from z)))).symm
section
variable {c : Cs} {P : Program} {w : World} {K : PySem.W.Frag} {mg : Str → Option Value} {base : Heap}
abbrev s_Lpowers : Stmt := top 50
abbrev N_Lpowers : List Str := ["_law_some", "_law_found", "_law_power", "_law_text"]
abbrev P_Lpowers : List Str := ["_law_some"]
theorem sc_Lpowers : FnScope N_Lpowers ["_law_some"] (defScope s_Lpowers) := ⟨rfl, rfl, rfl, by decide +kernel, rfl, by decide +kernel, by decide +kernel⟩

theorem ok_Lpowers (T : Txt K mg c) {f : Addr} {fd : FuncData} (F : L2.Fun K "_law_powers" "_law_powers" s_Lpowers f fd) : FnOk P w K mg base CX0 1 f fd P_Lpowers (spD W_Lpowers) := by
  refine okD F sc_Lpowers (fun ds C ⟨_, e, _⟩ => by rw [e]; rfl) fun cdv A outer s H E hr => ⟨_, (pss_cons (ps_set (i := 1) sc_Lpowers.nd rfl (by first | exact Or.inl rfl | exact Or.inr rfl) pe_str)
      (pss_cons (ps_for PassesOwn.never rfl (pi_range3 rfl T.z_range (pa_cons (pe_op op_sub (pe_callB call_len_seq (by rfl) T.z_len (by decide +kernel) (pa_cons (pv 0) pa_nil)) pe_int) (pa_cons (pe_un un_neg pe_int) (pa_cons (pe_un un_neg pe_int) pa_nil)))) (pg_name (i := 2) sc_Lpowers.nd rfl (by first | exact Or.inl rfl | exact Or.inr rfl)) (pss_cons (ps_set (i := 3) sc_Lpowers.nd rfl (by first | exact Or.inl rfl | exact Or.inr rfl) (pe_callTy call_str_int (by rfl) T.z_str (by decide +kernel) (pa_cons (pe_callB call_abs (by rfl) T.z_abs (by decide +kernel) (pa_cons (pe_ix ix_list (pv 0) (pv 2) (fun _ _ => rfl)) pa_nil)) pa_nil)))
      (pss_cons (ps_if (pt_cmpR op_gt (pv 2) pe_int (nomark _)) (pss_one (ps_set (i := 3) sc_Lpowers.nd rfl (by first | exact Or.inl rfl | exact Or.inr rfl) (pe_op op_add_str (pe_ix ix_list (pe_lst (pa_cons (pe_op op_add_str (pv 3) pe_str) (pa_cons pe_str pa_nil))) (pe_callTy call_int1 (by rfl) T.z_int (by decide +kernel) (pa_cons (pe_cmpR op_eq (pv 3) pe_str (nomark _)) pa_nil)) (fun _ _ => rfl)) (pe_ix ix_list (pe_lst (pa_cons pe_str (pa_cons (pe_op op_add_str pe_str (pe_callTy call_str_int (by rfl) T.z_str (by decide +kernel) (pa_cons (pv 2) pa_nil))) pa_nil))) (pe_callTy call_int1 (by rfl) T.z_int (by decide +kernel) (pa_cons (pe_cmpR op_gt (pv 2) pe_int (nomark _)) pa_nil)) (fun _ _ => rfl))))) pss_nil)
      (pss_one (ps_if (pt_cmpR op_lt (pe_ix ix_list (pv 0) (pv 2) (fun _ _ => rfl)) pe_int (nomark _)) (pss_one (ps_set (i := 1) sc_Lpowers.nd rfl (by first | exact Or.inl rfl | exact Or.inr rfl) (pe_ix ix_list (pe_lst (pa_cons (pe_op op_add_str (pe_op op_add_str (pv 1) pe_str) (pv 3)) (pa_cons (pe_op op_add_str pe_str (pv 3)) pa_nil))) (pe_callTy call_int1 (by rfl) T.z_int (by decide +kernel) (pa_cons (pe_cmpR op_eq (pv 1) pe_str (nomark _)) pa_nil)) (fun _ _ => rfl)))) (pss_one (ps_if (pt_cmpR op_gt (pe_ix ix_list (pv 0) (pv 2) (fun _ _ => rfl)) pe_int (nomark _)) (pss_one (ps_set (i := 1) sc_Lpowers.nd rfl (by first | exact Or.inl rfl | exact Or.inr rfl) (pe_ix ix_list (pe_lst (pa_cons (pe_op op_add_str (pe_op op_add_str (pv 1) pe_str) (pv 3)) (pa_cons (pv 3) pa_nil))) (pe_callTy call_int1 (by rfl) T.z_int (by decide +kernel) (pa_cons (pe_cmpR op_eq (pv 1) pe_str (nomark _)) pa_nil)) (fun _ _ => rfl)))) pss_nil)))))))
      (pss_one (ps_ret (pv 1))))), fun z ds C ⟨ns, e, l6, sm, q⟩ => ?_⟩
  subst e
  have sl := sizeLine_eq
  (repeat' (first | refine XS.seq ?_ | refine XS.set ?_ | refine XE.str ?_))
  refine XS.for (XI.rng3 ?_)
  (repeat' (first | refine XE.var rfl ?_ | refine XE.int ?_ | refine XE.op dr_I0 ?_ | refine XE.unI ?_ | refine XE.len1 ?_ | refine XA.nil ?_ | refine XA.cons ?_ | refine go_len1 rfl ?_ | refine go_I0 ?_ | refine go_un ?_))
  rw [List.length_map]
  refine go_rg3 (RgC.neg (i := (ns.length : Int) - 1) (j := -1) (by omega) (by omega) (by decide) (by decide)) ?_
  have en : ((ns.length : Int) - 1 - -1).toNat = ns.length := by omega
  rw [en]
  refine ⟨fun i g m => (∃ s2 s3, g = [.dt (nsD ns), .dt (.str (sumT0 (selI ns i))), s2, s3]) ∧ m = 0, ⟨⟨_, _, rfl⟩, rfl⟩, fun i d g2 m2 hi ⟨⟨s2, s3, e1⟩, e2⟩ => ?_, fun g2 m2 ⟨⟨s2, s3, e1⟩, e2⟩ => ?_⟩
  · subst e1 e2
    obtain ⟨hi, rfl⟩ := rngC_get hi
    have ej : (ns.length : Int) - 1 + (i : Nat) * -1 = ((ns.length - 1 - i : Nat) : Int) := by omega
    rw [ej]
    obtain ⟨j, ejj⟩ : ∃ j, j = ns.length - 1 - i := ⟨_, rfl⟩
    have es := sumI_next ejj
    have fl := sumI_len (i := i) (by omega) l6 sm
    rw [← ejj]
    have hj : j < ns.length := by omega
    have hix := atI_getD hj
    have hb := sm _ (List.mem_of_getElem? (getD_at hj))
    generalize ns.getD j 0 = n at hix hb es
    generalize sumT0 (selI ns i) = fo at fl es ⊢
    (repeat' (first | refine XS.seq ?_ | refine XS.set ?_ | refine XE.var rfl ?_ | refine XE.op dr_ixL ?_ | refine XE.cb db_abs ?_ | refine XE.cb db_strI ?_ | refine XA.cons ?_ | refine XG.name rfl ?_))
    refine go_ix hix ?_
    (repeat' (first | refine XA.nil ?_))
    refine ⟨n, rfl, ?_⟩
    have ea : (if n < 0 then -n else n) = ((n.natAbs : Nat) : Int) := by omega
    rw [ea]
    have la : ((toString ((n.natAbs : Nat) : Int) : String) : Str).length ≤ 3 := natT_len hb
    have hlog : ((n.natAbs : Nat) : Int).natAbs.log2 < 1920 := log64 (by omega)
    have hlogj : ((j : Nat) : Int).natAbs.log2 < 1920 := log64 (by omega)
    have hlt := lawT_len hb (show j < 1000 by omega)
    have ep := abs_pair n
    have el := lawT_share n.natAbs j
    have ex : ("x" : Str).length = 1 := by decide +kernel
    have e2x : ("*x" : Str).length = 2 := by decide +kernel
    have eh : ("^" : Str).length = 1 := by decide +kernel
    have lj : ((toString ((j : Nat) : Int) : String) : Str).length ≤ 3 := natT_len (show j < 1000 by omega)
    have n1 : ("-" : Str).length = 1 := by decide +kernel
    have n2 : (" - " : Str).length = 3 := by decide +kernel
    have n3 : (" + " : Str).length = 3 := by decide +kernel
    (repeat' (first | refine XS.seq ?_ | refine XS.ite ?_ | refine XE.var rfl ?_ | refine XE.int ?_ | refine XE.op dr_I0 ?_ | refine XA.nil ?_ | refine XT.test ?_ | refine go_strI ?_ ?_ | refine go_I0 ?_ | refine go_bl ?_))
    · exact hlog
    refine ite2 (fun hc => ?_) (fun hc => ?_)
    · have j0 : j ≠ 0 := by have := of_decide_eq_true hc; omega
      (repeat' (first | (guard_target =~ XS _ _ _ _ _; first | refine XS.set ?_) | (guard_target =~ XE _ _ _ _ _; first | refine XE.var rfl ?_ | refine XE.str ?_ | refine XE.op dr_ixL ?_ | refine XE.op dr_eq ?_ | refine XE.ofN (XN.lst ?_) | refine XE.cb db_int1 ?_ | refine XE.op dr_addS ?_) | (guard_target =~ XA _ _ _ _ _; first | refine XA.nil ?_ | refine XA.cons ?_) | refine go_addS ?_ ?_ | refine go_eq rfl rfl rfl ?_ | refine go_len rfl ?_))
      · omega
      refine go_pickS ?_
      (repeat' (first | (guard_target =~ XE _ _ _ _ _; first | refine XE.var rfl ?_ | refine XE.int ?_ | refine XE.str ?_ | refine XE.op dr_I0 ?_ | refine XE.op dr_ixL ?_ | refine XE.ofN (XN.lst ?_) | refine XE.cb db_int1 ?_ | refine XE.op dr_addS ?_ | refine XE.cb db_strI ?_) | (guard_target =~ XA _ _ _ _ _; first | refine XA.nil ?_ | refine XA.cons ?_) | refine go_addS ?_ ?_ | refine go_strI ?_ ?_ | refine go_I0 ?_ | refine go_len rfl ?_))
      · exact hlogj
      · omega
      refine go_pickS ?_
      have e5 : (if eqS (Dat.str (natT n.natAbs)) (Dat.str "1") = true then ("x" : Str) else natT n.natAbs ++ ("*x" : Str)) ++ (if decide ((1 : Int) < (j : Nat)) = true then ("^" : Str) ++ natT j else "") = lawT n.natAbs j := by
        rw [show eqS (Dat.str (natT n.natAbs)) (Dat.str "1") = decide (natT n.natAbs = "1") from rfl]
        unfold lawT
        rw [if_neg j0]
        congr 1
        · by_cases h : n.natAbs = 1
          · rw [if_pos (decide_eq_true (natT_one.mpr h)), if_pos h]
          · rw [if_neg (fun z => h (natT_one.mp (of_decide_eq_true z))), if_neg h]
        · by_cases h : 1 < j
          · rw [if_pos (decide_eq_true (by omega)), if_pos h]
          · rw [if_neg (fun z => h (by have := of_decide_eq_true z; omega)), if_neg h]
      refine go_addS ?_ ?_
      · rw [← Str.length_append]
        refine Nat.le_trans (Nat.le_of_eq (congrArg Str.length e5)) ?_
        omega
      rw [e5]
      generalize lawT n.natAbs j = tx at hlt el ⊢
      have fin : ∀ {s3 : Sl}, (∃ s2' s3', [Sl.dt (nsD ns), Sl.dt (.str (if n = 0 then fo else stepT fo (n, 1) (prodX j))), .dt (.int (j : Nat)), s3] = [Sl.dt (nsD ns), .dt (.str (sumT0 (selI ns (i + 1)))), s2', s3']) ∧ (0 : Nat) = 0 := ⟨⟨_, _, by rw [es]⟩, rfl⟩
      (repeat' (first | refine XS.ite ?_ | refine XE.var rfl ?_ | refine XE.op dr_I0 ?_ | refine XE.op dr_ixL ?_ | refine XT.test ?_))
      refine go_ix hix ?_
      (repeat' (first | refine XE.int ?_ | refine go_I0 ?_ | refine go_bl ?_))
      refine ite2 (fun hn => ?_) (fun hn => ?_)
      · have hn := of_decide_eq_true hn
        have est : (if n = 0 then fo else stepT fo (n, 1) (prodX j)) = if fo = "" then ("-" : Str) ++ tx else (fo ++ (" - " : Str)) ++ tx := by
          rw [if_neg (by omega)]
          unfold stepT
          rw [ep, ← el]
          by_cases hf : fo = ""
          · rw [if_pos ⟨hf, hn⟩, if_pos hf]
          · rw [if_neg (fun h => hf h.1), if_neg hf, if_pos hn, if_neg hf]
        rw [est] at fin
        (repeat' (first | (guard_target =~ XS _ _ _ _ _; first | refine XS.set ?_) | (guard_target =~ XE _ _ _ _ _; first | refine XE.var rfl ?_ | refine XE.str ?_ | refine XE.op dr_ixL ?_ | refine XE.op dr_eq ?_ | refine XE.ofN (XN.lst ?_) | refine XE.cb db_int1 ?_ | refine XE.op dr_addS ?_) | (guard_target =~ XA _ _ _ _ _; first | refine XA.nil ?_ | refine XA.cons ?_) | refine go_addS ?_ ?_ | refine go_eq rfl rfl rfl ?_ | refine go_len rfl ?_))
        · omega
        · rw [Str.length_append]; omega
        · omega
        refine go_pickS ?_
        skip
        rw [ifS] at fin
        exact fin
      have hn : ¬ n < 0 := fun h => hn (decide_eq_true h)
      (repeat' (first | refine XS.ite ?_ | refine XE.var rfl ?_ | refine XE.op dr_I0 ?_ | refine XE.op dr_ixL ?_ | refine XT.test ?_))
      refine go_ix hix ?_
      (repeat' (first | refine XE.int ?_ | refine go_I0 ?_ | refine go_bl ?_))
      refine ite2 (fun hp => ?_) (fun hp => ?_)
      · have hp := of_decide_eq_true hp
        have est : (if n = 0 then fo else stepT fo (n, 1) (prodX j)) = if fo = "" then tx else (fo ++ (" + " : Str)) ++ tx := by
          rw [if_neg (by omega)]
          unfold stepT
          rw [ep, ← el]
          by_cases hf : fo = ""
          · rw [if_neg (fun h => hn h.2), if_pos hf, if_pos hf]
          · rw [if_neg (fun h => hf h.1), if_neg hf, if_neg hn, if_neg hf]
        rw [est] at fin
        (repeat' (first | (guard_target =~ XS _ _ _ _ _; first | refine XS.set ?_) | (guard_target =~ XE _ _ _ _ _; first | refine XE.var rfl ?_ | refine XE.str ?_ | refine XE.op dr_ixL ?_ | refine XE.op dr_eq ?_ | refine XE.ofN (XN.lst ?_) | refine XE.cb db_int1 ?_ | refine XE.op dr_addS ?_) | (guard_target =~ XA _ _ _ _ _; first | refine XA.nil ?_ | refine XA.cons ?_) | refine go_addS ?_ ?_ | refine go_eq rfl rfl rfl ?_ | refine go_len rfl ?_))
        · omega
        · rw [Str.length_append]; omega
        refine go_pickS ?_
        skip
        rw [ifS] at fin
        exact fin
      · have h0 : n = 0 := by
          have : ¬ (0 : Int) < n := fun h => hp (decide_eq_true h)
          omega
        rw [if_pos h0] at fin
        (repeat' (first | refine XS.next ?_))
        exact fin
    · have j0 : j = 0 := by
        have : ¬ (0 : Int) < (j : Nat) := fun h => hc (decide_eq_true h)
        omega
      have e5 : ((toString ((n.natAbs : Nat) : Int) : String) : Str) = lawT n.natAbs j := by
        unfold lawT
        rw [if_pos j0]
      rw [e5]
      generalize lawT n.natAbs j = tx at hlt el ⊢
      have fin : ∀ {s3 : Sl}, (∃ s2' s3', [Sl.dt (nsD ns), Sl.dt (.str (if n = 0 then fo else stepT fo (n, 1) (prodX j))), .dt (.int (j : Nat)), s3] = [Sl.dt (nsD ns), .dt (.str (sumT0 (selI ns (i + 1)))), s2', s3']) ∧ (0 : Nat) = 0 := ⟨⟨_, _, by rw [es]⟩, rfl⟩
      (repeat' (first | refine XS.next ?_ | refine XS.ite ?_ | refine XE.var rfl ?_ | refine XE.op dr_I0 ?_ | refine XE.op dr_ixL ?_ | refine XT.test ?_))
      refine go_ix hix ?_
      (repeat' (first | refine XE.int ?_ | refine go_I0 ?_ | refine go_bl ?_))
      refine ite2 (fun hn => ?_) (fun hn => ?_)
      · have hn := of_decide_eq_true hn
        have est : (if n = 0 then fo else stepT fo (n, 1) (prodX j)) = if fo = "" then ("-" : Str) ++ tx else (fo ++ (" - " : Str)) ++ tx := by
          rw [if_neg (by omega)]
          unfold stepT
          rw [ep, ← el]
          by_cases hf : fo = ""
          · rw [if_pos ⟨hf, hn⟩, if_pos hf]
          · rw [if_neg (fun h => hf h.1), if_neg hf, if_pos hn, if_neg hf]
        rw [est] at fin
        (repeat' (first | (guard_target =~ XS _ _ _ _ _; first | refine XS.set ?_) | (guard_target =~ XE _ _ _ _ _; first | refine XE.var rfl ?_ | refine XE.str ?_ | refine XE.op dr_ixL ?_ | refine XE.op dr_eq ?_ | refine XE.ofN (XN.lst ?_) | refine XE.cb db_int1 ?_ | refine XE.op dr_addS ?_) | (guard_target =~ XA _ _ _ _ _; first | refine XA.nil ?_ | refine XA.cons ?_) | refine go_addS ?_ ?_ | refine go_eq rfl rfl rfl ?_ | refine go_len rfl ?_))
        · omega
        · rw [Str.length_append]; omega
        · omega
        refine go_pickS ?_
        skip
        rw [ifS] at fin
        exact fin
      have hn : ¬ n < 0 := fun h => hn (decide_eq_true h)
      (repeat' (first | refine XS.ite ?_ | refine XE.var rfl ?_ | refine XE.op dr_I0 ?_ | refine XE.op dr_ixL ?_ | refine XT.test ?_))
      refine go_ix hix ?_
      (repeat' (first | refine XE.int ?_ | refine go_I0 ?_ | refine go_bl ?_))
      refine ite2 (fun hp => ?_) (fun hp => ?_)
      · have hp := of_decide_eq_true hp
        have est : (if n = 0 then fo else stepT fo (n, 1) (prodX j)) = if fo = "" then tx else (fo ++ (" + " : Str)) ++ tx := by
          rw [if_neg (by omega)]
          unfold stepT
          rw [ep, ← el]
          by_cases hf : fo = ""
          · rw [if_neg (fun h => hn h.2), if_pos hf, if_pos hf]
          · rw [if_neg (fun h => hf h.1), if_neg hf, if_neg hn, if_neg hf]
        rw [est] at fin
        (repeat' (first | (guard_target =~ XS _ _ _ _ _; first | refine XS.set ?_) | (guard_target =~ XE _ _ _ _ _; first | refine XE.var rfl ?_ | refine XE.str ?_ | refine XE.op dr_ixL ?_ | refine XE.op dr_eq ?_ | refine XE.ofN (XN.lst ?_) | refine XE.cb db_int1 ?_ | refine XE.op dr_addS ?_) | (guard_target =~ XA _ _ _ _ _; first | refine XA.nil ?_ | refine XA.cons ?_) | refine go_addS ?_ ?_ | refine go_eq rfl rfl rfl ?_ | refine go_len rfl ?_))
        · omega
        · rw [Str.length_append]; omega
        refine go_pickS ?_
        skip
        rw [ifS] at fin
        exact fin
      · have h0 : n = 0 := by
          have : ¬ (0 : Int) < n := fun h => hp (decide_eq_true h)
          omega
        rw [if_pos h0] at fin
        (repeat' (first | refine XS.next ?_))
        exact fin
  · subst e1 e2
    rw [show (rngC ((ns.length : Int) - 1) (-1) ns.length).length = ns.length by simp [rngC]]
    (repeat' (first | refine XS.ret ?_ | refine XE.var rfl ?_))
    exact q
end
end My

/-! ### walks: the law of polynomials as texts, d -/
namespace My
open PySem PySem.Spec PyProof.Rows L2
open C8 (Cal pe_c pe_gc InsC call_isC)
theorem wholeL_some {y : Str} {n : Int} (h : wholeL y = some n) : PySem.intText? y = some n ∧ y.length ≤ 9 ∧ 0 ≤ n ∧ n < 10 ^ 9 := by
  unfold wholeL at h
  split at h
  · rename_i h1
    have hn := Option.some.inj h
    have b := digitsVal_lt _ (figB_iff.mp h1.2.2)
    have l : (cp y).length ≤ 9 := by rw [← cp_len]; exact h1.2.1
    have b2 : PySem.NumText.digitsVal (cp y) < 10 ^ 9 := Nat.lt_of_lt_of_le b (Nat.pow_le_pow_right (by decide) l)
    refine ⟨?_, h1.2.1, by omega, by omega⟩
    rw [← hn]
    exact intText_digits (figB_iff.mp h1.2.2) (fun z => h1.1 (cp_nil.mp z)) (by omega)
  · cases h
def pieceD : Option (Int × Int) → Dat
  | none => .non
  | some (k, c) => .lst [.int k, .int c]
/-- signs that are no plain ones -/
def bigC (c : Nat) : Bool := decide (128 ≤ c)
def W_Lpiece : WpD := fun ds C => ∃ x : Str, ds = [.str x] ∧ x.length ≤ 20000 ∧ cnt bigC x = 0 ∧ C (pieceD (pieceL x))
theorem plain_cs {cs : List Nat} (h : ∀ c ∈ cs, c < 128) : plains (cs.map fun c => Dat.str ⟨#[c]⟩) = true := by
  induction cs with
  | nil => rfl
  | cons c r ih =>
    show (plain (Dat.str ⟨#[c]⟩) && plains (r.map fun c => Dat.str ⟨#[c]⟩)) = true
    rw [ih fun x hx => h x (List.mem_cons_of_mem _ hx), Bool.and_true]
    have := h c (List.mem_cons_self ..)
    show PyData.strOk ⟨#[c]⟩ = true
    simp [PyData.strOk]
    omega
theorem dep_cs (cs : List Nat) : deps (cs.map fun c => Dat.str ⟨#[c]⟩) = 0 := by
  induction cs with
  | nil => rfl
  | cons x xs ih => show max 0 (deps (xs.map fun c => Dat.str ⟨#[c]⟩)) = 0; rw [ih]; rfl
theorem cmp_cs {cs : List Nat} (h : ∀ c ∈ cs, c < 128) : Cmp (.lst (cs.map fun c => Dat.str ⟨#[c]⟩)) := Cmp.of (plain_cs h) (by show deps (cs.map fun c => Dat.str ⟨#[c]⟩) + 1 ≤ 60; rw [dep_cs]; decide)
theorem eqD_cs : ∀ cs : List Nat, eqD (.lst (cs.map fun c => Dat.str ⟨#[c]⟩)) (.lst []) = decide (cs = [])
  | [] => by simp [eqD, toP, toPs, PyData.eqv, PyData.eqvAll]
  | _ :: _ => by simp [eqD, toP, toPs, PyData.eqv, PyData.eqvAll]
theorem asc_mem {x : Str} (h : cnt bigC x = 0) : ∀ c ∈ cp x, c < 128 := fun c hc => by
  have := List.countP_eq_zero.mp (show (cp x).countP bigC = 0 from h) c hc
  unfold bigC at this
  simpa using this
theorem wholeL_no {y : Str} (h : wholeL y = none) (h1 : y ≠ "") (h2 : y.length ≤ 9) : ((cp y).filter fun c => !isFig c) ≠ [] := fun z => by
  have : figB (cp y) = true := List.all_eq_true.mpr fun c hc => by
    have := List.filter_eq_nil_iff.mp z c hc
    simpa using this
  unfold wholeL at h
  rw [if_pos ⟨h1, h2, this⟩] at h
  cases h
theorem wholeL_yes {y : Str} {n : Int} (h : wholeL y = some n) : y ≠ "" ∧ y.length ≤ 9 ∧ ((cp y).filter fun c => !isFig c) = [] := by
  unfold wholeL at h
  split at h
  · rename_i h1
    refine ⟨h1.1, h1.2.1, List.filter_eq_nil_iff.mpr fun c hc => ?_⟩
    have := List.all_eq_true.mp h1.2.2 c hc
    simpa using this
  · cases h
theorem sign_of {x y : Str} {sg : Int} (e : pieceT x = (sg, y)) : (1 : Int) - 2 * (if eqS (.str (cutS x none (some 1))) (.str "-") = true then 1 else 0) = sg ∧ cutS x (some (if decide (sg < 0) = true then 1 else 0)) none = y ∧ (sg = 1 ∨ sg = -1) := by
  have ec : cp (cutS x none (some 1)) = (cp x).take 1 := cut_to x 1
  have em : cp ("-" : Str) = [45] := cp_lit (by decide +kernel)
  have hc : eqS (.str (cutS x none (some 1))) (.str "-") = decide ((cp x).take 1 = [45]) := by
    show decide (cutS x none (some 1) = "-") = _
    refine decide_eq_decide.mpr ⟨fun h => ?_, fun h => cp_ext ?_⟩
    · have := congrArg cp h
      rw [ec, em] at this
      exact this
    · rw [ec, em]
      exact h
  rw [hc]
  unfold pieceT at e
  by_cases h : (cp x).take 1 = [45]
  · rw [if_pos h] at e
    cases e
    rw [if_pos (decide_eq_true h)]
    refine ⟨by decide, cp_ext ?_, .inr rfl⟩
    rw [if_pos (by decide), cp_ofL]
    exact cut_from x 1
  · rw [if_neg h] at e
    cases e
    rw [if_neg (fun z => h (of_decide_eq_true z))]
    refine ⟨by decide, cp_ext ?_, .inl rfl⟩
    rw [if_neg (by decide)]
    exact cut_from x 0
section
variable {c : Cs} {P : Program} {w : World} {K : PySem.W.Frag} {mg : Str → Option Value} {base : Heap}
abbrev s_Lpiece : Stmt := top 51
abbrev N_Lpiece : List Str := ["_law_piece_here", "_law_sign", "_law_rest", "_law_share", "_law_some", "_law_x", "_law_power", "_law_one"]
abbrev P_Lpiece : List Str := ["_law_piece_here"]
theorem sc_Lpiece : FnScope N_Lpiece ["_law_piece_here"] (defScope s_Lpiece) := ⟨rfl, rfl, rfl, by decide +kernel, rfl, by decide +kernel, by decide +kernel⟩

theorem ok_Lpiece (T : Txt K mg c) {f : Addr} {fd : FuncData} (F : L2.Fun K "_law_piece" "_law_piece" s_Lpiece f fd) : FnOk P w K mg base CX0 1 f fd P_Lpiece (spD W_Lpiece) := by
  refine okDT F sc_Lpiece (by decide +kernel) (by decide) (fun ds C ⟨_, e, _⟩ => by rw [e]; rfl) fun cdv A outer s H E hr => ⟨_, (psst_cons (PST.of (ps_set (i := 1) sc_Lpiece.nd rfl (by first | exact Or.inl rfl | exact Or.inr rfl) (pe_op op_sub pe_int (pe_op op_mulW pe_int (pe_callTy call_int1 (by rfl) T.z_int (by decide +kernel) (pa_cons (pe_cmpR op_eq (pe_slice sl_str (pv 0) po_none (po_some pe_int)) pe_str (nomark _)) pa_nil))))))
      (psst_cons (PST.of (ps_set (i := 2) sc_Lpiece.nd rfl (by first | exact Or.inl rfl | exact Or.inr rfl) (pe_slice sl_str (pv 0) (po_some (pe_callTy call_int1 (by rfl) T.z_int (by decide +kernel) (pa_cons (pe_cmpR op_lt (pv 1) pe_int (nomark _)) pa_nil))) po_none)))
      (psst_cons (PST.of (ps_asg (pe_partition (pv 2) pe_str) (pg_tup rfl (pgs_cons (pg_name (i := 3) sc_Lpiece.nd rfl (by first | exact Or.inl rfl | exact Or.inr rfl)) (pgs_cons (pg_name (i := 5) sc_Lpiece.nd rfl (by first | exact Or.inl rfl | exact Or.inr rfl)) (pgs_cons (pg_name (i := 6) sc_Lpiece.nd rfl (by first | exact Or.inl rfl | exact Or.inr rfl)) pgs_nil))))))
      (psst_cons (PST.of (ps_if (pt_cmpR op_eq (pv 5) pe_str (nomark _)) (pss_one (ps_set (i := 6) sc_Lpiece.nd rfl (by first | exact Or.inl rfl | exact Or.inr rfl) pe_str)) (pss_one (ps_if (pt_cmpR op_eq (pv 6) pe_str (nomark _)) (pss_one (ps_set (i := 6) sc_Lpiece.nd rfl (by first | exact Or.inl rfl | exact Or.inr rfl) pe_str)) (pss_one (ps_set (i := 6) sc_Lpiece.nd rfl (by first | exact Or.inl rfl | exact Or.inr rfl) (pe_slice sl_str (pv 6) (po_some pe_int) po_none)))))))
      (psst_cons (pst_set (i := 3) sc_Lpiece.nd rfl (by first | exact Or.inl rfl | exact Or.inr rfl) (pet_orT (CwR.pet_replC (pv 3) (by decide +kernel)) (pe_one pe_str)))
      (PSsT.of (pss_cons (ps_for PassesOwn.never rfl (pi_list (pe_lst (pa_cons (pv 3) (pa_cons (pv 6) pa_nil)))) (pg_name (i := 4) sc_Lpiece.nd rfl (by first | exact Or.inl rfl | exact Or.inr rfl)) (pss_one (ps_if (PW.pt (pw_or (pt_cmpR op_eq (pv 4) pe_str (nomark _)) (pw_or (pt_cmpR op_gt (pe_callB call_len_str (by rfl) T.z_len (by decide +kernel) (pa_cons (pv 4) pa_nil)) pe_int (nomark _)) (pw_or1 (pt_cmpR (op_neD hr.units) (pe_lc (own := [("_law_one", 7)]) (g := gName 7) (by rfl) sc_Lpiece.nd (pi_str (pv 4)) (blkOk_by (own := [("_law_one", 7)]) (N := N_Lpiece) (sc := defScope s_Lpiece) (by decide +kernel)) (fun _ _ _ _ _ => (pg_name (i := 7) sc_Lpiece.nd rfl (by first | exact Or.inl rfl | exact Or.inr rfl))) (fun _ _ _ _ _ => (pts_one (pt_cmpR op_notIn_sign (pv 7) pe_str (by rfl)))) (fun _ _ _ _ _ => (pv 7))) (pe_lst pa_nil) (nomark _)))))) (pss_one (ps_ret pe_non)) pss_nil)))
      (pss_one (ps_ret (pe_lst (pa_cons (pe_callTy call_int_str (by rfl) T.z_int (by decide +kernel) (pa_cons (pv 6) pa_nil)) (pa_cons (pe_op op_mulW (pv 1) (pe_callTy call_int_str (by rfl) T.z_int (by decide +kernel) (pa_cons (pv 3) pa_nil))) pa_nil)))))))))))), fun z ds C ⟨x, e, hs, ha, q⟩ => ?_⟩
  subst e
  have sl := sizeLine_eq
  have cm : ∀ b : Bool, CMulW 2 (if b = true then 1 else 0) := fun b => by cases b <;> exact cmul_small (by decide) (by decide)
  obtain ⟨sg, y, ep⟩ : ∃ sg y, pieceT x = (sg, y) := ⟨_, _, rfl⟩
  obtain ⟨e1, e2, hsg⟩ := sign_of ep
  have ly : y.length ≤ 20000 := by rw [← e2]; exact Nat.le_trans (cut_len ..) hs
  have epc : pieceL x = match wholeL (shareL (PySem.Txt.partition y "x")) with
      | none => none
      | some s => (wholeL (powerL (PySem.Txt.partition y "x"))).map fun k => (k, sg * s) := by
    unfold pieceL
    rw [ep]
    try rfl
  have pl := fact_partition y "x"
  have pb := cnt_part bigC y "x"
  have yb : cnt bigC y = 0 := by
    have := cnt_cut bigC x (some (if decide (sg < 0) = true then 1 else 0)) none
    rw [e2] at this
    omega
  (repeat' (first | (guard_target =~ XS _ _ _ _ _; first | refine XS.seq ?_ | refine XS.set ?_) | (guard_target =~ XE _ _ _ _ _; first | refine XE.var rfl ?_ | refine XE.int ?_ | refine XE.str ?_ | refine XE.op dr_I0 ?_ | refine XE.op dr_I ?_ | refine XE.op dr_eq ?_ | refine XE.cb db_int1 ?_ | refine XE.slS ?_) | (guard_target =~ XA _ _ _ _ _; first | refine XA.nil ?_ | refine XA.cons ?_) | (guard_target =~ XO _ _ _ _ _; first | refine XO.no ?_ | refine XO.yes ?_) | refine go_slS ?_ ?_ | refine go_eq rfl rfl rfl ?_ | refine go_int ?_))
  · omega
  refine .inr ⟨_, rfl, ?_⟩
  refine go_I (cm _) ?_
  (repeat' (first | (guard_target =~ XS _ _ _ _ _; first | refine XS.seq ?_ | refine XS.set ?_) | (guard_target =~ XE _ _ _ _ _; first | refine XE.var rfl ?_ | refine XE.int ?_ | refine XE.op dr_I0 ?_ | refine XE.cb db_int1 ?_ | refine XE.slS ?_) | (guard_target =~ XA _ _ _ _ _; first | refine XA.nil ?_ | refine XA.cons ?_) | (guard_target =~ XO _ _ _ _ _; first | refine XO.yes ?_) | refine go_I0 ?_))
  rw [e1]
  refine .inr ⟨_, rfl, ?_⟩
  refine ⟨_, rfl, ?_⟩
  (repeat' (first | (guard_target =~ XS _ _ _ _ _; first | refine XS.seq ?_ | refine XS.asg ?_) | (guard_target =~ XE _ _ _ _ _; first | refine XE.var rfl ?_ | refine XE.str ?_ | refine XE.par ?_) | (guard_target =~ XO _ _ _ _ _; first | refine XO.no ?_) | (guard_target =~ XGs _ _ _ _ _ _; first | refine XGs.cons ?_ | refine XGs.nil ?_) | (guard_target =~ XG _ _ _ _ _ _; first | refine XG.name rfl ?_ | refine XG.tupG rfl ?_) | refine go_par (by decide +kernel) ?_ ?_ | refine go_slS ?_ ?_ | refine go_str ?_))
  · omega
  · exact Nat.le_trans (cut_len ..) (by omega)
  rw [e2]
  generalize PySem.Txt.partition y "x" = pr at epc pl pb ⊢
  obtain ⟨p1, p2, p3⟩ := pr
  have hl1 : p1.length ≤ y.length := pl.1
  have hl3 : p3.length ≤ y.length := pl.2.2
  refine XS.cut (N := fun g1 m1 => g1 = [.dt (.str x), .dt (.int sg), .dt (.str y), .dt (.str p1), .un, .dt (.str p2), .dt (.str (powerL (p1, p2, p3))), .un] ∧ m1 = 0) ?_ fun g1 m1 ⟨eg, em⟩ => ?_
  · (repeat' (first | refine XS.ite ?_ | refine XE.var rfl ?_ | refine XE.str ?_ | refine XE.op dr_eq ?_ | refine XT.test ?_ | refine go_eq rfl rfl rfl ?_ | refine go_bl ?_))
    refine ite2 (fun hc => ?_) (fun hc => ?_)
    · have hc : p2 = "" := of_decide_eq_true (show decide (p2 = "") = true from hc)
      (repeat' (first | refine XS.set ?_ | refine XE.str ?_))
      exact ⟨by unfold powerL; rw [if_pos hc]; rfl, rfl⟩
    have hc : ¬ p2 = "" := fun h => hc (show decide (p2 = "") = true from decide_eq_true h)
    (repeat' (first | refine XS.ite ?_ | refine XE.var rfl ?_ | refine XE.str ?_ | refine XE.op dr_eq ?_ | refine XT.test ?_ | refine go_eq rfl rfl rfl ?_ | refine go_bl ?_))
    refine ite2 (fun hd => ?_) (fun hd => ?_)
    · have hd : p3 = "" := of_decide_eq_true (show decide (p3 = "") = true from hd)
      (repeat' (first | refine XS.set ?_ | refine XE.str ?_))
      exact ⟨by unfold powerL; rw [if_neg hc, if_pos hd]; rfl, rfl⟩
    have hd : ¬ p3 = "" := fun h => hd (show decide (p3 = "") = true from decide_eq_true h)
    (repeat' (first | refine XS.set ?_ | refine XE.var rfl ?_ | refine XE.int ?_ | refine XE.slS ?_ | refine XO.no ?_ | refine XO.yes ?_ | refine go_slS ?_ ?_ | refine go_int ?_))
    · omega
    exact ⟨by unfold powerL; rw [if_neg hc, if_neg hd]; rfl, rfl⟩
  subst eg em
  have l0 : ("" : Str).length = 0 := by decide +kernel
  have hr : (PySem.Txt.replace p1 "*" "").length ≤ p1.length := by
    rw [cp_len, cp_len, repl_star]
    have := repl_cnt (p := fun _ => true) (y := [42]) (z := []) (by simp) (by simp) _ (cp p1) (Nat.le_refl _)
    rw [List.countP_true] at this
    exact this
  have hrb : cnt bigC (PySem.Txt.replace p1 "*" "") ≤ cnt bigC p1 := by
    unfold cnt
    rw [repl_star]
    exact repl_cnt (by simp) (by simp) _ (cp p1) (Nat.le_refl _)
  (repeat' (first | refine XS.seq ?_))
  refine XS.cut (N := fun g1 m1 => g1 = [.dt (.str x), .dt (.int sg), .dt (.str y), .dt (.str (shareL (p1, p2, p3))), .un, .dt (.str p2), .dt (.str (powerL (p1, p2, p3))), .un] ∧ m1 = 0) ?_ fun g1 m1 ⟨eg, em⟩ => ?_
  · (repeat' (first | refine XS.set ?_ | refine XE.var rfl ?_ | refine XE.orS ?_ | refine XE.rep2 ?_ | refine go_orS ?_ ?_ | refine go_rep2 ?_ ?_))
    · rw [l0]; omega
    · omega
    refine ite2 (fun hc => ?_) (fun hc => ?_)
    · exact ⟨by unfold shareL; rw [if_pos hc]; rfl, rfl⟩
    · (repeat' (first | refine XE.str ?_))
      exact ⟨by unfold shareL; rw [if_neg hc]; rfl, rfl⟩
  subst eg em
  have lsh : (shareL (p1, p2, p3)).length ≤ 20000 := by
    have l1 : ("1" : Str).length = 1 := by decide +kernel
    unfold shareL
    split
    · show (PySem.Txt.replace p1 "*" "").length ≤ _; omega
    · omega
  have lpo : (powerL (p1, p2, p3)).length ≤ 20000 := by
    have l1 : ("1" : Str).length = 1 := by decide +kernel
    have l2 : ("0" : Str).length = 1 := by decide +kernel
    unfold powerL
    split
    · omega
    · split
      · omega
      · exact Nat.le_trans (cut_len ..) (by show p3.length ≤ _; omega)
  have ash : cnt bigC (shareL (p1, p2, p3)) = 0 := by
    unfold shareL
    split
    · have : cnt bigC p1 ≤ cnt bigC y := pb.1
      show cnt bigC (PySem.Txt.replace p1 "*" "") = 0; omega
    · decide +kernel
  have apo : cnt bigC (powerL (p1, p2, p3)) = 0 := by
    unfold powerL
    split
    · decide +kernel
    · split
      · decide +kernel
      · have h1 : cnt bigC p3 ≤ cnt bigC y := pb.2
        have h2 := cnt_cut bigC p3 (some 1) none
        show cnt bigC (cutS p3 (some 1) none) = 0
        omega
  generalize shareL (p1, p2, p3) = sh at epc lsh ash ⊢
  generalize powerL (p1, p2, p3) = po at epc lpo apo ⊢
  refine XS.seq (XS.for (XI.list ?_))
  (repeat' (first | refine XE.var rfl ?_ | refine XE.ofN (XN.lst ?_) | refine XA.nil ?_ | refine XA.cons ?_ | refine go_len rfl ?_ | refine go_lst ?_))
  refine ⟨fun i g m => (∃ s4 s7, g = [.dt (.str x), .dt (.int sg), .dt (.str y), .dt (.str sh), s4, .dt (.str p2), .dt (.str po), s7]) ∧ m = 0 ∧ (0 < i → (wholeL sh).isSome = true) ∧ (1 < i → (wholeL po).isSome = true), ⟨⟨_, _, rfl⟩, rfl, fun h => absurd h (by decide), fun h => absurd h (by decide)⟩, fun i d g2 m2 hi ⟨⟨s4, s7, e3⟩, e4, w1, w2⟩ => ?_, fun g2 m2 ⟨⟨s4, s7, e3⟩, e4, w1, w2⟩ => ?_⟩
  · subst e3 e4
    obtain ⟨t, rfl, lt, at_, w3⟩ : ∃ t, Dat.str t = d ∧ t.length ≤ 20000 ∧ cnt bigC t = 0 ∧ ((wholeL t).isSome = true → (0 < i + 1 → (wholeL sh).isSome = true) ∧ (1 < i + 1 → (wholeL po).isSome = true)) ∧ (wholeL t = none → pieceL x = none) := by
      rcases i with _ | _ | i
      · cases hi
        exact ⟨sh, rfl, lsh, ash, fun h => ⟨fun _ => h, fun h => absurd h (by decide)⟩, fun h => by rw [epc, h]⟩
      · cases hi
        refine ⟨po, rfl, lpo, apo, fun h => ⟨fun _ => w1 (by decide), fun _ => h⟩, fun h => ?_⟩
        rw [epc, h]
        cases wholeL sh <;> rfl
      · cases hi
    obtain ⟨w3, w4⟩ := w3
    have at_ := asc_mem at_
    have go : (wholeL t).isSome = true → ∀ {s4 s7 : Sl}, (∃ s4' s7', [Sl.dt (.str x), .dt (.int sg), .dt (.str y), .dt (.str sh), s4, .dt (.str p2), .dt (.str po), s7] = [Sl.dt (.str x), .dt (.int sg), .dt (.str y), .dt (.str sh), s4', .dt (.str p2), .dt (.str po), s7']) ∧ (0 : Nat) = 0 ∧ (0 < i + 1 → (wholeL sh).isSome = true) ∧ (1 < i + 1 → (wholeL po).isSome = true) := fun h {s4 s7} => ⟨⟨_, _, rfl⟩, rfl, (w3 h).1, (w3 h).2⟩
    (repeat' (first | refine XS.ite ?_ | refine XE.var rfl ?_ | refine XE.str ?_ | refine XE.op dr_eq ?_ | refine XT.test ?_ | refine XT.or ?_ | refine XG.name rfl ?_ | refine go_eq rfl rfl rfl ?_ | refine go_bl ?_))
    refine ite2 (fun h1 => ?_) (fun h1 => ?_)
    · have h1 : t = "" := of_decide_eq_true (show decide (t = "") = true from h1)
      have hn : wholeL t = none := if_neg fun h => h.1 h1
      rw [w4 hn] at q
      (repeat' (first | refine XS.ret ?_ | refine XE.non ?_))
      exact q
    have h1 : ¬ t = "" := fun h => h1 (show decide (t = "") = true from decide_eq_true h)
    (repeat' (first | (guard_target =~ XE _ _ _ _ _; first | refine XE.var rfl ?_ | refine XE.int ?_ | refine XE.op dr_I0 ?_ | refine XE.cb db_lenT ?_) | (guard_target =~ XA _ _ _ _ _; first | refine XA.nil ?_ | refine XA.cons ?_) | (guard_target =~ XT _ _ _ _ _; first | refine XT.test ?_ | refine XT.or ?_) | refine go_lenT ?_ ?_ | refine go_I0 ?_ | refine go_bl ?_))
    · omega
    refine ite2 (fun h2 => ?_) (fun h2 => ?_)
    · have h2 := of_decide_eq_true h2
      have hn : wholeL t = none := if_neg fun h => absurd h.2.1 (by omega)
      rw [w4 hn] at q
      (repeat' (first | refine XS.ret ?_ | refine XE.non ?_))
      exact q
    have h2 : ¬ (9 : Int) < t.length := fun h => h2 (decide_eq_true h)
    have h2 : t.length ≤ 9 := by omega
    (repeat' (first | refine XE.op dr_neD ?_ | refine XT.test ?_))
    refine XE.ofN (XN.lc (XI.str ?_))
    (repeat' (first | refine XE.var rfl ?_ | refine go_str ?_))
    refine ⟨fun k acc m => acc = (((cp t).take k).filter fun c => !isFig c).map (fun c => Dat.str ⟨#[c]⟩) ∧ m = 0, ⟨rfl, rfl⟩, fun k d acc m2 hi ⟨e1, e2⟩ => ?_, fun acc m2 ⟨e1, e2⟩ => ?_⟩
    · subst e2
      obtain ⟨ch, hch, rfl⟩ := map_get hi
      have hch : (cp t)[k]? = some ch := hch
      have et := take_more hch
      (repeat' (first | refine XE.var rfl ?_ | refine XE.str ?_ | refine XE.op dr_notInC ?_ | refine XT.test ?_ | refine XG.name rfl ?_ | refine go_inC ?_ | refine go_bl ?_))
      show if (!decide (ch ∈ cp ("0123456789" : Str))) = true then _ else _
      rw [figs_mem]
      have ef : ((cp t).take (k + 1)).filter (fun c => !isFig c) = ((cp t).take k).filter (fun c => !isFig c) ++ (if (!isFig ch) = true then [ch] else []) := by
        rw [et, List.filter_append, List.filter_cons]
        rfl
      refine ite2 (fun hc => ?_) (fun hc => ?_)
      · rw [if_pos hc] at ef
        (repeat' (first | refine XE.var rfl ?_))
        refine ⟨?_, by rw [ef, List.map_append, e1]; rfl, rfl⟩
        rw [e1, List.length_map]
        have h1 := List.length_filter_le (fun c => !isFig c) ((cp t).take k)
        have h2 : ((cp t).take k).length ≤ (cp t).length := by rw [List.length_take]; omega
        rw [← cp_len] at h2
        omega
      · rw [if_neg hc, List.append_nil] at ef
        exact ⟨by rw [ef, e1], rfl⟩
    · subst e2
      rw [List.length_map, show (cp t).take t.cps.toList.length = cp t from List.take_of_length_le (Nat.le_refl _)] at e1
      rw [e1]
      (repeat' (first | refine XE.ofN (XN.lst ?_) | refine XA.nil ?_ | refine go_len rfl ?_))
      have hcs : ∀ c ∈ (cp t).filter (fun c => !isFig c), c < 128 := fun c hc => at_ c (List.mem_filter.mp hc).1
      refine go_neD (cmp_cs hcs) (cmp_cs (cs := []) (fun _ h => nomatch h)) ?_
      rw [eqD_cs]
      (repeat' (first | refine go_bl ?_))
      refine ite2 (fun h3 => ?_) (fun h3 => ?_)
      · have hn : wholeL t = none := by
          cases hw : wholeL t with
          | none => rfl
          | some n =>
            rw [decide_eq_true (wholeL_yes hw).2.2] at h3
            cases h3
        rw [w4 hn] at q
        (repeat' (first | refine XS.ret ?_ | refine XE.non ?_))
        exact q
      · refine XS.next (go ?_)
        cases hw : wholeL t with
        | some n => rfl
        | none =>
          refine absurd ?_ h3
          rw [decide_eq_false (wholeL_no hw h1 h2)]
          rfl
  · subst e3 e4
    obtain ⟨a, ea⟩ := Option.isSome_iff_exists.mp (w1 (show 0 < 2 by decide))
    obtain ⟨b, eb⟩ := Option.isSome_iff_exists.mp (w2 (show 1 < 2 by decide))
    obtain ⟨ia, la, a0, a9⟩ := wholeL_some ea
    obtain ⟨ib, lb, b0, b9⟩ := wholeL_some eb
    rw [ea, eb] at epc
    rw [epc] at q
    (repeat' (first | refine XS.ret ?_ | refine XE.var rfl ?_ | refine XE.ofN (XN.lst ?_) | refine XE.cb db_intT ?_ | refine XA.nil ?_ | refine XA.cons ?_))
    refine go_intT ib (by omega) ?_
    (repeat' (first | refine XE.var rfl ?_ | refine XE.op dr_I ?_ | refine XE.cb db_intT ?_ | refine XA.nil ?_ | refine XA.cons ?_))
    refine go_intT ia (by omega) ?_
    (repeat' (first | refine XA.nil ?_ | refine go_I ?_ ?_ | refine go_len rfl ?_))
    · refine Sz.cmul (n := 1) (m := 40) ?_ ?_ (by decide) (by decide) (by decide)
      · show sg.natAbs < 2 ^ 1
        omega
      · show a.natAbs < 2 ^ 40
        omega
    · exact q
end
end My

/-! ### walks: the law of polynomials as texts, e -/
namespace My
open PySem PySem.Spec PyProof.Rows L2
open C8 (Cal pe_c pe_gc InsC call_isC)
theorem foldM_next {α β : Type} {step : β → α → Option β} {l : List α} {i : Nat} {p : α} {f z0 : β} (hi : l[i]? = some p) (hf : (l.take i).foldlM step z0 = some f) : (l.take (i + 1)).foldlM step z0 = step f p := by
  rw [take_more hi, List.foldlM_append, hf]
  show ([p].foldlM step f) = _
  rw [List.foldlM_cons]
  cases step f p <;> rfl
theorem foldM_none {α β : Type} {step : β → α → Option β} {l : List α} {i : Nat} {p : α} {f z0 : β} (hi : l[i]? = some p) (hf : (l.take i).foldlM step z0 = some f) (hn : step f p = none) : l.foldlM step z0 = none := by
  have h1 := foldM_next hi hf
  rw [hn] at h1
  rw [← List.take_append_drop (i + 1) l, List.foldlM_append, h1]
  rfl
theorem readL_none {x : Str} (h : (partsX x).foldlM stepL [0, 0, 0, 0, 0, 0] = none) : readL x = none := by
  unfold readL
  rw [h]
def readD : Option (List Int) → Dat
  | none => .non
  | some ns => nsD ns
theorem cmp_fault (f : Bool × Option Nat) : Cmp (faultD f) := by
  obtain ⟨b, o⟩ := f
  cases b with
  | true => exact Cmp.of (show (PyData.strOk "done" && true) = true by decide +kernel) (Nat.le_of_ble_eq_true rfl)
  | false =>
    cases o with
    | none => exact Cmp.of (by decide +kernel) (Nat.le_of_ble_eq_true rfl)
    | some k => exact Cmp.of (show (PyData.strOk "poly" && true) = true by decide +kernel) (Nat.le_of_ble_eq_true rfl)
theorem eqD_fault (f : Bool × Option Nat) : eqD (faultD f) (.lst [.str "done"]) = f.1 := by
  obtain ⟨b, o⟩ := f
  cases b with
  | true => exact eqD_refl (cmp_fault (true, none))
  | false =>
    cases o with
    | none => simp [eqD, faultD, toP, toPs, PyData.eqv, PyData.eqvAll]
    | some k => simp [eqD, faultD, toP, toPs, PyData.eqv, PyData.eqvAll]
theorem pieceL_pos {x : Str} {k c : Int} (h : pieceL x = some (k, c)) : 0 ≤ k := by
  unfold pieceL at h
  split at h
  · cases h
  · cases hw : wholeL (powerL (PySem.Txt.partition (pieceT x).2 "x")) with
    | none => rw [hw] at h; cases h
    | some n =>
      rw [hw] at h
      cases h
      exact (wholeL_some hw).2.2.1
def W_Lread : WpD := fun ds C => ∃ x : Str, ds = [.str x] ∧ x.length ≤ 1000 ∧ cnt bigC x = 0 ∧ C (readD (readL x))
theorem partsX_big {x t : Str} (h : t ∈ partsX x) : cnt bigC t ≤ cnt bigC x := by
  refine Nat.le_trans (cnt_split h) ?_
  have e := StrLaws.replace_list (x := x) (y := " - ") (z := " + -") (by decide +kernel)
  have e2 : cp (PySem.Txt.replace x " - " " + -") = StrLaws.replL [32, 45, 32] [32, 43, 32, 45] (cp x) := by
    rw [show cp (PySem.Txt.replace x " - " " + -") = _ from e, show (" - " : Str).cps.toList = _ from lit_m, show (" + -" : Str).cps.toList = _ from lit_pm]
  unfold cnt
  rw [e2]
  exact repl_cnt (by simp) (by decide) _ (cp x) (Nat.le_refl _)
section
variable {c : Cs} {P : Program} {w : World} {K : PySem.W.Frag} {mg : Str → Option Value} {base : Heap}
abbrev s_Lread : Stmt := top 52
abbrev N_Lread : List Str := ["_law_text", "_law_found", "_law_piece_here", "_law_told"]
abbrev P_Lread : List Str := ["_law_text"]
theorem sc_Lread : FnScope N_Lread ["_law_text"] (defScope s_Lread) := ⟨rfl, rfl, rfl, by decide +kernel, rfl, by decide +kernel, by decide +kernel⟩

theorem ok_Lread (T : Txt K mg c) {f : Addr} {fd : FuncData} (F : L2.Fun K "_law_read" "_law_read" s_Lread f fd) (h_Lpiece : Cal P w K mg base 1 "_law_piece" (spD W_Lpiece) []) (h_Lfault : Cal P w K mg base 2 "_law_fault" (spD W_Lfault) []) (h_Lpowers : Cal P w K mg base 1 "_law_powers" (spD W_Lpowers) []) : FnOk P w K mg base CX0 3 f fd P_Lread (spD W_Lread) := by
  refine okDT F sc_Lread (by decide +kernel) (by decide) (fun ds C ⟨_, e, _⟩ => by rw [e]; rfl) fun cdv A outer s H E hr => ⟨_, (psst_cons (PST.of (ps_set (i := 1) sc_Lread.nd rfl (by first | exact Or.inl rfl | exact Or.inr rfl) (pe_op op_rep (pe_lst (pa_cons pe_int pa_nil)) pe_int)))
      (psst_cons (L2.pst_for PassesOwn.never rfl (L2.pit_list (pet_split (CwR.pet_replC (pv 0) (by decide +kernel)) pe_str)) (pg_name (i := 2) sc_Lread.nd rfl (by first | exact Or.inl rfl | exact Or.inr rfl)) (pss_cons (ps_set (i := 3) sc_Lread.nd rfl (by first | exact Or.inl rfl | exact Or.inr rfl) (pe_c h_Lpiece hr (by decide) rfl (pa_cons (pv 2) pa_nil)))
      (pss_cons (ps_if (PW.pt (pw_or (pt_cmpR op_isN (pv 3) pe_non (nomark _)) (pw_or1 (pt_cmpR op_gt (pe_ix ix_list (pv 3) pe_int (fun _ _ => rfl)) pe_int (nomark _))))) (pss_one (ps_ret pe_non)) pss_nil)
      (pss_one (ps_asg (pe_ix ix_list (pv 3) pe_int (fun _ _ => rfl)) (pg_sub (pv 1) (pe_ix ix_list (pv 3) pe_int (fun _ _ => rfl)) set_list))))))
      (PSsT.of (pss_cons (ps_while PassesOwn.never (PW.pt (pw_and (pt_cmpR (op_neD hr.units) (pv 1) (pe_lst pa_nil) (nomark _)) (pw_and1 (pt_cmpR op_eq (pe_ix ix_list (pv 1) (pe_un un_neg pe_int) (fun _ _ => rfl)) pe_int (nomark _))))) (pss_one (ps_expr (pe_bm0 PySem.F.plainAttrs_list PySem.F.slot_list_pop PySem.F.type_list_pop mt_pop (pv 1)))))
      (pss_cons (ps_if (PW.pt (pw_or (pt_cmpR (op_neD hr.units) (pe_c h_Lfault hr (by decide) rfl (pa_cons (pv 1) pa_nil)) (pe_lst (pa_cons pe_str pa_nil)) (nomark _)) (pw_or1 (pt_cmpR op_ne (pe_c h_Lpowers hr (by decide) rfl (pa_cons (pv 1) pa_nil)) (pv 0) (nomark _))))) (pss_one (ps_ret pe_non)) pss_nil)
      (pss_one (ps_ret (pv 1)))))))), fun z ds C ⟨x, e, hs, ha, q⟩ => ?_⟩
  subst e
  have sl := sizeLine_eq
  have pl := partsX_len (x := x)
  (repeat' (first | refine XS.seq ?_ | refine XS.setO (i := 1) ?_ | refine XE.int ?_ | refine XE.ofN (XN.lst ?_) | refine XN.op dn_rep ?_ | refine XA.nil ?_ | refine XA.cons ?_ | refine go_len rfl ?_ | refine go_rep ?_ ?_ ?_ ?_))
  · decide
  · decide
  · decide
  refine XS.for (XI.list ?_)
  (repeat' (first | refine XE.var rfl ?_ | refine XE.str ?_ | refine XE.ofN (XN.spl ?_) | refine XE.rep2 ?_ | refine go_spl (by decide +kernel) ?_ ?_ | refine go_rep2 ?_ ?_ | refine go_lst ?_ | refine go_str ?_))
  · rw [show (" + -" : Str).length = 4 from by decide +kernel]; omega
  · omega
  refine ⟨fun i g m => ∃ f, ((partsX x).take i).foldlM stepL [0, 0, 0, 0, 0, 0] = some f ∧ f.length = 6 ∧ (∃ s2 s3, g = [.dt (.str x), .ow (f.map Dat.int), s2, s3]) ∧ m = 0, ⟨[0, 0, 0, 0, 0, 0], rfl, rfl, ⟨_, _, rfl⟩, rfl⟩, fun i d g2 m2 hi ⟨f, hf, lf, ⟨s2, s3, e1⟩, e2⟩ => ?_, fun g2 m2 ⟨f, hf, lf, ⟨s2, s3, e1⟩, e2⟩ => ?_⟩
  · subst e1 e2
    obtain ⟨t, ht, rfl⟩ := map_get hi
    have ht : (partsX x)[i]? = some t := ht
    have hm := partsX_ok (List.mem_of_getElem? ht)
    have hb := partsX_big (List.mem_of_getElem? ht)
    have nx := foldM_next ht hf
    have no : stepL f t = none → readL x = none := fun h => readL_none (foldM_none ht hf h)
    (repeat' (first | refine XS.seq ?_ | refine XS.set ?_ | refine XE.var rfl ?_ | refine XE.call ?_ | refine XA.nil ?_ | refine XA.cons ?_ | refine XG.name rfl ?_))
    refine ⟨t, rfl, by omega, by omega, ?_⟩
    cases hp : pieceL t with
    | none =>
      (repeat' (first | refine XS.seq ?_ | refine XS.ite ?_ | refine XE.var rfl ?_ | refine XE.non ?_ | refine XE.op dr_isN ?_ | refine XT.test ?_ | refine XT.or ?_))
      refine ⟨rfl, ?_⟩
      (repeat' (first | refine XS.ret ?_ | refine XE.non ?_ | refine go_bl ?_))
      rw [no (by unfold stepL; rw [hp])] at q
      exact q
    | some kc =>
      obtain ⟨k, v⟩ := kc
      have k0 := pieceL_pos hp
      have es : stepL f t = if 5 < k then none else some (f.set k.toNat v) := by
        unfold stepL
        rw [hp]
      (repeat' (first | refine XS.seq ?_ | refine XS.ite ?_ | refine XE.var rfl ?_ | refine XE.non ?_ | refine XE.op dr_isN ?_ | refine XT.test ?_ | refine XT.or ?_))
      refine ⟨rfl, ?_⟩
      (repeat' (first | refine XE.var rfl ?_ | refine XE.int ?_ | refine XE.op dr_I0 ?_ | refine XE.op dr_ixL ?_ | refine XT.test ?_ | refine go_I0 ?_ | refine go_ix rfl ?_ | refine go_bl ?_))
      refine ite2 (fun hc => ?_) (fun hc => ?_)
      · have hc := of_decide_eq_true hc
        (repeat' (first | refine XS.ret ?_ | refine XE.non ?_))
        rw [no (by rw [es, if_pos hc])] at q
        exact q
      have hc : ¬ 5 < k := fun h => hc (decide_eq_true h)
      rw [if_neg hc] at es
      rw [es] at nx
      (repeat' (first | refine XS.next ?_ | refine XS.setI (i := 1) rfl ?_ | refine XE.var rfl ?_ | refine XE.int ?_ | refine XE.op dr_ixL ?_ | refine go_ix rfl ?_))
      refine go_put (j := k.toNat) (by rw [List.length_map, lf]; unfold ixN; rw [if_pos (by omega), if_pos (by omega)]) ?_
      refine ⟨f.set k.toNat v, nx, by rw [List.length_set]; exact lf, ⟨.dt (.str t), .dt (.lst [.int k, .int v]), ?_⟩, rfl⟩
      rw [List.map_set]
      rfl
  · subst e1 e2
    rw [List.length_map, show (partsX x).take (PySem.Txt.split (PySem.Txt.replace x " - " " + -") " + ").length = partsX x from List.take_of_length_le (Nat.le_refl _)] at hf
    refine XS.seq (XS.cut (N := fun g1 m1 => (∃ s2 s3, g1 = [.dt (.str x), .ow ((trim f).map Dat.int), s2, s3]) ∧ m1 = 0) ?_ fun g1 m1 ⟨⟨s2, s3, eg⟩, em⟩ => ?_)
    · refine XS.whi (fun g m => ∃ f', trim f' = trim f ∧ f'.length ≤ 6 ∧ (∃ s2 s3, g = [.dt (.str x), .ow (f'.map Dat.int), s2, s3]) ∧ m = 0) (fun g => match g[1]? with | some (Sl.ow ds) => ds.length | _ => 0) ⟨f, rfl, by omega, ⟨_, _, rfl⟩, rfl⟩ fun g2 m2 ⟨f', ht, lf', ⟨s2, s3, e1⟩, e2⟩ => ?_
      subst e1 e2
      refine XT.and (XT.test (XE.neOD (i := 1) rfl ?_))
      (repeat' (first | refine XE.ofN (XN.lst ?_) | refine XA.nil ?_ | refine go_len rfl ?_))
      refine ⟨cmp_ns [], cmp_ns f', ?_⟩
      rw [show eqD (Dat.lst (f'.map Dat.int)) (Dat.lst []) = decide (f' = []) from eqD_ns _ []]
      (repeat' (first | refine go_bl ?_))
      refine ite2 (fun hc => ?_) (fun hc => ?_)
      · have hc : f' ≠ [] := fun h => by
          rw [decide_eq_true h] at hc
          cases hc
        have lp : 0 < f'.length := List.length_pos_iff.mpr hc
        obtain ⟨y, _, hy⟩ := atI_last' lp
        have hy2 : f'[f'.length - 1]? = some y := by
          have e : ixN f'.length (-1) = some (f'.length - 1) := by
            unfold ixN
            rw [if_neg (by decide), if_pos (by omega)]
            congr 1
            omega
          unfold atI at hy
          rw [e] at hy
          exact hy
        refine XT.test (XE.op dr_eq (XE.ixO rfl ?_))
        (repeat' (first | refine XE.int ?_ | refine XE.unI ?_ | refine go_un ?_))
        refine go_ixO (atI_map' hy) ?_
        (repeat' (first | refine XE.int ?_ | refine go_eq rfl rfl rfl ?_ | refine go_bl ?_))
        have edr : f'.drop (f'.length - 1) = [y] := by
          rw [List.drop_eq_getElem?_toList_append]
          rw [hy2]
          rw [List.drop_of_length_le (by omega)]
          rfl
        refine ite2 (fun h0 => ?_) (fun h0 => ?_)
        · have h0 : y = 0 := of_decide_eq_true (show decide (y = 0) = true from h0)
          have ef : f' = f'.dropLast ++ [0] := by
            rw [List.dropLast_eq_take]
            conv => lhs; rw [← List.take_append_drop (f'.length - 1) f', edr, h0]
          refine XS.pop (i := 1) (d := .int y) rfl rfl ?_ ⟨⟨f'.dropLast, ?_, by rw [List.length_dropLast]; omega, ⟨s2, s3, ?_⟩, rfl⟩, ?_⟩
          · rw [List.length_map, List.getElem?_map, hy2]; rfl
          · rw [← ht]
            conv => rhs; rw [ef]
            exact trim_pop.symm
          · show [Sl.dt (.str x), .ow (f'.map Dat.int).dropLast, s2, s3] = _
            rw [List.map_dropLast]
          · show ((f'.map Dat.int).dropLast).length < (f'.map Dat.int).length
            rw [List.length_dropLast, List.length_map]; omega
        · have h0 : ¬ y = 0 := fun h => h0 (show decide (y = 0) = true from decide_eq_true h)
          refine ⟨⟨s2, s3, ?_⟩, rfl⟩
          rw [← ht, trim_done (fun h => h0 (by rw [edr] at h; exact List.head_eq_of_cons_eq h))]
      · have hc : f' = [] := Classical.byContradiction fun h => hc (by rw [decide_eq_false h]; rfl)
        refine ⟨⟨s2, s3, ?_⟩, rfl⟩
        rw [← ht, hc]
        rfl
    · subst eg em
      have lt6 : (trim f).length ≤ 6 := by
        unfold trim
        rw [List.length_reverse]
        have := (List.dropWhile_sublist (fun x => decide (x = 0)) (l := f.reverse)).length_le
        rw [List.length_reverse] at this
        omega
      have er : readL x = if (faultOf (trim f)).1 = true ∧ powersL (trim f) = x then some (trim f) else none := by
        unfold readL
        rw [hf]
      refine XS.frz (i := 1) rfl ?_
      (repeat' (first | refine XS.seq ?_ | refine XS.ite ?_ | refine XE.var rfl ?_ | refine XE.op dr_neD ?_ | refine XE.call ?_ | refine XA.nil ?_ | refine XA.cons ?_ | refine XT.test ?_ | refine XT.or ?_))
      refine ⟨trim f, rfl, lt6, ?_⟩
      (repeat' (first | refine XE.str ?_ | refine XE.ofN (XN.lst ?_) | refine XA.nil ?_ | refine XA.cons ?_ | refine go_len rfl ?_))
      refine go_neD (cmp_fault _) (cmp_fault (true, none)) ?_
      rw [eqD_fault]
      (repeat' (first | refine go_bl ?_))
      cases hf : (faultOf (trim f)).1 with
      | false =>
        rw [er, if_neg (fun h => by rw [hf] at h; cases h.1)] at q
        (repeat' (first | refine XS.ret ?_ | refine XE.non ?_))
        exact q
      | true =>
        have G := good_of hf
        (repeat' (first | refine XE.var rfl ?_ | refine XE.op dr_ne ?_ | refine XE.call ?_ | refine XA.nil ?_ | refine XA.cons ?_ | refine XT.test ?_))
        refine ⟨trim f, rfl, lt6, fun n hn => Nat.lt_of_le_of_lt (G.sm n hn) (by decide), ?_⟩
        (repeat' (first | refine XE.var rfl ?_ | refine go_ne rfl rfl rfl ?_ | refine go_bl ?_))
        refine ite2 (fun hc => ?_) (fun hc => ?_)
        · have hn : ¬ powersL (trim f) = x := fun h => by
            have hc : (!decide (powersL (trim f) = x)) = true := hc
            rw [decide_eq_true h] at hc
            cases hc
          rw [er, if_neg (fun h => hn h.2)] at q
          (repeat' (first | refine XS.ret ?_ | refine XE.non ?_))
          exact q
        · have hn : powersL (trim f) = x := Classical.byContradiction fun h => hc (by
            show (!decide (powersL (trim f) = x)) = true
            rw [decide_eq_false h]
            rfl)
          rw [er, if_pos ⟨hf, hn⟩] at q
          (repeat' (first | refine XS.next ?_ | refine XS.ret ?_ | refine XE.var rfl ?_))
          exact q
/-- a thing asked: its text, or the text's polynomial -/
def W_Lasked : WpD := fun ds C => (∃ ns : List Int, ds = [.int 0, nsD ns] ∧ ((faultOf ns).1 = true → C (.str (powersT ns))) ∧ ((faultOf ns).1 = false → C (.lst [.str "poly", optD (faultOf ns).2]))) ∨
  ∃ x : Str, ds = [.int 1, .str x] ∧ TxS 1000 x ∧ (∀ ns, readP x = some ns → C (nsD ns)) ∧ (readP x = none → C (.lst [.str "text"]))
theorem exm_cons {K : PySem.W.Frag} {t c : Value} {b b1 : Bool} {cs : List Value} (h1 : PySem.W.exmOne K t c = some b1) (h2 : PySem.W.exmAny K t cs = some b) : PySem.W.exmAny K t (c :: cs) = some (b1 || b) := by
  unfold PySem.W.exmAny
  rw [h1, h2]
theorem Txt.any_NoPoly (T : Txt K mg c) : PySem.W.exmAny K (.ref c.NoPoly) [.ref c.RootError, .ref c.NoOver, .ref c.NoName, .ref c.Twice, .ref c.NoNumber] = some true :=
  exm_cons T.exm_NoPoly_RootError (exm_cons T.exm_NoPoly_NoOver (exm_cons T.exm_NoPoly_NoName (exm_cons T.exm_NoPoly_Twice (exm_cons T.exm_NoPoly_NoNumber rfl))))
theorem Txt.any_NoText (T : Txt K mg c) : PySem.W.exmAny K (.ref c.NoText) [.ref c.RootError, .ref c.NoOver, .ref c.NoName, .ref c.Twice, .ref c.NoNumber] = some true :=
  exm_cons T.exm_NoText_RootError (exm_cons T.exm_NoText_NoOver (exm_cons T.exm_NoText_NoName (exm_cons T.exm_NoText_Twice (exm_cons T.exm_NoText_NoNumber rfl))))
abbrev s_Lasked : Stmt := top 53
abbrev N_Lasked : List Str := ["_law_way", "_law_thing", "_law_caught", "_law_found", "e"]
abbrev P_Lasked : List Str := ["_law_way", "_law_thing"]
theorem sc_Lasked : FnScope N_Lasked ["_law_way", "_law_thing"] (defScope s_Lasked) := ⟨rfl, rfl, rfl, by decide +kernel, rfl, by decide +kernel, by decide +kernel⟩

theorem ok_Lasked (T : Txt K mg c) {f : Addr} {fd : FuncData} (F : L2.Fun K "_law_asked" "_law_asked" s_Lasked f fd) (h_text_of : CalX P w K mg base 5 "text_of" (spX (W_text_of c))) (h_read_polynomial : CalX P w K mg base 5 "read_polynomial" (spX (W_read_poly c))) (h_Lclass : Cal P w K mg base 1 "_law_class" (spD (W_Lclass K c)) []) : FnOk P w K mg base CX0 6 f fd P_Lasked (spD W_Lasked) := by
  refine okD (W := W_Lasked) F sc_Lasked (fun ds C h => ?_) fun cdv A outer s H E hr => ⟨_, (pss_cons (ps_set (i := 2) sc_Lasked.nd rfl (by first | exact Or.inl rfl | exact Or.inr rfl) pe_non)
      (pss_cons (ps_set (i := 3) sc_Lasked.nd rfl (by first | exact Or.inl rfl | exact Or.inr rfl) pe_non)
      (pss_cons (ps_try_keepT (i := 4) rfl rfl rfl sc_Lasked.nd rfl rfl takes0 (fun W pn xe tk po => (pss_one (ps_if (pt_cmpR op_eq (pv 0) pe_int (nomark _)) (pss_one (ps_set (i := 3) sc_Lasked.nd rfl (by first | exact Or.inl rfl | exact Or.inr rfl) (pe_cS h_text_of hr (by decide) rfl (fun σ => passAt tk σ) (pa_cons (pv 1) pa_nil)))) (pss_one (ps_set (i := 3) sc_Lasked.nd rfl (by first | exact Or.inl rfl | exact Or.inr rfl) (pe_cS h_read_polynomial hr (by decide) rfl (fun σ => passAt tk σ) (pa_cons (pv 1) pa_nil))))))) (.cons ⟨rfl, by decide, .inl T.g_RootError⟩ (.cons ⟨rfl, by decide, .inl T.g_NoOver⟩ (.cons ⟨rfl, by decide, .inl T.g_NoName⟩ (.cons ⟨rfl, by decide, .inl T.g_Twice⟩ (.cons ⟨rfl, by decide, .inl T.g_NoNumber⟩ .nil rfl) rfl) rfl) rfl) rfl) (Nat.le_of_ble_eq_true rfl) (fun a oe cls d pn => (pss_one (ps_set (i := 2) sc_Lasked.nd rfl (by first | exact Or.inl rfl | exact Or.inr rfl) (pv 4)))))
      (pss_cons (ps_if (pt_cmpR op_isN (pv 2) pe_non (nomark _)) (pss_one (ps_ret (pv 3))) pss_nil)
      (pss_cons (ps_if (pt_cmpR op_eq (pe_c h_Lclass hr (by decide) rfl (pa_cons (pv 2) pa_nil)) pe_str (nomark _)) (pss_one (ps_ret (pe_lst (pa_cons pe_str (pa_cons (pe_kf (pv 2)) pa_nil))))) pss_nil)
      (pss_one (ps_ret (pe_lst (pa_cons (pe_c h_Lclass hr (by decide) rfl (pa_cons (pv 2) pa_nil)) pa_nil))))))))), fun z ds C h => ?_⟩
  · rcases h with ⟨_, e, _⟩ | ⟨_, e, _⟩ <;> (rw [e]; rfl)
  rcases h with ⟨ns, e, q1, q2⟩ | ⟨x, e, hx, q1, q2⟩
  · subst e
    (repeat' (first | refine XS.seq ?_ | refine XS.set ?_ | refine XS.ite ?_ | refine XE.var rfl ?_ | refine XE.int ?_ | refine XE.non ?_ | refine XE.op dr_eq ?_ | refine XT.test ?_ | refine go_eq rfl rfl rfl ?_ | refine go_bl ?_))
    refine ite2 (fun _ => ?_) (fun h => absurd rfl h)
    refine XS.trySetT (i := 4) (j := 2) (q := 3) (Wp := W_text_of c) (Xe := fun _ e => e = ⟨c.NoPoly, [("at", optD (faultOf ns).2)]⟩ ∧ (faultOf ns).1 = false) ?_ ?_ (by decide) (Nat.le_of_ble_eq_true rfl)
    · (repeat' (first | refine XE.var rfl ?_ | refine XA.nil ?_ | refine XA.cons ?_))
      refine ⟨ns, rfl, fun hf => ?_, fun hf => ⟨rfl, hf⟩⟩
      (repeat' (first | refine XS.seq ?_ | refine XS.ite ?_ | refine XE.var rfl ?_ | refine XE.non ?_ | refine XE.op dr_isN ?_ | refine XT.test ?_))
      refine ⟨rfl, ?_⟩
      (repeat' (first | refine XS.ret ?_ | refine XE.var rfl ?_ | refine go_bl ?_))
      exact q1 hf
    · rintro m' e ⟨rfl, hf⟩
      refine ⟨T.any_NoPoly, ?_⟩
      (repeat' (first | refine XS.seq ?_ | refine XS.ite ?_ | refine XE.var rfl ?_ | refine XE.non ?_ | refine XE.op dr_isN ?_ | refine XT.test ?_))
      refine ⟨rfl, ?_⟩
      (repeat' (first | refine XS.next ?_ | refine XS.seq ?_ | refine XS.ite ?_ | refine XE.var rfl ?_ | refine XE.op dr_eq ?_ | refine XE.call ?_ | refine XA.nil ?_ | refine XA.cons ?_ | refine XT.test ?_ | refine go_bl ?_))
      refine ⟨_, some 0, rfl, .inr ⟨_, _, 0, rfl, rfl, by decide, T.row_NoPoly, T.exc_NoPoly⟩, ?_⟩
      (repeat' (first | refine XS.ret ?_ | refine XE.str ?_ | refine XE.ofN (XN.lst ?_) | refine XA.cons ?_ | refine go_eq rfl rfl rfl ?_ | refine go_bl ?_))
      refine XE.kf ?_
      (repeat' (first | refine XE.var rfl ?_))
      refine ⟨_, _, _, rfl, T.exc_NoPoly, T.no_NoPoly, rfl, ?_⟩
      (repeat' (first | refine XA.nil ?_ | refine go_len rfl ?_))
      exact q2 hf
  · subst e
    (repeat' (first | refine XS.seq ?_ | refine XS.set ?_ | refine XS.ite ?_ | refine XE.var rfl ?_ | refine XE.int ?_ | refine XE.non ?_ | refine XE.op dr_eq ?_ | refine XT.test ?_ | refine go_eq rfl rfl rfl ?_ | refine go_bl ?_))
    refine ite2 (fun h => absurd h (by decide)) (fun _ => ?_)
    refine XS.trySetT (i := 4) (j := 2) (q := 3) (Wp := W_read_poly c) (Xe := fun _ e => e = noText c ∧ readP x = none) ?_ ?_ (by decide) (Nat.le_of_ble_eq_true rfl)
    · (repeat' (first | refine XE.var rfl ?_ | refine XA.nil ?_ | refine XA.cons ?_))
      refine ⟨x, rfl, hx, fun ns hf => ?_, fun hf => ⟨rfl, hf⟩⟩
      (repeat' (first | refine XS.seq ?_ | refine XS.ite ?_ | refine XE.var rfl ?_ | refine XE.non ?_ | refine XE.op dr_isN ?_ | refine XT.test ?_))
      refine ⟨rfl, ?_⟩
      (repeat' (first | refine XS.ret ?_ | refine XE.var rfl ?_ | refine go_bl ?_))
      exact q1 ns hf
    · rintro m' e ⟨rfl, hf⟩
      refine ⟨T.any_NoText, ?_⟩
      (repeat' (first | refine XS.seq ?_ | refine XS.ite ?_ | refine XE.var rfl ?_ | refine XE.non ?_ | refine XE.op dr_isN ?_ | refine XT.test ?_))
      refine ⟨rfl, ?_⟩
      (repeat' (first | refine XS.next ?_ | refine XS.seq ?_ | refine XS.ite ?_ | refine XE.var rfl ?_ | refine XE.op dr_eq ?_ | refine XE.call ?_ | refine XA.nil ?_ | refine XA.cons ?_ | refine XT.test ?_ | refine go_bl ?_))
      refine ⟨_, some 8, rfl, .inr ⟨_, _, 8, rfl, rfl, by decide, T.row_NoText, T.exc_NoText⟩, ?_⟩
      (repeat' (first | refine XS.next ?_ | refine XS.ret ?_ | refine XE.var rfl ?_ | refine XE.str ?_ | refine XE.ofN (XN.lst ?_) | refine XE.call ?_ | refine XA.nil ?_ | refine XA.cons ?_ | refine go_eq rfl rfl rfl ?_ | refine go_bl ?_))
      refine ⟨_, some 8, rfl, .inr ⟨_, _, 8, rfl, rfl, by decide, T.row_NoText, T.exc_NoText⟩, ?_⟩
      (repeat' (first | refine XA.nil ?_ | refine go_len rfl ?_))
      exact q2 hf
end
end My

/-! ### walks: the law of polynomials as texts, f: what is drawn -/
namespace My
open PySem PySem.Spec PyProof.Rows L2
open C8 (Cal pe_c pe_gc InsC call_isC)
def W_Ldraw : WpP := fun m ds C => ∃ n : Int, ds = [.int n] ∧ 0 < n ∧ n < 2 ^ 200 ∧ m ≤ 2 ^ 30 ∧ ∀ z : Int, 0 ≤ z → z < n → C (m + 20) (.int z)
theorem LeX.ofXt {a : Addr} {H H' : Hp} (x : Xt a H H') : LeX [a] H H' := fun b o hb ho => .inl (x b o (by simpa using hb) ho)
theorem ad_Ldraw {vs : List V} {H : Hp} {Q : VK} {E : XK} (h : spP W_Ldraw vs H Q E) : sp_Ldraw vs H Q E := by
  obtain ⟨a, us, G, m, ds, C, rfl, aG, hp, hd, r, ⟨n, rfl, h0, h1, hm, c⟩, k⟩ := h
  cases r with
  | cons r t =>
    cases r; cases t
    exact ⟨a, n, m, rfl, h0, h1, hp, hm, fun H' z x p z0 z1 => k _ _ _ H' (c z z0 z1) (.ofXt x) p (.int _)⟩
def W_Llist : WpP := fun m ds C => ds = [] ∧ m ≤ 2 ^ 27 ∧ ∀ (ns : List Int) (m' : Nat), m' ≤ m + 200 → ns.length ≤ 6 → (∀ n ∈ ns, n.natAbs ≤ 101) → C m' (nsD ns)
theorem many_of {z : Int} (a0 : 0 ≤ z) (a1 : z < 10) : ∃ k : Nat, k ≤ 6 ∧ atI [Dat.int 2, .int 3, .int 4, .int 5, .int 5, .int 4, .int 3, .int 1, .int 6, .int 0] z = some (.int (k : Nat)) := by
  have : z = 0 ∨ z = 1 ∨ z = 2 ∨ z = 3 ∨ z = 4 ∨ z = 5 ∨ z = 6 ∨ z = 7 ∨ z = 8 ∨ z = 9 := by omega
  rcases this with rfl | rfl | rfl | rfl | rfl | rfl | rfl | rfl | rfl | rfl
  · exact ⟨2, by decide, rfl⟩
  · exact ⟨3, by decide, rfl⟩
  · exact ⟨4, by decide, rfl⟩
  · exact ⟨5, by decide, rfl⟩
  · exact ⟨5, by decide, rfl⟩
  · exact ⟨4, by decide, rfl⟩
  · exact ⟨3, by decide, rfl⟩
  · exact ⟨1, by decide, rfl⟩
  · exact ⟨6, by decide, rfl⟩
  · exact ⟨0, by decide, rfl⟩
theorem far_of {z : Int} (a0 : 0 ≤ z) (a1 : z < 4) : ∃ k : Int, 0 < k ∧ k ≤ 101 ∧ atI [Dat.int 2, .int 5, .int 30, .int 101] z = some (.int k) := by
  have : z = 0 ∨ z = 1 ∨ z = 2 ∨ z = 3 := by omega
  rcases this with rfl | rfl | rfl | rfl
  · exact ⟨2, by decide, by decide, rfl⟩
  · exact ⟨5, by decide, by decide, rfl⟩
  · exact ⟨30, by decide, by decide, rfl⟩
  · exact ⟨101, by decide, by decide, rfl⟩
section
variable {c : Cs} {P : Program} {w : World} {K : PySem.W.Frag} {mg : Str → Option Value} {base : Heap}
abbrev s_Llist : Stmt := top 54
abbrev N_Llist : List Str := ["_law_purse_here", "_law_many", "_law_far", "_law_found", "_law_k"]
abbrev P_Llist : List Str := ["_law_purse_here"]
theorem sc_Llist : FnScope N_Llist ["_law_purse_here"] (defScope s_Llist) := ⟨rfl, rfl, rfl, by decide +kernel, rfl, by decide +kernel, by decide +kernel⟩

theorem ok_Llist (T : Txt K mg c) {f : Addr} {fd : FuncData} (F : L2.Fun K "_law_list" "_law_list" s_Llist f fd) (h_Ldraw : Cal P w K mg base 2 "_law_draw" (spP W_Ldraw) []) : FnOk P w K mg base CX0 3 f fd P_Llist (spP W_Llist) := by
  refine okP F sc_Llist (by decide) (fun m ds C ⟨e, _⟩ => by rw [e]; rfl) fun cdv A outer s H E hr => ⟨_, (pss_cons (ps_set (i := 1) sc_Llist.nd rfl (by first | exact Or.inl rfl | exact Or.inr rfl) (pe_ix ix_list (pe_lst (pa_cons pe_int (pa_cons pe_int (pa_cons pe_int (pa_cons pe_int (pa_cons pe_int (pa_cons pe_int (pa_cons pe_int (pa_cons pe_int (pa_cons pe_int (pa_cons pe_int pa_nil))))))))))) (pe_c h_Ldraw hr (by decide) rfl (pa_cons (pv 0) (pa_cons pe_int pa_nil))) (fun _ _ => rfl)))
      (pss_cons (ps_set (i := 2) sc_Llist.nd rfl (by first | exact Or.inl rfl | exact Or.inr rfl) (pe_ix ix_list (pe_lst (pa_cons pe_int (pa_cons pe_int (pa_cons pe_int (pa_cons pe_int pa_nil))))) (pe_c h_Ldraw hr (by decide) rfl (pa_cons (pv 0) (pa_cons pe_int pa_nil))) (fun _ _ => rfl)))
      (pss_cons (ps_setLc (i := 3) (own := [("_law_k", 4)]) (g := gName 4) (by rfl) sc_Llist.nd rfl rfl (sw_true rfl rfl rfl (by decide +kernel)) (pi_range1 rfl T.z_range (pa_cons (pv 1) pa_nil)) (blkOk_by (own := [("_law_k", 4)]) (N := N_Llist) (sc := defScope s_Llist) (by decide +kernel)) (fun _ _ _ _ _ => (pg_name (i := 4) sc_Llist.nd rfl (by first | exact Or.inl rfl | exact Or.inr rfl))) (fun _ _ _ _ _ => pts_nil) (fun _ _ _ _ _ => (pe_op op_sub (pe_c h_Ldraw hr (by decide) rfl (pa_cons (pv 0) (pa_cons (pe_op op_add (pe_op op_mulW pe_int (pv 2)) pe_int) pa_nil))) (pv 2))))
      (pss_cons (ps_if (PW.pt (pw_and (pt_cmpR (op_neD hr.units) (pv 3) (pe_lst pa_nil) (nomark _)) (pw_and1 (pt_cmpR op_gt (pe_c h_Ldraw hr (by decide) rfl (pa_cons (pv 0) (pa_cons pe_int pa_nil))) pe_int (nomark _))))) (pss_one (ps_asg pe_int (pg_sub (pv 3) (pe_un un_neg pe_int) set_list))) pss_nil)
      (pss_cons (ps_if (PW.pt (pw_and (pt_cmpR op_eq (pv 1) pe_int (nomark _)) (pw_and1 (pt_cmpR op_gt (pe_c h_Ldraw hr (by decide) rfl (pa_cons (pv 0) (pa_cons pe_int pa_nil))) pe_int (nomark _))))) (pss_one (ps_set (i := 3) sc_Llist.nd rfl (by first | exact Or.inl rfl | exact Or.inr rfl) (pe_lst (pa_cons (pe_ix ix_list (pv 3) pe_int (fun _ _ => rfl)) (pa_cons pe_int (pa_cons (pe_ix ix_list (pv 3) pe_int (fun _ _ => rfl)) (pa_cons pe_int (pa_cons (pe_ix ix_list (pv 3) pe_int (fun _ _ => rfl)) pa_nil)))))))) pss_nil)
      (pss_one (ps_ret (pv 3)))))))), fun z m ds C ⟨e, hm, q⟩ => ?_⟩
  subst e
  (repeat' (first | refine XS.seq ?_ | refine XS.set ?_ | refine XE.int ?_ | refine XE.op dr_ixL ?_ | refine XE.ofN (XN.lst ?_) | refine XE.callP rfl ?_ | refine XA.nil ?_ | refine XA.cons ?_ | refine go_len rfl ?_))
  refine ⟨10, rfl, by decide, by decide, by omega, fun z1 a0 a1 => ?_⟩
  obtain ⟨k, k6, hk⟩ := many_of a0 a1
  refine go_ix hk ?_
  (repeat' (first | refine XS.seq ?_ | refine XS.set ?_ | refine XE.int ?_ | refine XE.op dr_ixL ?_ | refine XE.ofN (XN.lst ?_) | refine XE.callP rfl ?_ | refine XA.nil ?_ | refine XA.cons ?_ | refine go_len rfl ?_))
  refine ⟨4, rfl, by decide, by decide, by omega, fun z2 b0 b1 => ?_⟩
  obtain ⟨far, f0, f1, hf⟩ := far_of b0 b1
  refine go_ix hf ?_
  (repeat' (first | refine XS.seq ?_ | refine XS.setO (i := 3) ?_))
  refine XN.lc (XI.rng1 ?_)
  (repeat' (first | refine XE.var rfl ?_ | refine XA.nil ?_ | refine XA.cons ?_ | refine go_rg1 ?_ ?_))
  · omega
  refine ⟨fun i acc m' => ∃ ns : List Int, acc = ns.map Dat.int ∧ ns.length = i ∧ (∀ n ∈ ns, n.natAbs ≤ 101) ∧ m' = m + 20 + 20 + 20 * i, ⟨[], rfl, rfl, (fun _ h => nomatch h), rfl⟩, fun i d acc m2 hi ⟨ns, e1, e2, e3, e4⟩ => ?_, fun acc m2 ⟨ns, e1, e2, e3, e4⟩ => ?_⟩
  · obtain ⟨hi, rfl⟩ := rngD_get hi
    have hi : i < k := by omega
    subst e1 e4
    have cm : CMulW 2 far := cmul_small (by decide) (by omega)
    (repeat' (first | (guard_target =~ XE _ _ _ _ _; first | refine XE.var rfl ?_ | refine XE.int ?_ | refine XE.op dr_I0 ?_ | refine XE.op dr_I ?_ | refine XE.callP rfl ?_) | (guard_target =~ XA _ _ _ _ _; first | refine XA.nil ?_ | refine XA.cons ?_) | (guard_target =~ XT _ _ _ _ _; first | refine XT.yes ?_) | (guard_target =~ XG _ _ _ _ _ _; first | refine XG.name rfl ?_) | refine go_I0 ?_ | refine go_I ?_ ?_))
    · exact cm
    refine ⟨2 * far + 1, rfl, by omega, by omega, by omega, fun z3 c0 c1 => ?_⟩
    (repeat' (first | refine XE.var rfl ?_ | refine go_I0 ?_))
    refine ⟨by rw [List.length_map]; omega, ns ++ [z3 - far], by rw [List.map_append]; rfl, by rw [List.length_append, e2]; rfl, fun n hn => ?_, by omega⟩
    rcases List.mem_append.mp hn with h | h
    · exact e3 n h
    · rw [List.mem_singleton.mp h]; omega
  subst e1 e4
  have lk : ns.length = k := by rw [e2]; unfold rngD; rw [List.length_map, List.length_range]; omega
  refine XS.seq (XS.cut (N := fun g1 m1 => ∃ (ns : List Int) (s4 : Sl), g1 = [.pu, .dt (.int (k : Nat)), .dt (.int far), .ow (ns.map Dat.int), s4] ∧ ns.length = k ∧ (∀ n ∈ ns, n.natAbs ≤ 101) ∧ m1 ≤ m + 180) ?_ fun g1 m1 ⟨ns2, s4, eg, l2, h2, em⟩ => ?_)
  · have lr : (rngD 0 ((k : Nat) : Int).toNat).length = k := by unfold rngD; rw [List.length_map, List.length_range]; omega
    rw [lr]
    have fin : ∀ (ns : List Int) (s4 : Sl) (m1 : Nat), ns.length = k → (∀ n ∈ ns, n.natAbs ≤ 101) → m1 ≤ m + 180 → ∃ (ns' : List Int) (s4' : Sl), [Sl.pu, .dt (.int (k : Nat)), .dt (.int far), .ow (ns.map Dat.int), s4] = [Sl.pu, .dt (.int (k : Nat)), .dt (.int far), .ow (ns'.map Dat.int), s4'] ∧ ns'.length = k ∧ (∀ n ∈ ns', n.natAbs ≤ 101) ∧ m1 ≤ m + 180 := fun ns s4 m1 h1 h2 h3 => ⟨ns, s4, rfl, h1, h2, h3⟩
    refine XS.ite (XT.and (XT.test (XE.neOD (i := 3) rfl ?_)))
    (repeat' (first | refine XE.ofN (XN.lst ?_) | refine XA.nil ?_ | refine go_len rfl ?_))
    refine ⟨cmp_ns [], cmp_ns ns, ?_⟩
    rw [show eqD (Dat.lst (ns.map Dat.int)) (Dat.lst []) = decide (ns = []) from eqD_ns _ []]
    (repeat' (first | refine go_bl ?_))
    refine ite2 (fun hc => ?_) (fun hc => ?_)
    · have hc : ns ≠ [] := fun h => by
        rw [decide_eq_true h] at hc
        cases hc
      have lp : 0 < ns.length := List.length_pos_iff.mpr hc
      (repeat' (first | refine XE.int ?_ | refine XE.op dr_I0 ?_ | refine XE.callP rfl ?_ | refine XA.nil ?_ | refine XA.cons ?_ | refine XT.test ?_))
      refine ⟨6, rfl, by decide, by decide, by omega, fun z3 c0 c1 => ?_⟩
      (repeat' (first | refine XE.int ?_ | refine go_I0 ?_ | refine go_bl ?_))
      refine ite2 (fun hd => ?_) (fun hd => ?_)
      · (repeat' (first | refine XS.setI (i := 3) rfl ?_ | refine XE.int ?_ | refine XE.unI ?_ | refine go_un ?_))
        refine go_put (j := ns.length - 1) (by rw [List.length_map]; unfold ixN; rw [if_neg (by decide), if_pos (by omega)]; congr 1; omega) ?_
        refine ⟨ns.set (ns.length - 1) 1, _, by rw [List.map_set]; rfl, by rw [List.length_set]; exact lk, fun n hn => ?_, by omega⟩
        rcases List.mem_or_eq_of_mem_set hn with h | h
        · exact e3 n h
        · rw [h]; decide
      · (repeat' (first | refine XS.next ?_))
        exact fin ns .un _ lk e3 (by omega)
    · (repeat' (first | refine XS.next ?_))
      exact fin ns .un _ lk e3 (by omega)
  · subst eg
    refine XS.seq (XS.cut (N := fun g1 m1 => ∃ (ns : List Int) (s4 : Sl), g1 = [.pu, .dt (.int (k : Nat)), .dt (.int far), .ow (ns.map Dat.int), s4] ∧ ns.length ≤ 6 ∧ (∀ n ∈ ns, n.natAbs ≤ 101) ∧ m1 ≤ m + 200) ?_ fun g1 m1 ⟨ns2, s4, eg, l2, h2, em⟩ => ?_)
    · (repeat' (first | refine XS.ite ?_ | refine XE.var rfl ?_ | refine XE.int ?_ | refine XE.op dr_eq ?_ | refine XT.test ?_ | refine XT.and ?_ | refine go_eq rfl rfl rfl ?_ | refine go_bl ?_))
      refine ite2 (fun hc => ?_) (fun hc => ?_)
      · have k5 : k = 5 := by
          have : ((k : Nat) : Int) = 5 := of_decide_eq_true (show decide (((k : Nat) : Int) = 5) = true from hc)
          omega
        (repeat' (first | refine XE.int ?_ | refine XE.op dr_I0 ?_ | refine XE.callP rfl ?_ | refine XA.nil ?_ | refine XA.cons ?_ | refine XT.test ?_))
        refine ⟨6, rfl, by decide, by decide, by omega, fun z3 c0 c1 => ?_⟩
        (repeat' (first | refine XE.int ?_ | refine go_I0 ?_ | refine go_bl ?_))
        refine ite2 (fun hd => ?_) (fun hd => ?_)
        · rw [k5] at l2
          rcases ns2 with _ | ⟨n0, _ | ⟨n1, _ | ⟨n2, _ | ⟨n3, _ | ⟨n4, _ | ⟨n5, r⟩⟩⟩⟩⟩⟩
          all_goals first | (exfalso; simp at l2; done) | skip
          (repeat' (first | refine XS.setO (i := 3) ?_ | refine XE.int ?_ | refine XE.ixO rfl ?_ | refine XN.lst ?_ | refine XA.nil ?_ | refine XA.cons ?_ | refine go_len rfl ?_ | refine go_ixO rfl ?_))
          refine ⟨[n0, 0, n2, 0, n4], _, rfl, by simp, fun n hn => ?_, by omega⟩
          simp only [List.mem_cons, List.not_mem_nil, or_false] at hn
          rcases hn with rfl | rfl | rfl | rfl | rfl
          · exact h2 _ (by simp)
          · decide
          · exact h2 _ (by simp)
          · decide
          · exact h2 _ (by simp)
        · (repeat' (first | refine XS.next ?_))
          exact ⟨ns2, _, rfl, by omega, h2, by omega⟩
      · (repeat' (first | refine XS.next ?_))
        exact ⟨ns2, _, rfl, by omega, h2, by omega⟩
    · subst eg
      (repeat' (first | refine XS.retO (i := 3) rfl ?_))
      exact q ns2 m1 em l2 h2
end
end My

/-! ### walks: the law of polynomials as texts, g: texts bent -/
namespace My
open PySem PySem.StrLaws PySem.Builtin PySem.Builtin.Str PySem.NumText PyProof.Rows L2
def sumC (p : Nat → Bool) (l : List Str) : Nat := (l.map (cnt p)).sum
theorem cnt_join (p : Nat → Bool) (y : Str) : ∀ l : List Str, cnt p (Txt.join y l) = sumC p l + (l.length - 1) * cnt p y
  | [] => by
    show cnt p "" = 0 + (0 - 1) * _
    rw [Nat.zero_sub, Nat.zero_mul]
    have : cp ("" : Str) = [] := cp_e
    unfold cnt
    rw [this]
    rfl
  | [a] => by
    show cnt p a = cnt p a + 0 + (1 - 1) * _
    omega
  | a :: b :: l => by
    have h := cnt_join p y (b :: l)
    have e : Txt.join y (a :: b :: l) = a ++ y ++ Txt.join y (b :: l) := by
      rw [show Txt.join y (a :: b :: l) = _ from StrLaws.glued_eq_join y _, show Txt.join y (b :: l) = _ from StrLaws.glued_eq_join y _]
      rfl
    rw [e, cnt_app, cnt_app, h]
    show cnt p a + cnt p y + (sumC p (b :: l) + ((b :: l).length - 1) * cnt p y) = (cnt p a + sumC p (b :: l)) + ((a :: b :: l).length - 1) * cnt p y
    rw [List.length_cons, List.length_cons, Nat.add_sub_cancel, Nat.add_sub_cancel, List.length_cons, Nat.add_mul, Nat.one_mul]
    omega
theorem cnt_blank (p : Nat → Bool) : cnt p " " = 0 ∨ cnt p " " = 1 := by
  have : cp (" " : Str) = [32] := cp_lit (by decide +kernel)
  unfold cnt
  rw [this, List.countP_cons, List.countP_nil]
  split <;> simp
theorem sumC_app (p : Nat → Bool) (l r : List Str) : sumC p (l ++ r) = sumC p l + sumC p r := by
  unfold sumC
  rw [List.map_append, List.sum_append]
theorem sumC_take (p : Nat → Bool) (l : List Str) (k : Nat) : sumC p (l.take k) + sumC p (l.drop k) = sumC p l := by
  rw [← sumC_app, List.take_append_drop]
theorem sumC_rev (p : Nat → Bool) (l : List Str) : sumC p l.reverse = sumC p l := by
  unfold sumC
  rw [List.map_reverse, List.sum_reverse]
theorem sumC_drop1 (p : Nat → Bool) (l : List Str) (k : Nat) : sumC p (l.drop (k + 1)) ≤ sumC p (l.drop k) := by
  rw [← List.drop_drop]
  have := sumC_take p (l.drop k) 1
  omega
theorem sumC_mem (p : Nat → Bool) {l : List Str} {x : Str} (h : x ∈ l) : cnt p x ≤ sumC p l := by
  induction l with
  | nil => cases h
  | cons a r ih =>
    show _ ≤ cnt p a + sumC p r
    rcases List.mem_cons.mp h with h | h
    · rw [h]; omega
    · have := ih h; omega
theorem sumC_set (p : Nat → Bool) (l : List Str) (k : Nat) (w : Str) : sumC p (l.set k w) ≤ sumC p l + cnt p w := by
  induction l generalizing k with
  | nil => simp [sumC]
  | cons a r ih =>
    cases k with
    | zero =>
      show cnt p w + sumC p r ≤ cnt p a + sumC p r + cnt p w
      omega
    | succ k =>
      have := ih k
      show cnt p a + sumC p (r.set k w) ≤ cnt p a + sumC p r + cnt p w
      omega
theorem sumC_len (l : List Str) : (l.map (·.length)).sum = sumC (fun _ => true) l := by
  unfold sumC
  congr 1
  refine List.map_congr_left fun x _ => ?_
  unfold cnt
  rw [List.countP_true, cp_len]
theorem cnt_true (x : Str) : cnt (fun _ => true) x = x.length := by
  unfold cnt
  rw [List.countP_true, cp_len]
/-- a text's pieces between blanks -/
theorem split_sum (p : Nat → Bool) (x : Str) : sumC p (Txt.split x " ") + ((Txt.split x " ").length - 1) * cnt p " " = cnt p x := by
  rw [← cnt_join]
  rw [show Txt.join " " (Txt.split x " ") = _ from StrLaws.glued_eq_join _ _]
  exact congrArg (cnt p) (join_split x " ")
theorem split_pos (x : Str) : 0 < (Txt.split x " ").length := by
  unfold Txt.split
  split
  · simp
  · split
    · simp
    · rw [partsBetween_eq]
      cases occurrences x " " 0 x.length (x.length + 1) <;> simp [partsFrom]
/-- a text bent: at most each sign twice, and four signs more -/
def Bent (t t' : Str) : Prop := ∃ e : Str, cnt bigC e = 0 ∧ e.length ≤ 4 ∧ ∀ p, cnt p t' ≤ 2 * cnt p t + cnt p e
theorem cnt_e (p : Nat → Bool) : cnt p "" = 0 := by
  unfold cnt
  rw [cp_e]
  rfl
theorem bent_cut (t : Str) (a b : Option Int) : Bent t (cutS t none a ++ cutS t b none) := ⟨"", cnt_e _, by decide +kernel, fun p => by
  have h1 := cnt_cut p t none a
  have h2 := cnt_cut p t b none
  rw [cnt_app]
  omega⟩
theorem bent_ins (t w : Str) (a b : Option Int) (hw : cnt bigC w = 0) (hl : w.length ≤ 4) : Bent t ((cutS t none a ++ w) ++ cutS t b none) := ⟨w, hw, hl, fun p => by
  have h1 := cnt_cut p t none a
  have h2 := cnt_cut p t b none
  rw [cnt_app, cnt_app]
  omega⟩
theorem bent_out (t : Str) (k : Nat) : Bent t (Txt.join " " ((Txt.split t " ").take k ++ (Txt.split t " ").drop (k + 1))) := ⟨"", cnt_e _, by decide +kernel, fun p => by
  have h := split_sum p t
  have h1 := sumC_take p (Txt.split t " ") k
  have h2 := sumC_drop1 p (Txt.split t " ") k
  have hl : ((Txt.split t " ").take k ++ (Txt.split t " ").drop (k + 1)).length ≤ (Txt.split t " ").length := by rw [List.length_append, List.length_take, List.length_drop]; omega
  rw [cnt_join, sumC_app]
  rcases cnt_blank p with e | e
  · rw [e] at h ⊢; omega
  · rw [e] at h ⊢; omega⟩
theorem bent_two (t : Str) {k : Nat} {x : Str} (hx : (Txt.split t " ")[k]? = some x) : Bent t (Txt.join " " (((Txt.split t " ").take k ++ [x]) ++ (Txt.split t " ").drop k)) := ⟨" ", by decide +kernel, by decide +kernel, fun p => by
  have h := split_sum p t
  have h1 := sumC_take p (Txt.split t " ") k
  have h2 := sumC_mem p (List.mem_of_getElem? hx)
  have hp := split_pos t
  have hk : k < (Txt.split t " ").length := (List.getElem?_eq_some_iff.mp hx).1
  have hl : (((Txt.split t " ").take k ++ [x]) ++ (Txt.split t " ").drop k).length = (Txt.split t " ").length + 1 := by
    rw [List.length_append, List.length_append, List.length_take, List.length_drop, List.length_singleton]; omega
  have h3 : sumC p [x] = cnt p x := by simp [sumC]
  rw [cnt_join, sumC_app, sumC_app, h3, hl]
  rcases cnt_blank p with e | e
  · rw [e] at h ⊢; omega
  · rw [e] at h ⊢; omega⟩
theorem bent_rev (t : Str) : Bent t (Txt.join " " (Txt.split t " ").reverse) := ⟨"", cnt_e _, by decide +kernel, fun p => by
  have h := split_sum p t
  rw [cnt_join, sumC_rev, List.length_reverse, h]
  omega⟩
theorem bent_set (t w : Str) (k : Nat) (hw : cnt bigC w = 0) (hl : w.length ≤ 4) : Bent t (Txt.join " " ((Txt.split t " ").set k w)) := ⟨w, hw, hl, fun p => by
  have h := split_sum p t
  have h1 := sumC_set p (Txt.split t " ") k w
  rw [cnt_join, List.length_set]
  omega⟩
/-- the sizes of lists that are joined -/
theorem join_size {t t' : Str} {l : List Str} (hb : Bent t t') (e : t' = Txt.join " " l) (ht : t.length ≤ 900) : (l.map (·.length)).sum + l.length * (" " : Str).length ≤ 16777216 := by
  obtain ⟨x, _, hx, h⟩ := hb
  have h := h fun _ => true
  rw [cnt_true, cnt_true, cnt_true] at h
  have j := cnt_join (fun _ => true) " " l
  rw [← e, cnt_true, cnt_true] at j
  rw [sumC_len]
  have l1 : (" " : Str).length = 1 := by decide +kernel
  rw [l1] at j ⊢
  omega
theorem cutD_to (ls : List Str) (a : Nat) : cutD (ls.map Dat.str) none (some (a : Int)) = (ls.take a).map Dat.str := by
  unfold cutD
  rw [List.length_map]
  have e : HT.sIx ls.length ls.length (some (a : Int)) = min a ls.length := by simp [HT.sIx]; omega
  have e0 : HT.sIx ls.length 0 none = 0 := rfl
  rw [e, e0, List.drop_zero, Nat.sub_zero, ← List.map_take]
  congr 1
  rcases Nat.le_total a ls.length with h | h
  · rw [Nat.min_eq_left h]
  · rw [Nat.min_eq_right h, List.take_of_length_le h, List.take_of_length_le (Nat.le_refl _)]
theorem cutD_from (ls : List Str) (a : Nat) : cutD (ls.map Dat.str) (some (a : Int)) none = (ls.drop a).map Dat.str := by
  unfold cutD
  rw [List.length_map]
  have e : HT.sIx ls.length 0 (some (a : Int)) = min a ls.length := by simp [HT.sIx]; omega
  have e0 : HT.sIx ls.length ls.length none = ls.length := rfl
  rw [e, e0, ← List.map_drop, ← List.map_take]
  congr 1
  rcases Nat.le_total a ls.length with h | h
  · rw [Nat.min_eq_left h]
    exact List.take_of_length_le (by rw [List.length_drop]; omega)
  · rw [Nat.min_eq_right h, List.drop_of_length_le h, List.drop_of_length_le (Nat.le_refl _)]
    simp
end My
namespace My
open PySem PySem.Spec PyProof.Rows L2
open C8 (Cal pe_c pe_gc InsC call_isC)
theorem sign13 {z : Int} (a0 : 0 ≤ z) (a1 : z < 13) : ∃ c, atI (" +-*/^01234xr" : Str).cps.toList z = some c ∧ c < 128 := by
  have e : (" +-*/^01234xr" : Str).cps.toList = [32, 43, 45, 42, 47, 94, 48, 49, 50, 51, 52, 120, 114] := cp_lit (by decide +kernel)
  rw [e]
  have : z = 0 ∨ z = 1 ∨ z = 2 ∨ z = 3 ∨ z = 4 ∨ z = 5 ∨ z = 6 ∨ z = 7 ∨ z = 8 ∨ z = 9 ∨ z = 10 ∨ z = 11 ∨ z = 12 := by omega
  rcases this with rfl | rfl | rfl | rfl | rfl | rfl | rfl | rfl | rfl | rfl | rfl | rfl | rfl
  all_goals exact ⟨_, rfl, by decide⟩
theorem word11 {z : Int} (a0 : 0 ≤ z) (a1 : z < 11) : ∃ w : Str, atI [Dat.str "x", .str "x^2", .str "x^3", .str "x^4", .str "x^5", .str "1", .str "0", .str "2*x", .str "1*x", .str "101", .str "-x"] z = some (.str w) ∧ cnt bigC w = 0 ∧ w.length ≤ 4 := by
  have : z = 0 ∨ z = 1 ∨ z = 2 ∨ z = 3 ∨ z = 4 ∨ z = 5 ∨ z = 6 ∨ z = 7 ∨ z = 8 ∨ z = 9 ∨ z = 10 := by omega
  rcases this with rfl | rfl | rfl | rfl | rfl | rfl | rfl | rfl | rfl | rfl | rfl
  all_goals exact ⟨_, rfl, by decide +kernel, by decide +kernel⟩
theorem one_ok {ch : Nat} (h : ch < 128) : cnt bigC ⟨#[ch]⟩ = 0 := by
  show ([ch].countP bigC) = 0
  rw [List.countP_cons, List.countP_nil, if_neg (by unfold bigC; simp; omega)]
def W_Lbent : WpP := fun m ds C => ∃ t : Str, ds = [.str t] ∧ t.length ≤ 900 ∧ m ≤ 2 ^ 27 ∧ ∀ (t' : Str) (m' : Nat), m' ≤ m + 80 → Bent t t' → C m' (.str t')
section
variable {c : Cs} {P : Program} {w : World} {K : PySem.W.Frag} {mg : Str → Option Value} {base : Heap}
abbrev s_Lbent : Stmt := top 55
abbrev N_Lbent : List Str := ["_law_purse_here", "_law_text", "_law_kind", "_law_spot", "_law_pieces", "_law_at_here"]
abbrev P_Lbent : List Str := ["_law_purse_here", "_law_text"]
theorem sc_Lbent : FnScope N_Lbent ["_law_purse_here", "_law_text"] (defScope s_Lbent) := ⟨rfl, rfl, rfl, by decide +kernel, rfl, by decide +kernel, by decide +kernel⟩

theorem ok_Lbent (T : Txt K mg c) {f : Addr} {fd : FuncData} (F : L2.Fun K "_law_bent" "_law_bent" s_Lbent f fd) (h_Ldraw : Cal P w K mg base 2 "_law_draw" (spP W_Ldraw) []) : FnOk P w K mg base CX0 3 f fd P_Lbent (spP W_Lbent) := by
  refine okP F sc_Lbent (by decide) (fun m ds C ⟨_, e, _⟩ => by rw [e]; rfl) fun cdv A outer s H E hr => ⟨_, (pss_cons (ps_set (i := 2) sc_Lbent.nd rfl (by first | exact Or.inl rfl | exact Or.inr rfl) (pe_c h_Ldraw hr (by decide) rfl (pa_cons (pv 0) (pa_cons pe_int pa_nil))))
      (pss_cons (ps_set (i := 3) sc_Lbent.nd rfl (by first | exact Or.inl rfl | exact Or.inr rfl) (pe_c h_Ldraw hr (by decide) rfl (pa_cons (pv 0) (pa_cons (pe_op op_add (pe_callB call_len_str (by rfl) T.z_len (by decide +kernel) (pa_cons (pv 1) pa_nil)) pe_int) pa_nil))))
      (pss_cons (ps_set (i := 4) sc_Lbent.nd rfl (by first | exact Or.inl rfl | exact Or.inr rfl) (pe_split (pv 1) pe_str))
      (pss_cons (ps_set (i := 5) sc_Lbent.nd rfl (by first | exact Or.inl rfl | exact Or.inr rfl) (pe_c h_Ldraw hr (by decide) rfl (pa_cons (pv 0) (pa_cons (pe_callB call_len_seq (by rfl) T.z_len (by decide +kernel) (pa_cons (pv 4) pa_nil)) pa_nil))))
      (pss_cons (ps_if (pt_cmpR op_eq (pv 2) pe_int (nomark _)) (pss_one (ps_ret (pe_op op_add_str (pe_slice sl_str (pv 1) po_none (po_some (pv 3))) (pe_slice sl_str (pv 1) (po_some (pe_op op_add (pv 3) pe_int)) po_none)))) pss_nil)
      (pss_cons (ps_if (pt_cmpR op_lt (pv 2) pe_int (nomark _)) (pss_one (ps_ret (pe_op op_add_str (pe_op op_add_str (pe_slice sl_str (pv 1) po_none (po_some (pv 3))) (pe_ix ix_str pe_str (pe_c h_Ldraw hr (by decide) rfl (pa_cons (pv 0) (pa_cons pe_int pa_nil))) (fun _ _ => rfl))) (pe_slice sl_str (pv 1) (po_some (pe_op op_sub (pe_op op_add (pv 3) (pv 2)) pe_int)) po_none)))) pss_nil)
      (pss_cons (ps_if (pt_cmpR op_eq (pv 2) pe_int (nomark _)) (pss_one (ps_ret (pe_join pe_str (pe_op op_cat (pe_slice sl_list (pv 4) po_none (po_some (pv 5))) (pe_slice sl_list (pv 4) (po_some (pe_op op_add (pv 5) pe_int)) po_none))))) pss_nil)
      (pss_cons (ps_if (pt_cmpR op_eq (pv 2) pe_int (nomark _)) (pss_one (ps_ret (pe_join pe_str (pe_op op_cat (pe_op op_cat (pe_slice sl_list (pv 4) po_none (po_some (pv 5))) (pe_lst (pa_cons (pe_ix ix_list (pv 4) (pv 5) (fun _ _ => rfl)) pa_nil))) (pe_slice sl_list (pv 4) (po_some (pv 5)) po_none))))) pss_nil)
      (pss_cons (ps_if (pt_cmpR op_eq (pv 2) pe_int (nomark _)) (pss_one (ps_ret (pe_join pe_str (pe_revL (pv 4))))) pss_nil)
      (pss_cons (ps_asg (pe_ix ix_list (pe_lst (pa_cons pe_str (pa_cons pe_str (pa_cons pe_str (pa_cons pe_str (pa_cons pe_str (pa_cons pe_str (pa_cons pe_str (pa_cons pe_str (pa_cons pe_str (pa_cons pe_str (pa_cons pe_str pa_nil)))))))))))) (pe_c h_Ldraw hr (by decide) rfl (pa_cons (pv 0) (pa_cons pe_int pa_nil))) (fun _ _ => rfl)) (pg_sub (pv 4) (pv 5) set_list))
      (pss_one (ps_ret (pe_join pe_str (pv 4)))))))))))))), fun z m ds C ⟨t, e, ht, hm, q⟩ => ?_⟩
  subst e
  have sl := sizeLine_eq
  have sp := split_pos t
  have ss := split_sum (fun _ => true) t
  have l1 : (" " : Str).length = 1 := by decide +kernel
  rw [cnt_true, cnt_true, l1] at ss
  (repeat' (first | refine XS.seq ?_ | refine XS.set ?_ | refine XE.int ?_ | refine XE.callP rfl ?_ | refine XA.nil ?_ | refine XA.cons ?_))
  refine ⟨8, rfl, by decide, by decide, by omega, fun z1 a0 a1 => ?_⟩
  (repeat' (first | (guard_target =~ XS _ _ _ _ _; first | refine XS.seq ?_ | refine XS.set ?_) | (guard_target =~ XE _ _ _ _ _; first | refine XE.var rfl ?_ | refine XE.int ?_ | refine XE.op dr_I0 ?_ | refine XE.callP rfl ?_ | refine XE.cb db_lenT ?_) | (guard_target =~ XA _ _ _ _ _; first | refine XA.nil ?_ | refine XA.cons ?_) | refine go_lenT ?_ ?_ | refine go_I0 ?_))
  · omega
  refine ⟨(t.length : Int) + 1, rfl, by omega, by omega, by omega, fun z2 b0 b1 => ?_⟩
  obtain ⟨sp_, rfl⟩ : ∃ k : Nat, z2 = (k : Int) := ⟨z2.toNat, by omega⟩
  (repeat' (first | (guard_target =~ XS _ _ _ _ _; first | refine XS.seq ?_ | refine XS.setO (i := 4) ?_ | refine XS.set ?_) | (guard_target =~ XE _ _ _ _ _; first | refine XE.var rfl ?_ | refine XE.str ?_ | refine XE.lenO rfl ?_ | refine XE.callP rfl ?_) | (guard_target =~ XN _ _ _ _ _; first | refine XN.spl ?_) | (guard_target =~ XA _ _ _ _ _; first | refine XA.nil ?_ | refine XA.cons ?_) | refine go_spl (by decide +kernel) ?_ ?_ | refine go_str ?_))
  · omega
  have ll : ((PySem.Txt.split t " ").map Dat.str).length = (PySem.Txt.split t " ").length := List.length_map ..
  have lln : (PySem.Txt.split t " ").length < 2 ^ 20 := by omega
  generalize hn : (PySem.Txt.split t " ").length = n at sp ll lln ss
  refine ⟨(n : Int), by rw [ll], by omega, by omega, by omega, fun z3 c0 c1 => ?_⟩
  obtain ⟨k, rfl⟩ : ∃ k : Nat, z3 = (k : Int) := ⟨z3.toNat, by omega⟩
  have hk : k < (PySem.Txt.split t " ").length := by omega
  obtain ⟨x, hx⟩ : ∃ x, (PySem.Txt.split t " ")[k]? = some x := ⟨_, List.getElem?_eq_getElem hk⟩
  have cl : ∀ lo hi, (cutS t lo hi).length ≤ 900 := fun lo hi => Nat.le_trans (cut_len t lo hi) ht
  (repeat' (first | refine XS.seq ?_ | refine XS.ite ?_ | refine XE.var rfl ?_ | refine XE.int ?_ | refine XE.op dr_eq ?_ | refine XT.test ?_ | refine go_eq rfl rfl rfl ?_ | refine go_bl ?_))
  refine ite2 (fun h => ?_) (fun h => ?_)
  · (repeat' (first | (guard_target =~ XS _ _ _ _ _; first | refine XS.ret ?_) | (guard_target =~ XE _ _ _ _ _; first | refine XE.var rfl ?_ | refine XE.int ?_ | refine XE.op dr_I0 ?_ | refine XE.op dr_addS ?_ | refine XE.slS ?_) | (guard_target =~ XO _ _ _ _ _; first | refine XO.no ?_ | refine XO.yes ?_) | refine go_addS ?_ ?_ | refine go_slS ?_ ?_ | refine go_I0 ?_ | refine go_int ?_))
    · omega
    · omega
    · have h1 := cl none (some (sp_ : Int))
      have h2 := cl (some ((sp_ : Int) + 1)) none
      omega
    exact q _ _ (by omega) (bent_cut ..)
  (repeat' (first | refine XS.next ?_ | refine XS.seq ?_ | refine XS.ite ?_ | refine XE.var rfl ?_ | refine XE.int ?_ | refine XE.op dr_I0 ?_ | refine XT.test ?_ | refine go_I0 ?_ | refine go_bl ?_))
  refine ite2 (fun h => ?_) (fun h => ?_)
  · (repeat' (first | (guard_target =~ XS _ _ _ _ _; first | refine XS.ret ?_) | (guard_target =~ XE _ _ _ _ _; first | refine XE.var rfl ?_ | refine XE.int ?_ | refine XE.str ?_ | refine XE.callP rfl ?_ | refine XE.op dr_addS ?_ | refine XE.op dr_ixS ?_ | refine XE.slS ?_) | (guard_target =~ XA _ _ _ _ _; first | refine XA.nil ?_ | refine XA.cons ?_) | (guard_target =~ XO _ _ _ _ _; first | refine XO.no ?_ | refine XO.yes ?_) | refine go_slS ?_ ?_ | refine go_int ?_))
    · omega
    refine ⟨13, rfl, by decide, by decide, by omega, fun z4 d0 d1 => ?_⟩
    obtain ⟨ch, hch, lch⟩ := sign13 d0 d1
    refine go_ixS (by decide +kernel) hch ?_
    have h1 := cl none (some (sp_ : Int))
    have h2 := cl (some ((sp_ : Int) + z1 - 1)) none
    have h3 : (⟨#[ch]⟩ : Str).length = 1 := rfl
    (repeat' (first | refine XE.var rfl ?_ | refine XE.int ?_ | refine XE.op dr_I0 ?_ | refine XE.slS ?_ | refine XO.no ?_ | refine XO.yes ?_ | refine go_addS ?_ ?_ | refine go_slS ?_ ?_ | refine go_I0 ?_ | refine go_int ?_))
    · omega
    · omega
    · rw [Str.length_append]; omega
    exact q _ _ (by omega) (bent_ins t _ _ _ (one_ok lch) (by rw [h3]; decide))
  (repeat' (first | refine XS.next ?_ | refine XS.seq ?_ | refine XS.ite ?_ | refine XE.var rfl ?_ | refine XE.int ?_ | refine XE.op dr_eq ?_ | refine XT.test ?_ | refine go_eq rfl rfl rfl ?_ | refine go_bl ?_))
  refine ite2 (fun h => ?_) (fun h => ?_)
  · refine XS.ret (XE.joinN ?_)
    (repeat' (first | refine XE.str ?_ | refine XE.ofN (XN.op dn_cat ?_) | refine go_str ?_))
    refine XE.ofN (XN.slO (i := 4) rfl ?_)
    (repeat' (first | refine XE.var rfl ?_ | refine XO.no ?_ | refine XO.yes ?_ | refine go_int ?_))
    refine XE.ofN (XN.slO (i := 4) rfl ?_)
    (repeat' (first | refine XE.var rfl ?_ | refine XE.int ?_ | refine XE.op dr_I0 ?_ | refine XO.no ?_ | refine XO.yes ?_ | refine go_I0 ?_ | refine go_cat ?_ ?_ | refine go_int ?_))
    · rw [cutD_to, show ((k : Int) + 1) = ((k + 1 : Nat) : Int) by omega, cutD_from, List.length_map, List.length_map, List.length_take, List.length_drop]
      omega
    rw [cutD_to, show ((k : Int) + 1) = ((k + 1 : Nat) : Int) by omega, cutD_from, ← List.map_append]
    refine ⟨_, rfl, join_size (bent_out t k) rfl ht, ?_⟩
    exact q _ _ (by omega) (bent_out t k)
  (repeat' (first | refine XS.next ?_ | refine XS.seq ?_ | refine XS.ite ?_ | refine XE.var rfl ?_ | refine XE.int ?_ | refine XE.op dr_eq ?_ | refine XT.test ?_ | refine go_eq rfl rfl rfl ?_ | refine go_bl ?_))
  refine ite2 (fun h => ?_) (fun h => ?_)
  · refine XS.ret (XE.joinN ?_)
    (repeat' (first | refine XE.str ?_ | refine XE.ofN (XN.op dn_cat ?_) | refine go_str ?_))
    refine XE.ofN (XN.slO (i := 4) rfl ?_)
    (repeat' (first | refine XE.var rfl ?_ | refine XE.ixO rfl ?_ | refine XE.ofN (XN.lst ?_) | refine XA.cons ?_ | refine XO.no ?_ | refine XO.yes ?_ | refine go_int ?_))
    refine go_ixO (x := .str x) (atI_nat (by rw [List.getElem?_map, hx]; rfl)) ?_
    (repeat' (first | refine XA.nil ?_ | refine go_len rfl ?_ | refine go_cat ?_ ?_))
    · rw [cutD_to, List.length_map, List.length_take, List.length_singleton]
      omega
    rw [cutD_to]
    refine XE.ofN (XN.slO (i := 4) rfl ?_)
    (repeat' (first | refine XE.var rfl ?_ | refine XO.no ?_ | refine XO.yes ?_ | refine go_cat ?_ ?_ | refine go_int ?_))
    · rw [cutD_from, List.length_append, List.length_map, List.length_map, List.length_take, List.length_drop, List.length_singleton]
      omega
    rw [cutD_from, show ((PySem.Txt.split t " ").take k).map Dat.str ++ [Dat.str x] ++ ((PySem.Txt.split t " ").drop k).map Dat.str = ((((PySem.Txt.split t " ").take k ++ [x]) ++ (PySem.Txt.split t " ").drop k)).map Dat.str by rw [List.map_append, List.map_append]; rfl]
    refine ⟨_, rfl, join_size (bent_two t hx) rfl ht, ?_⟩
    exact q _ _ (by omega) (bent_two t hx)
  (repeat' (first | refine XS.next ?_ | refine XS.seq ?_ | refine XS.ite ?_ | refine XE.var rfl ?_ | refine XE.int ?_ | refine XE.op dr_eq ?_ | refine XT.test ?_ | refine go_eq rfl rfl rfl ?_ | refine go_bl ?_))
  refine ite2 (fun h => ?_) (fun h => ?_)
  · refine XS.ret (XE.joinN ?_)
    (repeat' (first | refine XE.str ?_ | refine go_str ?_))
    refine XE.ofN (XN.revO (i := 4) rfl ?_)
    refine ⟨(PySem.Txt.split t " ").reverse, by rw [List.map_reverse], join_size (bent_rev t) rfl ht, ?_⟩
    exact q _ _ (by omega) (bent_rev t)
  (repeat' (first | (guard_target =~ XS _ _ _ _ _; first | refine XS.next ?_ | refine XS.seq ?_ | refine XS.setI (i := 4) rfl ?_) | (guard_target =~ XE _ _ _ _ _; first | refine XE.int ?_ | refine XE.str ?_ | refine XE.op dr_ixL ?_ | refine XE.ofN (XN.lst ?_) | refine XE.callP rfl ?_) | (guard_target =~ XA _ _ _ _ _; first | refine XA.nil ?_ | refine XA.cons ?_) | refine go_len rfl ?_))
  refine ⟨11, rfl, by decide, by decide, by omega, fun z4 d0 d1 => ?_⟩
  obtain ⟨wd, hw, w1, w2⟩ := word11 d0 d1
  refine go_ix hw ?_
  (repeat' (first | refine XE.var rfl ?_))
  refine go_put (j := k) (by rw [List.length_map]; unfold ixN; rw [if_pos (by omega), if_pos (by omega)]; congr 1) ?_
  rw [show ((PySem.Txt.split t " ").map Dat.str).set k (.str wd) = ((PySem.Txt.split t " ").set k wd).map Dat.str from by rw [List.map_set]]
  (repeat' (first | refine XS.ret ?_ | refine XE.str ?_ | refine XE.joinO rfl ?_ | refine go_joinO ?_ ?_))
  · exact join_size (bent_set t wd k w1 w2) rfl ht
  · exact q _ _ (by omega) (bent_set t wd k w1 w2)
end
end My

/-! ### walks: the law of polynomials as texts, h: the law -/
namespace My
open PySem PySem.StrLaws PySem.Builtin PySem.Builtin.Str PySem.NumText PyProof.Rows L2
theorem cnt_natT_big (a : Nat) : cnt bigC (natT a) = 0 := by
  unfold cnt
  rw [cp_nat]
  refine List.countP_eq_zero.mpr fun c hc => ?_
  have := digs_all a c hc
  unfold bigC
  simp
  omega
theorem natT_one_len {j : Nat} (h : j < 10) : (natT j).length = 1 := by
  rw [cp_len, cp_nat]
  have : ∀ n, n < 10 → (digs n).length = 1 := by decide +kernel
  exact this j h
/-- one power's text: its signs of a kind -/
theorem lawT_cnt (p : Nat → Bool) (hx : cnt p "x" ≤ 1) {a j : Nat} : cnt p (lawT a j) ≤ cnt p (natT a) + (if j = 0 then 0 else cnt p "*x" + cnt p "x" + (if 1 < j then cnt p "^" + cnt p (natT j) else 0)) := by
  unfold lawT
  split
  · omega
  · rw [cnt_app]
    have h1 : cnt p (if a = 1 then ("x" : Str) else natT a ++ ("*x" : Str)) ≤ cnt p (natT a) + cnt p "*x" + cnt p "x" := by
      split
      · omega
      · rw [cnt_app]; omega
    have h2 : cnt p (if 1 < j then ("^" : Str) ++ natT j else "") ≤ if 1 < j then cnt p "^" + cnt p (natT j) else 0 := by
      split
      · rw [cnt_app]; exact Nat.le_refl _
      · rw [cnt_e]; exact Nat.le_refl _
    omega
theorem sumI_cnt (p : Nat → Bool) (s : Nat) (h1 : cnt p "-" ≤ s) (h2 : cnt p " - " ≤ s) (h3 : cnt p " + " ≤ s) (ns : List Int) (i : Nat) : cnt p (sumT0 (selI ns (i + 1))) ≤ cnt p (sumT0 (selI ns i)) + s + cnt p (lawT (ns.getD (ns.length - 1 - i) 0).natAbs (ns.length - 1 - i)) := by
  rw [sumI_next rfl]
  split
  · omega
  · rw [lawT_share]
    unfold stepT
    rw [show (absT (ns.getD (ns.length - 1 - i) 0), (ns.getD (ns.length - 1 - i) 0, (1 : Int)).2) = (((ns.getD (ns.length - 1 - i) 0).natAbs : Int), (1 : Int)) from abs_pair _]
    split
    · rw [cnt_app]; omega
    · split
      · omega
      · split
        · rw [cnt_app, cnt_app]; omega
        · rw [cnt_app, cnt_app]; omega
theorem powersL_big (ns : List Int) : cnt bigC (powersL ns) = 0 := by
  have h : ∀ i, cnt bigC (sumT0 (selI ns i)) = 0 := fun i => by
    induction i with
    | zero => exact cnt_e _
    | succ i ih =>
      have h1 := sumI_cnt bigC 0 (by decide +kernel) (by decide +kernel) (by decide +kernel) ns i
      have h2 := lawT_cnt bigC (by decide +kernel) (a := (ns.getD (ns.length - 1 - i) 0).natAbs) (j := ns.length - 1 - i)
      rw [cnt_natT_big, cnt_natT_big, show cnt bigC "*x" = 0 by decide +kernel, show cnt bigC "x" = 0 by decide +kernel, show cnt bigC "^" = 0 by decide +kernel] at h2
      have : cnt bigC (lawT (ns.getD (ns.length - 1 - i) 0).natAbs (ns.length - 1 - i)) = 0 := by
        split at h2
        · omega
        · split at h2 <;> omega
      omega
  exact h ns.length
theorem powersL_fig {ns : List Int} (l6 : ns.length ≤ 6) (sm : ∀ n ∈ ns, n.natAbs < 1000) : cnt isFig (powersL ns) ≤ 24 := by
  have h : ∀ i, i ≤ ns.length → cnt isFig (sumT0 (selI ns i)) ≤ 4 * i := fun i => by
    induction i with
    | zero => intro _; exact Nat.le_of_eq (cnt_e _)
    | succ i ih =>
      intro hi
      have ih := ih (by omega)
      have h1 := sumI_cnt isFig 0 (by decide +kernel) (by decide +kernel) (by decide +kernel) ns i
      have h2 := lawT_cnt isFig (by decide +kernel) (a := (ns.getD (ns.length - 1 - i) 0).natAbs) (j := ns.length - 1 - i)
      have ha : (ns.getD (ns.length - 1 - i) 0).natAbs < 1000 := sm _ (List.mem_of_getElem? (getD_at (by omega)))
      have h3 := Nat.le_trans (cnt_le isFig (natT (ns.getD (ns.length - 1 - i) 0).natAbs)) (natT_len ha)
      have h4 := Nat.le_trans (cnt_le isFig (natT (ns.length - 1 - i))) (Nat.le_of_eq (natT_one_len (show ns.length - 1 - i < 10 by omega)))
      rw [show cnt isFig "*x" = 0 by decide +kernel, show cnt isFig "x" = 0 by decide +kernel, show cnt isFig "^" = 0 by decide +kernel] at h2
      have : cnt isFig (lawT (ns.getD (ns.length - 1 - i) 0).natAbs (ns.length - 1 - i)) ≤ 4 := by
        split at h2
        · omega
        · split at h2 <;> omega
      omega
  have := h ns.length (Nat.le_refl _)
  show cnt isFig (sumT0 (selI ns ns.length)) ≤ 24
  omega
theorem lawT_short {a j : Nat} (ha : a < 1000) (hj : j < 10) : (lawT a j).length ≤ if j = 0 then 3 else 7 := by
  have h1 := natT_len ha
  have h2 := natT_one_len hj
  have ex : ("x" : Str).length = 1 := by decide +kernel
  have es : ("*x" : Str).length = 2 := by decide +kernel
  have eh : ("^" : Str).length = 1 := by decide +kernel
  have ee : ("" : Str).length = 0 := by decide +kernel
  unfold lawT
  split
  · exact h1
  · rw [Str.length_append]
    have : (if a = 1 then ("x" : Str) else natT a ++ ("*x" : Str)).length ≤ 5 := by
      split
      · omega
      · rw [Str.length_append]; omega
    have : (if 1 < j then ("^" : Str) ++ natT j else "").length ≤ 2 := by
      split
      · rw [Str.length_append]; omega
      · omega
    omega
theorem powersL_len {ns : List Int} (l6 : ns.length ≤ 6) (sm : ∀ n ∈ ns, n.natAbs < 1000) : (powersL ns).length ≤ 56 := by
  have h : ∀ i, i + 1 ≤ ns.length → (sumT0 (selI ns (i + 1))).length ≤ (sumT0 (selI ns i)).length + 3 + if ns.length - 1 - i = 0 then 3 else 7 := fun i hi => by
    have h1 := sumI_cnt (fun _ => true) 3 (by decide +kernel) (by decide +kernel) (by decide +kernel) ns i
    rw [cnt_true, cnt_true, cnt_true] at h1
    have ha : (ns.getD (ns.length - 1 - i) 0).natAbs < 1000 := sm _ (List.mem_of_getElem? (getD_at (by omega)))
    have := lawT_short ha (show ns.length - 1 - i < 10 by omega)
    omega
  have h10 : ∀ i, i ≤ ns.length → (sumT0 (selI ns i)).length ≤ 10 * i := fun i => by
    induction i with
    | zero => intro _; exact Nat.le_of_eq (by show ("" : Str).length = 0; decide +kernel)
    | succ i ih =>
      intro hi
      have h1 := ih (by omega)
      have h2 := h i hi
      split at h2 <;> omega
  show (sumT0 (selI ns ns.length)).length ≤ 56
  rcases Nat.eq_zero_or_pos ns.length with h0 | h0
  · have := h10 ns.length (Nat.le_refl _)
    omega
  · obtain ⟨k, hk⟩ : ∃ k, ns.length = k + 1 := ⟨ns.length - 1, by omega⟩
    have h1 := h10 k (by omega)
    have h2 := h k (by omega)
    rw [if_pos (by omega), ← hk] at h2
    omega
/-- a text that is read -/
structure GT (x : Str) : Prop where
  len : x.length ≤ 1000
  fig : cnt isFig x ≤ 640
  big : cnt bigC x = 0
/-- a text bent i times -/
structure BT (i : Nat) (x : Str) : Prop where
  len : x.length + 4 ≤ 60 * 2 ^ i
  fig : cnt isFig x + 4 ≤ 28 * 2 ^ i
  big : cnt bigC x = 0
theorem BT.good {i : Nat} {x : Str} (h : BT i x) (hi : i ≤ 4) : GT x := by
  have h4 : 2 ^ i ≤ 2 ^ 4 := Nat.pow_le_pow_right (by decide) hi
  exact ⟨by have := h.len; omega, by have := h.fig; omega, h.big⟩
theorem BT.bent {i : Nat} {x y : Str} (h : BT i x) (b : Bent x y) : BT (i + 1) y := by
  obtain ⟨e, e1, e2, e3⟩ := b
  have h1 := e3 fun _ => true
  have h2 := e3 isFig
  have h3 := e3 bigC
  have h4 := cnt_le isFig e
  rw [cnt_true, cnt_true, cnt_true] at h1
  have l := h.len
  have f := h.fig
  have g := h.big
  rw [e1, g] at h3
  exact ⟨by rw [Nat.pow_succ]; omega, by rw [Nat.pow_succ]; omega, by omega⟩
theorem BT.zero {ns : List Int} (l6 : ns.length ≤ 6) (sm : ∀ n ∈ ns, n.natAbs < 1000) : BT 0 (powersL ns) := ⟨by have := powersL_len l6 sm; omega, by have := powersL_fig l6 sm; omega, powersL_big ns⟩
theorem plain_big {x : Str} (h : cnt bigC x = 0) : PyData.strOk x = true := by
  unfold PyData.strOk
  rw [Array.all_eq_true_iff_forall_mem]
  intro c hc
  have := asc_mem h c (by simpa [cp] using hc)
  simp
  omega
theorem cmp_text {x : Str} (h : cnt bigC x = 0) : Cmp (.str x) := Cmp.of (plain_big h) (Nat.zero_le _)
end My

namespace My
open PySem PySem.Spec PyProof.Rows L2
open C8 (Cal pe_c pe_gc InsC call_isC)
/-! ### a law's loop over cells: from the hand layer into the layer of data -/
def spLaw (K : PySem.W.Frag) : Sp := fun vs H Q _ => ∃ (a : Addr) (ns : List Int), vs = [.ref a] ∧ SqL K H a (ns.map V.int) ∧ ns.length ≤ 63 ∧ ∀ H', Q (.bl true) H'
theorem Le.frz {H H' : Hp} (a : Le H H') {p : Addr} {o : Obj} {u : HO} (h : H p = some (.frz o u)) : H' p = some (.frz o u) := by
  rcases a p _ h with h | ⟨_, _, _, _, e, _⟩
  · exact h
  · cases e
theorem SqL.le {K : PySem.W.Frag} {H H' : Hp} {a : Addr} {xs : List V} (h : SqL K H a xs) (l : Le H H') : SqL K H' a xs := by
  rcases h with (h | ⟨o, h⟩) | h
  · exact .inl (.inl (l.lst h))
  · exact .inl (.inr ⟨o, l.frz h⟩)
  · exact .inr h
/-- what was made anew is left -/
theorem Le.back {H H1 H' : Hp} {p : Addr} (s : Same H H1) (l : LeX [p] H1 H') (n : H p = none) : Le H H' := fun b o hb =>
  l b o (by rw [List.mem_singleton]; intro e; subst e; rw [n] at hb; cases hb) (s b o hb)
theorem XS.enter {z : Cz} {O : List Addr} {g : List Sl} {m : Nat} {σ : L2.St} {H : Hp} {t : TS} {D : Ends} {E : DE} (R : Real z O g m σ H) (k : DK z O H E D) (h : XS z t g m E) : t D σ H := h O σ H R D k
end My

/-! ### a law's loop over cells that keeps a list of texts -/
namespace My
open PySem PySem.Spec PyProof.Rows L2
open C8 (Cal pe_c pe_gc InsC call_isC)
/-- between the turns: the script, the texts kept -/
structure LawT (K : PySem.W.Frag) (a : Addr) (ns : List Int) (N : Nat) (PT : Str → Prop) (mx : Nat) (σ : L2.St) (H : Hp) : Prop where
  len : σ.length = N + 5
  s0 : σ[0]? = some (some (.ref a))
  ex : ∃ (p : Addr) (ts : List Str), σ[1]? = some (some (.ref p)) ∧ H p = some (.lst (ts.map V.str)) ∧ (∀ t ∈ ts, PT t) ∧ ts.length ≤ mx ∧ SqL K (hid [p] H) a (ns.map V.int)
theorem st_of5 {a p : Addr} {σ : L2.St} {n : Nat} (h : σ.length = n + 5) (h0 : σ[0]? = some (some (.ref a))) (h1 : σ[1]? = some (some (.ref p))) : ∃ (o2 o3 o4 : Option V) (os : List (Option V)), σ = [some (.ref a), some (.ref p), o2, o3, o4] ++ os ∧ os.length = n := by
  rcases σ with _ | ⟨x, _ | ⟨y, _ | ⟨z, _ | ⟨u, _ | ⟨v, os⟩⟩⟩⟩⟩
  · simp at h
  · simp at h
  · simp at h
  · simp at h
  · simp at h
  · have : x = some (.ref a) := Option.some.inj h0
    subst this
    have : y = some (.ref p) := Option.some.inj h1
    subst this
    exact ⟨z, u, v, os, rfl, by simpa using h⟩
theorem un_at {os : List (Option V)} {j : Nat} {x : Sl} (h : (os.map fun _ => Sl.un)[j]? = some x) : x = .un := by
  rw [List.getElem?_map] at h
  cases e : os[j]? with
  | none => rw [e] at h; cases h
  | some o => rw [e] at h; cases h; rfl
theorem real_turnT {a p pu : Addr} {i m : Nat} {o3 : Option V} {os : List (Option V)} {ts : List Str} {H : Hp} (hp : H p = some (.lst (ts.map V.str))) (hpu : Pur H pu m) (ne : p ≠ pu) :
    Real ⟨[pu], [pu], hid [p] H⟩ [pu, p] ([.raw (.ref a), .ow (ts.map Dat.str), .dt (.int (i : Int)), .un, .pu] ++ os.map fun _ => Sl.un) m ([some (.ref a), some (.ref p), some (.int (i : Int)), o3, some (.ref pu)] ++ os) H where
  dom := fun q h => by
    rcases List.mem_cons.mp h with h | h
    · rw [h]; exact hpu.at
    · rw [List.mem_singleton.mp h]; exact ⟨_, hp⟩
  sub := fun q h => by rw [List.mem_singleton.mp h]; exact List.mem_cons_self ..
  new := fun q h => by
    rcases List.mem_cons.mp h with h | h
    · exact .inl (by rw [h]; exact List.mem_singleton.mpr rfl)
    · exact .inr (hid_in (by rw [List.mem_singleton.mp h]; exact List.mem_singleton.mpr rfl))
  pg := fun _ h => h
  pur := fun b hb => by rw [List.mem_singleton.mp hb]; exact hpu
  le := fun b o _ h => .inl (hid_some h).2
  len := by simp
  sl := fun j x h => by
    rcases j with _ | _ | _ | _ | _ | j
    · cases (Option.some.inj h : _ = x); exact rfl
    · cases (Option.some.inj h : _ = x); exact ⟨p, _, rfl, List.mem_cons_of_mem _ (List.mem_singleton.mpr rfl), fun z => ne (List.mem_singleton.mp z), hp, .ofStrs ts⟩
    · cases (Option.some.inj h : _ = x); exact ⟨_, rfl, .int _⟩
    · cases (Option.some.inj h : _ = x); trivial
    · cases (Option.some.inj h : _ = x); exact ⟨pu, rfl, rfl⟩
    · have := un_at (show (os.map fun _ => Sl.un)[j]? = some x from h)
      subst this
      trivial
  inj := fun j k q ds es h h' _ _ => by
    have one : ∀ {j : Nat} {ds : List Dat}, ([Sl.raw (.ref a), .ow (ts.map Dat.str), .dt (.int (i : Int)), .un, .pu] ++ os.map fun _ => Sl.un)[j]? = some (.ow ds) → j = 1 := fun {j ds} h => by
      rcases j with _ | _ | _ | _ | _ | j
      · cases (Option.some.inj h : Sl.raw _ = Sl.ow ds)
      · rfl
      · cases (Option.some.inj h : Sl.dt _ = Sl.ow ds)
      · cases (Option.some.inj h : Sl.un = Sl.ow ds)
      · cases (Option.some.inj h : Sl.pu = Sl.ow ds)
      · cases un_at (show (os.map fun _ => Sl.un)[j]? = some (.ow ds) from h)
    rw [one h, one h']
theorem law_turnT {K : PySem.W.Frag} {N mx mx' i : Nat} {PT : Str → Prop} {rest : TS} {a : Addr} {ns : List Int} {Ex : XK} {H : Hp} {σ : L2.St} {D : Ends} (hi : i ≤ 100) (h : LawT K a ns N PT mx σ H)
    (hb : ∀ (z : Cz) (ts : List Str), (∀ t ∈ ts, PT t) → ts.length ≤ mx → XS z rest ([.raw (.ref a), .ow (ts.map Dat.str), .dt (.int (i : Int)), .un, .pu] ++ List.replicate N .un) (1000 * i) { nx := fun g _ => g[0]? = some (.raw (.ref a)) ∧ g.length = N + 5 ∧ ∃ ts' : List Str, (∀ t ∈ ts', PT t) ∧ ts'.length ≤ mx' ∧ g[1]? = some (.ow (ts'.map Dat.str)), rt := fun _ _ => False })
    (k : ∀ σ' H', LawT K a ns N PT mx' σ' H' → D.nx σ' H') :
    gName 2 (.int (0 + (i : Int))) σ H fun σ2 H2 => (tSeq (tAsg (tCall (sp_Lpurse K) [] Ex (tCons (tVar 0) (tCons (tVar 2) tNil))) (gName 4)) rest) D σ2 H2 := by
  obtain ⟨hl, h0, p, ts, h1, hp, pt, lt, hS⟩ := h
  obtain ⟨o2, o3, o4, os, rfl, lo⟩ := st_of5 hl h0 h1
  refine ⟨_, rfl, _, rfl, a, ns, i, by rw [Int.zero_add]; rfl, SqL.le hS (hid_le _ _), by omega, fun H1 pu s1 hpu0 hpu => ?_⟩
  have ne : p ≠ pu := fun e => by rw [e, hpu0] at hp; cases hp
  have R := real_turnT (a := a) (i := i) (o3 := o3) (os := os) (s1 _ _ hp) hpu ne
  have e0 : ((([some (.ref a), some (.ref p), o2, o3, o4] ++ os).set 2 (some (.int (0 + (i : Int))))).set 4 (some (.ref pu))) = [some (.ref a), some (.ref p), some (.int (i : Int)), o3, some (.ref pu)] ++ os := by rw [Int.zero_add]; rfl
  have eg : (os.map fun _ => Sl.un) = List.replicate N .un := by rw [← lo]; exact List.map_const'
  rw [eg, ← e0] at R
  refine XS.enter (t := rest) (σ := (([some (.ref a), some (.ref p), o2, o3, o4] ++ os).set 2 (some (.int (0 + (i : Int))))).set 4 (some (.ref pu))) R ?_ (hb _ ts pt lt)
  refine ⟨fun O' g' m' σ' H' c R' _ => k σ' H' ?_, fun _ _ _ _ _ _ _ c => c.elim, fun _ _ _ _ _ _ _ c => c.elim, fun _ _ _ _ _ c => c.elim, fun _ _ _ _ _ c => c.elim⟩
  obtain ⟨c0, cl, ts', pt', lt', c1⟩ := c
  obtain ⟨p', vs, e', po', pG', hp', q'⟩ := R'.sl 1 _ c1
  rw [q'.strs] at hp'
  have B' : hid [p] H1 p' = none := (R'.new p' po').resolve_left pG'
  refine ⟨by rw [R'.len]; exact cl, R'.sl 0 _ c0, p', ts', e', hp', pt', lt', SqL.le hS fun b o hb => ?_⟩
  have hb0 := hid_some hb
  have hb1 : hid [p] H1 b = some o := by rw [hid_out hb0.1]; exact s1 _ _ hb0.2
  have nb : b ≠ p' := fun e => by rw [e, B'] at hb1; cases hb1
  have npu : b ∉ [pu] := fun e => by rw [List.mem_singleton] at e; have := hb0.2; rw [e, hpu0] at this; cases this
  rw [hid_out (fun z => nb (List.mem_singleton.mp z))]
  exact R'.le b o npu hb1
theorem real_endT {a p : Addr} {os : List (Option V)} {ts : List Str} {H : Hp} (hp : H p = some (.lst (ts.map V.str))) :
    Real ⟨[], [], H⟩ [] ([.raw (.ref a), .dt (.lst (ts.map Dat.str))] ++ os.map fun _ => Sl.un) 0 ([some (.ref a), some (.ref p)] ++ os) H where
  dom := fun _ h => nomatch h
  sub := fun _ h => nomatch h
  new := fun _ h => nomatch h
  pg := fun _ h => nomatch h
  pur := fun _ h => nomatch h
  le := LeX.refl _ _
  len := by simp
  sl := fun j x h => by
    rcases j with _ | _ | j
    · cases (Option.some.inj h : _ = x); exact rfl
    · cases (Option.some.inj h : _ = x); exact ⟨_, rfl, .lst (by rw [hid_out List.not_mem_nil]; exact hp) (.ofStrs ts)⟩
    · have := un_at (show (os.map fun _ => Sl.un)[j]? = some x from h)
      subst this
      trivial
  inj := fun j k q ds es h h' _ _ => by
    have one : ∀ {j : Nat} {ds : List Dat}, ([Sl.raw (.ref a), .dt (.lst (ts.map Dat.str))] ++ os.map fun _ => Sl.un)[j]? ≠ some (.ow ds) := fun {j ds} h => by
      rcases j with _ | _ | j
      · cases (Option.some.inj h : Sl.raw _ = Sl.ow ds)
      · cases (Option.some.inj h : Sl.dt _ = Sl.ow ds)
      · cases un_at (show (os.map fun _ => Sl.un)[j]? = some (.ow ds) from h)
    exact absurd h one
/-- behind the turns: the texts are data -/
theorem law_endT {K : PySem.W.Frag} {N mx : Nat} {PT : Str → Prop} {rest : TS} {a : Addr} {ns : List Int} {H : Hp} {σ : L2.St} {D : Ends} (h : LawT K a ns N PT mx σ H)
    (hb : ∀ (z : Cz) (ts : List Str), (∀ t ∈ ts, PT t) → XS z rest ([.raw (.ref a), .dt (.lst (ts.map Dat.str))] ++ List.replicate (N + 3) .un) 0 { nx := fun _ _ => False, rt := fun _ d => d = .bl true }) (k : ∀ H', D.rt (.bl true) H') : rest D σ H := by
  obtain ⟨hl, h0, p, ts, h1, hp, pt, lt, hS⟩ := h
  obtain ⟨o2, o3, o4, os, rfl, lo⟩ := st_of5 hl h0 h1
  have R := real_endT (a := a) (os := o2 :: o3 :: o4 :: os) hp
  have eg : ((o2 :: o3 :: o4 :: os).map fun _ => Sl.un) = List.replicate (N + 3) .un := by rw [← lo]; exact List.map_const'
  rw [eg] at R
  refine XS.enter (t := rest) R ?_ (hb _ ts pt)
  refine ⟨fun _ _ _ _ _ c => c.elim, fun O' g' m' σ' d v H' c _ r => ?_, fun _ _ _ _ _ _ _ c => c.elim, fun _ _ _ _ _ c => c.elim, fun _ _ _ _ _ c => c.elim⟩
  have c : d = .bl true := c
  subst c
  cases r
  exact k H'
end My

namespace My
open PySem PySem.Spec PyProof.Rows L2
open C8 (Cal pe_c pe_gc InsC call_isC)
section
variable {c : Cs} {P : Program} {w : World} {K : PySem.W.Frag} {mg : Str → Option Value} {base : Heap}
def textsL : List Str := ["", "0", "x", "x^2", "x - 1", "x^2 - 2", "x^2-2", "x^5 - 1", "x^4 + x", "x^2 + 2*x + 1", "2*x - 1", "1"]
def dueD (ps : List Int) : Dat := if (faultOf ps).1 = true then .str (powersL ps) else faultD (faultOf ps)
theorem texts_good : ∀ t ∈ textsL, GT t := fun t ht => by
  have h : textsL.all (fun x => decide (x.length ≤ 1000) && decide (cnt isFig x ≤ 640) && decide (cnt bigC x = 0)) = true := by decide +kernel
  have h := List.all_eq_true.mp h t ht
  simp only [Bool.and_eq_true, decide_eq_true_eq] at h
  exact ⟨h.1.1, h.1.2, h.2⟩
abbrev s_law : Stmt := top 56
abbrev N_law : List Str := ["_law_script", "_law_texts", "_law_cell", "_law_text", "_law_purse_here", "_law_some", "_law_kept", "_law_due", "_law_turn"]
abbrev P_law : List Str := ["_law_script"]
theorem sc_law : FnScope N_law ["_law_script"] (defScope s_law) := ⟨rfl, rfl, rfl, by decide +kernel, rfl, by decide +kernel, by decide +kernel⟩

theorem ok_law (T : Txt K mg c) {f : Addr} {fd : FuncData} (F : L2.Fun K "law" "law" s_law f fd) (h_Lpurse : Cal P w K mg base 2 "_law_purse" (sp_Lpurse K) []) (h_Llist : Cal P w K mg base 3 "_law_list" (spP W_Llist) []) (h_Lfault : Cal P w K mg base 2 "_law_fault" (spD W_Lfault) []) (h_Lpowers : Cal P w K mg base 1 "_law_powers" (spD W_Lpowers) [])
    (h_Lasked : Cal P w K mg base 6 "_law_asked" (spD W_Lasked) []) (h_Lbent : Cal P w K mg base 3 "_law_bent" (spP W_Lbent) []) (h_Lread : Cal P w K mg base 3 "_law_read" (spD W_Lread) []) : FnOk P w K mg base CX0 7 f fd ["_law_script"] (spLaw K) := by
  refine F.ok sc_law (fun vs H Q E h => ?_) (fun cdv A outer s H vs Q E hr h => ?_)
  · obtain ⟨a, ns, rfl, _⟩ := h
    rfl
  · obtain ⟨a, ns, rfl, hS, _, k⟩ := h
    refine ⟨_, (pss_cons (ps_set (i := 1) sc_law.nd rfl (by first | exact Or.inl rfl | exact Or.inr rfl) (pe_lst (pa_cons pe_str (pa_cons pe_str (pa_cons pe_str (pa_cons pe_str (pa_cons pe_str (pa_cons pe_str (pa_cons pe_str (pa_cons pe_str (pa_cons pe_str (pa_cons pe_str (pa_cons pe_str (pa_cons pe_str pa_nil))))))))))))))
      (pss_cons (ps_for PassesOwn.never rfl (pi_range1 rfl T.z_range (pa_cons (pe_callB (call_max2 rfl) (by rfl) T.z_max (by decide +kernel) (pa_cons pe_int (pa_cons (pe_callB call_len_seq (by rfl) T.z_len (by decide +kernel) (pa_cons (pe_slice sl_list (pv 0) po_none (po_some pe_int)) pa_nil)) pa_nil))) pa_nil)) (pg_name (i := 2) sc_law.nd rfl (by first | exact Or.inl rfl | exact Or.inr rfl)) (pss_cons (ps_set (i := 4) sc_law.nd rfl (by first | exact Or.inl rfl | exact Or.inr rfl) (pe_c h_Lpurse hr (by decide) rfl (pa_cons (pv 0) (pa_cons (pv 2) pa_nil))))
      (pss_cons (ps_set (i := 5) sc_law.nd rfl (by first | exact Or.inl rfl | exact Or.inr rfl) (pe_c h_Llist hr (by decide) rfl (pa_cons (pv 4) pa_nil)))
      (pss_cons (ps_set (i := 6) sc_law.nd rfl (by first | exact Or.inl rfl | exact Or.inr rfl) (pe_callTy call_list_of (by rfl) T.z_list (by decide +kernel) (pa_cons (pv 5) pa_nil)))
      (pss_cons (ps_set (i := 7) sc_law.nd rfl (by first | exact Or.inl rfl | exact Or.inr rfl) (pe_c h_Lfault hr (by decide) rfl (pa_cons (pv 5) pa_nil)))
      (pss_cons (ps_if (pt_cmpR (op_eqD hr.units) (pv 7) (pe_lst (pa_cons pe_str pa_nil)) (nomark _)) (pss_one (ps_set (i := 7) sc_law.nd rfl (by first | exact Or.inl rfl | exact Or.inr rfl) (pe_c h_Lpowers hr (by decide) rfl (pa_cons (pv 5) pa_nil)))) pss_nil)
      (pss_cons (ps_if (PW.pt (pw_or (pt_cmpR (op_neD hr.units) (pe_c h_Lasked hr (by decide) rfl (pa_cons pe_int (pa_cons (pv 5) pa_nil))) (pv 7) (nomark _)) (pw_or1 (pt_cmpR (op_neD hr.units) (pv 5) (pv 6) (nomark _))))) (pss_one (ps_ret pe_bl)) pss_nil)
      (pss_cons (ps_set (i := 3) sc_law.nd rfl (by first | exact Or.inl rfl | exact Or.inr rfl) (pe_c h_Lpowers hr (by decide) rfl (pa_cons (pv 5) pa_nil)))
      (pss_cons (ps_expr (pe_bm PySem.F.plainAttrs_list PySem.F.slot_list_append PySem.F.type_list_append mt_append (pv 1) (pa_cons (pv 3) pa_nil)))
      (pss_one (ps_for PassesOwn.never rfl (pi_range1 rfl T.z_range (pa_cons pe_int pa_nil)) (pg_name (i := 8) sc_law.nd rfl (by first | exact Or.inl rfl | exact Or.inr rfl)) (pss_cons (ps_set (i := 3) sc_law.nd rfl (by first | exact Or.inl rfl | exact Or.inr rfl) (pe_c h_Lbent hr (by decide) rfl (pa_cons (pv 4) (pa_cons (pv 3) pa_nil))))
      (pss_one (ps_expr (pe_bm PySem.F.plainAttrs_list PySem.F.slot_list_append PySem.F.type_list_append mt_append (pv 1) (pa_cons (pv 3) pa_nil))))))))))))))))
      (pss_cons (ps_for PassesOwn.never rfl (pi_list (pv 1)) (pg_name (i := 3) sc_law.nd rfl (by first | exact Or.inl rfl | exact Or.inr rfl)) (pss_cons (ps_set (i := 7) sc_law.nd rfl (by first | exact Or.inl rfl | exact Or.inr rfl) (pe_c h_Lread hr (by decide) rfl (pa_cons (pv 3) pa_nil)))
      (pss_one (ps_if (pt_cmpR (op_neD hr.units) (pe_c h_Lasked hr (by decide) rfl (pa_cons pe_int (pa_cons (pv 3) pa_nil))) (pe_ix ix_list (pe_lst (pa_cons (pv 7) (pa_cons (pe_lst (pa_cons pe_str pa_nil)) pa_nil))) (pe_callTy call_int1 (by rfl) T.z_int (by decide +kernel) (pa_cons (pe_cmpR op_isN (pv 7) pe_non (nomark _)) pa_nil)) (fun _ _ => rfl)) (nomark _)) (pss_one (ps_ret pe_bl)) pss_nil))))
      (pss_one (ps_ret pe_bl))))), ?_⟩
    refine ⟨Nat.le_of_lt (small1000 (n := 12) (by decide)), fun p hp => ?_⟩
    have hS' := SqL.le hS (Le.new (o := .lst (textsL.map V.str)) hp)
    have lc : (cutV (ns.map V.int) none (some 12)).length ≤ 12 := by
      unfold cutV
      rw [List.length_take]
      have : HT.sIx (ns.map V.int).length (ns.map V.int).length (some (12 : Int)) ≤ 12 := by simp [HT.sIx]; omega
      omega
    refine ⟨_, rfl, 12, rfl, a, _, rfl, hS', fun q hq => ⟨q, _, rfl, .inl (SqL.of upd_same), 4, _, rfl, _, rfl, ?_, ?_, for_range (lo := 0) (fun i => LawT K a ns 4 GT (12 + 5 * i)) ?_ ?_ ?_⟩⟩
    · omega
    · omega
    · have hq' : q ≠ p := fun e => by rw [e, upd_same] at hq; cases hq
      refine ⟨rfl, rfl, p, textsL, rfl, ?_, texts_good, Nat.le_refl _, SqL.le hS fun b o hb => ?_⟩
      · rw [upd_ne (Ne.symm hq'), upd_same]; rfl
      · have nb : b ≠ p := fun e => by rw [e, hp] at hb; cases hb
        have nq : b ≠ q := fun e => by rw [e] at hb; rw [upd_ne hq', hb] at hq; cases hq
        exact .inl (by rw [hid_out (fun z => nb (List.mem_singleton.mp z)), upd_ne nq, upd_ne nb]; exact hb)
    · rintro i σ H0 hi h
      refine law_turnT (mx' := 12 + 5 * (i + 1)) (by omega) h (fun z ts gt lt => ?_) (fun _ _ h => h)
      have i12 : i ≤ 12 := by omega
      show XS z _ [.raw (.ref a), .ow (ts.map Dat.str), .dt (.int (i : Int)), .un, .pu, .un, .un, .un, .un] _ _
      (repeat' (first | refine XS.seq ?_ | refine XS.set ?_ | refine XE.callP rfl ?_ | refine XA.nil ?_))
      refine ⟨rfl, by omega, fun ps m' hm l6 sm => ?_⟩
      have sm3 : ∀ n ∈ ps, n.natAbs < 1000 := fun n hn => by have := sm n hn; omega
      (repeat' (first | refine XS.seq ?_ | refine XS.set ?_ | refine XE.var rfl ?_ | refine XE.ofN (XN.cb dn_listOf ?_) | refine XA.nil ?_ | refine XA.cons ?_))
      refine ⟨_, _, rfl, rfl, ?_⟩
      (repeat' (first | refine XS.seq ?_ | refine XS.set ?_ | refine XE.var rfl ?_ | refine XE.call ?_ | refine XA.nil ?_ | refine XA.cons ?_))
      refine ⟨ps, rfl, l6, ?_⟩
      (repeat' (first | refine XS.seq ?_))
      refine XS.cut (N := fun g1 m1 => g1 = [.raw (.ref a), .ow (ts.map Dat.str), .dt (.int (i : Int)), .un, .pu, .dt (nsD ps), .dt (nsD ps), .dt (dueD ps), .un] ∧ m1 = m') ?_ fun g1 m1 ⟨eg, em⟩ => ?_
      · (repeat' (first | refine XS.ite ?_ | refine XE.var rfl ?_ | refine XE.str ?_ | refine XE.op dr_eqD ?_ | refine XE.ofN (XN.lst ?_) | refine XA.nil ?_ | refine XA.cons ?_ | refine XT.test ?_ | refine go_len rfl ?_))
        refine go_eqD (cmp_fault _) (cmp_fault (true, none)) ?_
        rw [eqD_fault]
        (repeat' (first | refine go_bl ?_))
        refine ite2 (fun hc => ?_) (fun hc => ?_)
        · (repeat' (first | refine XS.set ?_ | refine XE.var rfl ?_ | refine XE.call ?_ | refine XA.nil ?_ | refine XA.cons ?_))
          refine ⟨ps, rfl, l6, sm3, ?_⟩
          exact ⟨by unfold dueD; rw [if_pos hc]; rfl, rfl⟩
        · (repeat' (first | refine XS.next ?_))
          exact ⟨by unfold dueD; rw [if_neg hc]; rfl, rfl⟩
      subst eg em
      (repeat' (first | refine XS.seq ?_))
      refine XS.cut (N := fun g1 m2 => g1 = [.raw (.ref a), .ow (ts.map Dat.str), .dt (.int (i : Int)), .un, .pu, .dt (nsD ps), .dt (nsD ps), .dt (dueD ps), .un] ∧ m2 = m1) ?_ fun g1 m2 ⟨eg, em⟩ => ?_
      · (repeat' (first | refine XS.ite ?_ | refine XE.var rfl ?_ | refine XE.int ?_ | refine XE.op dr_neD ?_ | refine XE.call ?_ | refine XA.nil ?_ | refine XA.cons ?_ | refine XT.test ?_ | refine XT.or ?_))
        refine .inl ⟨ps, rfl, fun hf => ?_, fun hf => ?_⟩
        · have G := good_of hf
          have ed : dueD ps = .str (powersT ps) := by unfold dueD; rw [if_pos hf, powers_same G]
          rw [ed]
          have cb : Cmp (.str (powersT ps)) := cmp_text (by rw [powers_same G]; exact powersL_big ps)
          (repeat' (first | refine XE.var rfl ?_))
          refine go_neD cb cb ?_
          rw [eqD_refl cb]
          (repeat' (first | refine XE.var rfl ?_ | refine XE.op dr_neD ?_ | refine XT.test ?_ | refine go_bl ?_))
          refine go_neD (cmp_ns _) (cmp_ns _) ?_
          rw [eqD_refl (cmp_ns ps)]
          (repeat' (first | refine XS.next ?_ | refine go_bl ?_))
          exact ⟨rfl, rfl⟩
        · have ed : dueD ps = .lst [.str "poly", optD (faultOf ps).2] := by
            unfold dueD faultD
            rw [if_neg (by rw [hf]; decide), if_neg (by rw [hf]; decide)]
          have cb := cmp_fault (faultOf ps)
          rw [show faultD (faultOf ps) = .lst [.str "poly", optD (faultOf ps).2] from by unfold faultD; rw [if_neg (by rw [hf]; decide)]] at cb
          rw [ed]
          (repeat' (first | refine XE.var rfl ?_))
          refine go_neD cb cb ?_
          rw [eqD_refl cb]
          (repeat' (first | refine XE.var rfl ?_ | refine XE.op dr_neD ?_ | refine XT.test ?_ | refine go_bl ?_))
          refine go_neD (cmp_ns _) (cmp_ns _) ?_
          rw [eqD_refl (cmp_ns ps)]
          (repeat' (first | refine XS.next ?_ | refine go_bl ?_))
          exact ⟨rfl, rfl⟩
      subst eg em
      (repeat' (first | refine XS.seq ?_ | refine XS.set ?_ | refine XE.var rfl ?_ | refine XE.call ?_ | refine XA.nil ?_ | refine XA.cons ?_))
      refine ⟨ps, rfl, l6, sm3, ?_⟩
      have b0 := BT.zero l6 sm3
      (repeat' (first | refine XS.seq ?_ | refine XS.app rfl (i := 1) rfl ?_ | refine XE.var rfl ?_ | refine XA.nil ?_ | refine XA.cons ?_ | refine go_app ?_ ?_))
      · rw [List.length_map]; omega
      refine XS.for (XI.rng1 ?_)
      (repeat' (first | refine XE.int ?_ | refine XA.nil ?_ | refine XA.cons ?_ | refine go_rg1 ?_ ?_))
      · decide
      refine ⟨fun j g m => ∃ (us : List Str) (y : Str) (s8 : Sl), g = [.raw (.ref a), .ow (us.map Dat.str), .dt (.int (i : Int)), .dt (.str y), .pu, .dt (nsD ps), .dt (nsD ps), .dt (dueD ps), s8] ∧ us.length ≤ 12 + 5 * i + 1 + j ∧ (∀ t ∈ us, GT t) ∧ BT j y ∧ m ≤ 1000 * i + 200 + 80 * j, ⟨ts ++ [powersL ps], powersL ps, .un, by rw [List.map_append]; rfl, by rw [List.length_append, List.length_singleton]; omega, fun t ht => ?_, b0, by omega⟩, fun j d g2 m2 hj ⟨us, y, s8, e1, e2, e3, e4, e5⟩ => ?_, fun g2 m2 ⟨us, y, s8, e1, e2, e3, e4, e5⟩ => ?_⟩
      · rcases List.mem_append.mp ht with h | h
        · exact gt t h
        · rw [List.mem_singleton.mp h]; exact b0.good (by decide)
      · subst e1
        obtain ⟨hj, rfl⟩ := rngD_get hj
        have hj : j < 4 := by omega
        have ly : y.length ≤ 900 := by
          have h3 : 2 ^ j ≤ 2 ^ 3 := Nat.pow_le_pow_right (by decide) (by omega)
          have := e4.len
          omega
        (repeat' (first | refine XS.seq ?_ | refine XS.set ?_ | refine XE.var rfl ?_ | refine XE.callP rfl ?_ | refine XA.nil ?_ | refine XA.cons ?_ | refine XG.name rfl ?_))
        refine ⟨y, rfl, ly, by omega, fun t' m' hm' hb => ?_⟩
        have b1 := e4.bent hb
        (repeat' (first | refine XS.app rfl (i := 1) rfl ?_ | refine XE.var rfl ?_ | refine XA.nil ?_ | refine XA.cons ?_ | refine go_app ?_ ?_))
        · rw [List.length_map]; omega
        refine ⟨us ++ [t'], t', _, by rw [List.map_append]; rfl, by rw [List.length_append, List.length_singleton]; omega, fun t ht => ?_, b1, by omega⟩
        rcases List.mem_append.mp ht with h | h
        · exact e3 t h
        · rw [List.mem_singleton.mp h]; exact b1.good (by omega)
      · subst e1
        have e2 : us.length ≤ 12 + 5 * i + 1 + 4 := e2
        exact ⟨rfl, rfl, us, e3, by omega, rfl⟩
    · intro σ H0 h
      dsimp only
      refine law_endT h (fun z ts gt => ?_) k
      show XS z _ [.raw (.ref a), .dt (.lst (ts.map Dat.str)), .un, .un, .un, .un, .un, .un, .un] _ _
      refine XS.seq (XS.for (XI.list ?_))
      (repeat' (first | refine XE.var rfl ?_ | refine go_lst ?_))
      refine ⟨fun i g m => (∃ s3 s7, g = [.raw (.ref a), .dt (.lst (ts.map Dat.str)), .un, s3, .un, .un, .un, s7, .un]) ∧ m = 0, ⟨⟨_, _, rfl⟩, rfl⟩, fun i d g2 m2 hi ⟨⟨s3, s7, e1⟩, e2⟩ => ?_, fun g2 m2 ⟨⟨s3, s7, e1⟩, e2⟩ => ?_⟩
      · subst e1 e2
        obtain ⟨x, hx, rfl⟩ := map_get hi
        have G := gt x (List.mem_of_getElem? hx)
        (repeat' (first | refine XS.seq ?_ | refine XS.set ?_ | refine XE.var rfl ?_ | refine XE.call ?_ | refine XA.nil ?_ | refine XA.cons ?_ | refine XG.name rfl ?_))
        refine ⟨x, rfl, G.len, G.big, ?_⟩
        (repeat' (first | refine XS.ite ?_ | refine XE.var rfl ?_ | refine XE.int ?_ | refine XE.op dr_neD ?_ | refine XE.call ?_ | refine XA.nil ?_ | refine XA.cons ?_ | refine XT.test ?_))
        refine .inr ⟨x, rfl, ⟨G.len, G.fig⟩, fun qs hq => ?_, fun hq => ?_⟩
        · have hl : readL x = some qs := by rw [← read_same, hq]
          rw [hl]
          have cb := cmp_ns qs
          (repeat' (first | refine XE.var rfl ?_ | refine XE.str ?_ | refine XE.non ?_ | refine XE.op dr_ixL ?_ | refine XE.op dr_isN ?_ | refine XE.ofN (XN.lst ?_) | refine XE.cb db_int1 ?_ | refine XA.nil ?_ | refine XA.cons ?_ | refine go_len rfl ?_))
          refine ⟨rfl, ?_⟩
          (repeat' (first | refine XA.nil ?_))
          refine .inr ⟨_, rfl, ?_⟩
          refine go_ix (j := 0) (x := nsD qs) rfl ?_
          refine go_neD cb cb ?_
          rw [eqD_refl cb]
          (repeat' (first | refine XS.next ?_ | refine go_bl ?_))
          exact ⟨⟨_, _, rfl⟩, rfl⟩
        · have hl : readL x = none := by rw [← read_same, hq]
          rw [hl]
          have cb : Cmp (.lst [.str "text"]) := Cmp.of (show (PyData.strOk "text" && true) = true by decide +kernel) (Nat.le_of_ble_eq_true rfl)
          (repeat' (first | refine XE.var rfl ?_ | refine XE.str ?_ | refine XE.non ?_ | refine XE.op dr_ixL ?_ | refine XE.op dr_isN ?_ | refine XE.ofN (XN.lst ?_) | refine XE.cb db_int1 ?_ | refine XA.nil ?_ | refine XA.cons ?_ | refine go_len rfl ?_))
          refine ⟨rfl, ?_⟩
          (repeat' (first | refine XA.nil ?_))
          refine .inr ⟨_, rfl, ?_⟩
          refine go_ix (j := 1) (x := .lst [.str "text"]) rfl ?_
          refine go_neD cb cb ?_
          rw [eqD_refl cb]
          (repeat' (first | refine XS.next ?_ | refine go_bl ?_))
          exact ⟨⟨_, _, rfl⟩, rfl⟩
      · subst e1 e2
        (repeat' (first | refine XS.ret ?_ | refine XE.bl ?_))
        rfl
end
end My

namespace My
open PySem PySem.Spec PyProof.Rows L2
open C8 (Cal pe_c pe_gc)
theorem all_mk {l : PySem.W.OpenLaw} {w : World} {K : PySem.W.Frag} {h : Heap} {mg : Str → Option Value} {fa : Addr} (X : K.In h) (G : h.Ns mainGlobals mg) (hfa : mg "law" = some (.ref fa))
    {C_RootError C_NoPoly C_NoHouse C_NoLetter C_NoCount C_NoMove C_NoWord C_Full C_NoDeed C_NoText C_NoLine C_NoOver C_NoName C_Twice C_NoNumber : Addr}
    {f0 : Addr} {od0 an0 : Option Addr} {sl0 : Array (Option Value)} {oc0 kV0 dc0 pm0 cd0 ct0 : Value}
    (a0 : PySem.W.nsIn K mainGlobals "divisor" = some (some (.ref f0))) (l0 : K.lookup f0 = some ⟨oc0, od0, .func (PySem.W.fnOf "divisor" "divisor" (defArgs s_divisor) (defBody s_divisor) (defScope s_divisor) .none kV0 dc0 pm0 an0 cd0 ct0), sl0⟩) (c0 : PySem.W.codeIn K cd0 "divisor" = true) (k0 : PySem.W.keepIn K (.ref f0) = true)
    {f1 : Addr} {od1 an1 : Option Addr} {sl1 : Array (Option Value)} {oc1 kV1 dc1 pm1 cd1 ct1 : Value}
    (a1 : PySem.W.nsIn K mainGlobals "lowest" = some (some (.ref f1))) (l1 : K.lookup f1 = some ⟨oc1, od1, .func (PySem.W.fnOf "lowest" "lowest" (defArgs s_lowest) (defBody s_lowest) (defScope s_lowest) .none kV1 dc1 pm1 an1 cd1 ct1), sl1⟩) (c1 : PySem.W.codeIn K cd1 "lowest" = true) (k1 : PySem.W.keepIn K (.ref f1) = true)
    {f2 : Addr} {od2 an2 : Option Addr} {sl2 : Array (Option Value)} {oc2 kV2 dc2 pm2 cd2 ct2 : Value}
    (a2 : PySem.W.nsIn K mainGlobals "told_by" = some (some (.ref f2))) (l2 : K.lookup f2 = some ⟨oc2, od2, .func (PySem.W.fnOf "told_by" "told_by" (defArgs s_told_by) (defBody s_told_by) (defScope s_told_by) .none kV2 dc2 pm2 an2 cd2 ct2), sl2⟩) (c2 : PySem.W.codeIn K cd2 "told_by" = true) (k2 : PySem.W.keepIn K (.ref f2) = true)
    {f3 : Addr} {od3 an3 : Option Addr} {sl3 : Array (Option Value)} {oc3 kV3 dc3 pm3 cd3 ct3 : Value}
    (a3 : PySem.W.findIn K (.ref C_NoPoly) "__init__" = some (some (.ref f3))) (i3 : PySem.W.isFn K (.ref f3) = true) (y3 : PySem.W.typeIn K (.ref f3) = some (.type "function"))
    {dV3 : Value} {dT3 : Addr} {dn3 : Nat} {do3 : Obj}
    (l3 : K.lookup f3 = some ⟨oc3, od3, .func (PySem.W.fnOf "__init__" "NoPoly.__init__" (defArgs s_NoPoly_init) (defBody s_NoPoly_init) (defScope s_NoPoly_init) dV3 kV3 dc3 pm3 an3 cd3 ct3), sl3⟩) (c3 : PySem.W.codeIn K cd3 "NoPoly.__init__" = true) (k3 : PySem.W.keepIn K (.ref f3) = true)
    (e3 : dV3 = .ref dT3) (t3 : K.lookup dT3 = some do3) (u3 : do3.data = .seq #[.none] dn3)
    {f4 : Addr} {od4 an4 : Option Addr} {sl4 : Array (Option Value)} {oc4 kV4 dc4 pm4 cd4 ct4 : Value}
    (a4 : PySem.W.nsIn K mainGlobals "must_poly" = some (some (.ref f4))) (l4 : K.lookup f4 = some ⟨oc4, od4, .func (PySem.W.fnOf "must_poly" "must_poly" (defArgs s_must_poly) (defBody s_must_poly) (defScope s_must_poly) .none kV4 dc4 pm4 an4 cd4 ct4), sl4⟩) (c4 : PySem.W.codeIn K cd4 "must_poly" = true) (k4 : PySem.W.keepIn K (.ref f4) = true)
    {f5 : Addr} {od5 an5 : Option Addr} {sl5 : Array (Option Value)} {oc5 kV5 dc5 pm5 cd5 ct5 : Value}
    (a5 : PySem.W.nsIn K mainGlobals "fraction_text" = some (some (.ref f5))) (l5 : K.lookup f5 = some ⟨oc5, od5, .func (PySem.W.fnOf "fraction_text" "fraction_text" (defArgs s_fraction_text) (defBody s_fraction_text) (defScope s_fraction_text) .none kV5 dc5 pm5 an5 cd5 ct5), sl5⟩) (c5 : PySem.W.codeIn K cd5 "fraction_text" = true) (k5 : PySem.W.keepIn K (.ref f5) = true)
    {f6 : Addr} {od6 an6 : Option Addr} {sl6 : Array (Option Value)} {oc6 kV6 dc6 pm6 cd6 ct6 : Value}
    (a6 : PySem.W.nsIn K mainGlobals "product_text" = some (some (.ref f6))) (l6 : K.lookup f6 = some ⟨oc6, od6, .func (PySem.W.fnOf "product_text" "product_text" (defArgs s_product_text) (defBody s_product_text) (defScope s_product_text) .none kV6 dc6 pm6 an6 cd6 ct6), sl6⟩) (c6 : PySem.W.codeIn K cd6 "product_text" = true) (k6 : PySem.W.keepIn K (.ref f6) = true)
    {f7 : Addr} {od7 an7 : Option Addr} {sl7 : Array (Option Value)} {oc7 kV7 dc7 pm7 cd7 ct7 : Value}
    (a7 : PySem.W.nsIn K mainGlobals "share_text" = some (some (.ref f7))) (l7 : K.lookup f7 = some ⟨oc7, od7, .func (PySem.W.fnOf "share_text" "share_text" (defArgs s_share_text) (defBody s_share_text) (defScope s_share_text) .none kV7 dc7 pm7 an7 cd7 ct7), sl7⟩) (c7 : PySem.W.codeIn K cd7 "share_text" = true) (k7 : PySem.W.keepIn K (.ref f7) = true)
    {f8 : Addr} {od8 an8 : Option Addr} {sl8 : Array (Option Value)} {oc8 kV8 dc8 pm8 cd8 ct8 : Value}
    (a8 : PySem.W.nsIn K mainGlobals "sum_text" = some (some (.ref f8))) (l8 : K.lookup f8 = some ⟨oc8, od8, .func (PySem.W.fnOf "sum_text" "sum_text" (defArgs s_sum_text) (defBody s_sum_text) (defScope s_sum_text) .none kV8 dc8 pm8 an8 cd8 ct8), sl8⟩) (c8 : PySem.W.codeIn K cd8 "sum_text" = true) (k8 : PySem.W.keepIn K (.ref f8) = true)
    {f9 : Addr} {od9 an9 : Option Addr} {sl9 : Array (Option Value)} {oc9 kV9 dc9 pm9 cd9 ct9 : Value}
    (a9 : PySem.W.nsIn K mainGlobals "must" = some (some (.ref f9))) (l9 : K.lookup f9 = some ⟨oc9, od9, .func (PySem.W.fnOf "must" "must" (defArgs s_must) (defBody s_must) (defScope s_must) .none kV9 dc9 pm9 an9 cd9 ct9), sl9⟩) (c9 : PySem.W.codeIn K cd9 "must" = true) (k9 : PySem.W.keepIn K (.ref f9) = true)
    {f10 : Addr} {od10 an10 : Option Addr} {sl10 : Array (Option Value)} {oc10 kV10 dc10 pm10 cd10 ct10 : Value}
    (a10 : PySem.W.nsIn K mainGlobals "whole_in" = some (some (.ref f10))) (l10 : K.lookup f10 = some ⟨oc10, od10, .func (PySem.W.fnOf "whole_in" "whole_in" (defArgs s_whole_in) (defBody s_whole_in) (defScope s_whole_in) .none kV10 dc10 pm10 an10 cd10 ct10), sl10⟩) (c10 : PySem.W.codeIn K cd10 "whole_in" = true) (k10 : PySem.W.keepIn K (.ref f10) = true)
    {f11 : Addr} {od11 an11 : Option Addr} {sl11 : Array (Option Value)} {oc11 kV11 dc11 pm11 cd11 ct11 : Value}
    (a11 : PySem.W.nsIn K mainGlobals "pieces_of" = some (some (.ref f11))) (l11 : K.lookup f11 = some ⟨oc11, od11, .func (PySem.W.fnOf "pieces_of" "pieces_of" (defArgs s_pieces_of) (defBody s_pieces_of) (defScope s_pieces_of) .none kV11 dc11 pm11 an11 cd11 ct11), sl11⟩) (c11 : PySem.W.codeIn K cd11 "pieces_of" = true) (k11 : PySem.W.keepIn K (.ref f11) = true)
    {f12 : Addr} {od12 an12 : Option Addr} {sl12 : Array (Option Value)} {oc12 kV12 dc12 pm12 cd12 ct12 : Value}
    (a12 : PySem.W.nsIn K mainGlobals "fraction_in" = some (some (.ref f12))) (l12 : K.lookup f12 = some ⟨oc12, od12, .func (PySem.W.fnOf "fraction_in" "fraction_in" (defArgs s_fraction_in) (defBody s_fraction_in) (defScope s_fraction_in) .none kV12 dc12 pm12 an12 cd12 ct12), sl12⟩) (c12 : PySem.W.codeIn K cd12 "fraction_in" = true) (k12 : PySem.W.keepIn K (.ref f12) = true)
    {f13 : Addr} {od13 an13 : Option Addr} {sl13 : Array (Option Value)} {oc13 kV13 dc13 pm13 cd13 ct13 : Value}
    (a13 : PySem.W.nsIn K mainGlobals "parted" = some (some (.ref f13))) (l13 : K.lookup f13 = some ⟨oc13, od13, .func (PySem.W.fnOf "parted" "parted" (defArgs s_parted) (defBody s_parted) (defScope s_parted) .none kV13 dc13 pm13 an13 cd13 ct13), sl13⟩) (c13 : PySem.W.codeIn K cd13 "parted" = true) (k13 : PySem.W.keepIn K (.ref f13) = true)
    {f14 : Addr} {od14 an14 : Option Addr} {sl14 : Array (Option Value)} {oc14 kV14 dc14 pm14 cd14 ct14 : Value}
    (a14 : PySem.W.nsIn K mainGlobals "powers_text" = some (some (.ref f14))) (l14 : K.lookup f14 = some ⟨oc14, od14, .func (PySem.W.fnOf "powers_text" "powers_text" (defArgs s_powers_text) (defBody s_powers_text) (defScope s_powers_text) .none kV14 dc14 pm14 an14 cd14 ct14), sl14⟩) (c14 : PySem.W.codeIn K cd14 "powers_text" = true) (k14 : PySem.W.keepIn K (.ref f14) = true)
    {f15 : Addr} {od15 an15 : Option Addr} {sl15 : Array (Option Value)} {oc15 kV15 dc15 pm15 cd15 ct15 : Value}
    (a15 : PySem.W.nsIn K mainGlobals "text_of" = some (some (.ref f15))) (l15 : K.lookup f15 = some ⟨oc15, od15, .func (PySem.W.fnOf "text_of" "text_of" (defArgs s_text_of) (defBody s_text_of) (defScope s_text_of) .none kV15 dc15 pm15 an15 cd15 ct15), sl15⟩) (c15 : PySem.W.codeIn K cd15 "text_of" = true) (k15 : PySem.W.keepIn K (.ref f15) = true)
    {f16 : Addr} {od16 an16 : Option Addr} {sl16 : Array (Option Value)} {oc16 kV16 dc16 pm16 cd16 ct16 : Value}
    (a16 : PySem.W.nsIn K mainGlobals "power_in" = some (some (.ref f16))) (l16 : K.lookup f16 = some ⟨oc16, od16, .func (PySem.W.fnOf "power_in" "power_in" (defArgs s_power_in) (defBody s_power_in) (defScope s_power_in) .none kV16 dc16 pm16 an16 cd16 ct16), sl16⟩) (c16 : PySem.W.codeIn K cd16 "power_in" = true) (k16 : PySem.W.keepIn K (.ref f16) = true)
    {f17 : Addr} {od17 an17 : Option Addr} {sl17 : Array (Option Value)} {oc17 kV17 dc17 pm17 cd17 ct17 : Value}
    (a17 : PySem.W.nsIn K mainGlobals "read_polynomial" = some (some (.ref f17))) (l17 : K.lookup f17 = some ⟨oc17, od17, .func (PySem.W.fnOf "read_polynomial" "read_polynomial" (defArgs s_read_polynomial) (defBody s_read_polynomial) (defScope s_read_polynomial) .none kV17 dc17 pm17 an17 cd17 ct17), sl17⟩) (c17 : PySem.W.codeIn K cd17 "read_polynomial" = true) (k17 : PySem.W.keepIn K (.ref f17) = true)
    {f18 : Addr} {od18 an18 : Option Addr} {sl18 : Array (Option Value)} {oc18 kV18 dc18 pm18 cd18 ct18 : Value}
    (a18 : PySem.W.nsIn K mainGlobals "_law_at" = some (some (.ref f18))) (l18 : K.lookup f18 = some ⟨oc18, od18, .func (PySem.W.fnOf "_law_at" "_law_at" (defArgs s_Lat) (defBody s_Lat) (defScope s_Lat) .none kV18 dc18 pm18 an18 cd18 ct18), sl18⟩) (c18 : PySem.W.codeIn K cd18 "_law_at" = true) (k18 : PySem.W.keepIn K (.ref f18) = true)
    {f19 : Addr} {od19 an19 : Option Addr} {sl19 : Array (Option Value)} {oc19 kV19 dc19 pm19 cd19 ct19 : Value}
    (a19 : PySem.W.nsIn K mainGlobals "_law_mixed" = some (some (.ref f19))) (l19 : K.lookup f19 = some ⟨oc19, od19, .func (PySem.W.fnOf "_law_mixed" "_law_mixed" (defArgs s_Lmixed) (defBody s_Lmixed) (defScope s_Lmixed) .none kV19 dc19 pm19 an19 cd19 ct19), sl19⟩) (c19 : PySem.W.codeIn K cd19 "_law_mixed" = true) (k19 : PySem.W.keepIn K (.ref f19) = true)
    {f20 : Addr} {od20 an20 : Option Addr} {sl20 : Array (Option Value)} {oc20 kV20 dc20 pm20 cd20 ct20 : Value}
    (a20 : PySem.W.nsIn K mainGlobals "_law_purse" = some (some (.ref f20))) (l20 : K.lookup f20 = some ⟨oc20, od20, .func (PySem.W.fnOf "_law_purse" "_law_purse" (defArgs s_Lpurse) (defBody s_Lpurse) (defScope s_Lpurse) .none kV20 dc20 pm20 an20 cd20 ct20), sl20⟩) (c20 : PySem.W.codeIn K cd20 "_law_purse" = true) (k20 : PySem.W.keepIn K (.ref f20) = true)
    {f21 : Addr} {od21 an21 : Option Addr} {sl21 : Array (Option Value)} {oc21 kV21 dc21 pm21 cd21 ct21 : Value}
    (a21 : PySem.W.nsIn K mainGlobals "_law_draw" = some (some (.ref f21))) (l21 : K.lookup f21 = some ⟨oc21, od21, .func (PySem.W.fnOf "_law_draw" "_law_draw" (defArgs s_Ldraw) (defBody s_Ldraw) (defScope s_Ldraw) .none kV21 dc21 pm21 an21 cd21 ct21), sl21⟩) (c21 : PySem.W.codeIn K cd21 "_law_draw" = true) (k21 : PySem.W.keepIn K (.ref f21) = true)
    {f22 : Addr} {od22 an22 : Option Addr} {sl22 : Array (Option Value)} {oc22 kV22 dc22 pm22 cd22 ct22 : Value}
    (a22 : PySem.W.nsIn K mainGlobals "_law_class" = some (some (.ref f22))) (l22 : K.lookup f22 = some ⟨oc22, od22, .func (PySem.W.fnOf "_law_class" "_law_class" (defArgs s_Lclass) (defBody s_Lclass) (defScope s_Lclass) .none kV22 dc22 pm22 an22 cd22 ct22), sl22⟩) (c22 : PySem.W.codeIn K cd22 "_law_class" = true) (k22 : PySem.W.keepIn K (.ref f22) = true)
    {f23 : Addr} {od23 an23 : Option Addr} {sl23 : Array (Option Value)} {oc23 kV23 dc23 pm23 cd23 ct23 : Value}
    (a23 : PySem.W.nsIn K mainGlobals "_law_alike_roots" = some (some (.ref f23))) (l23 : K.lookup f23 = some ⟨oc23, od23, .func (PySem.W.fnOf "_law_alike_roots" "_law_alike_roots" (defArgs s_Lalike_roots) (defBody s_Lalike_roots) (defScope s_Lalike_roots) .none kV23 dc23 pm23 an23 cd23 ct23), sl23⟩) (c23 : PySem.W.codeIn K cd23 "_law_alike_roots" = true) (k23 : PySem.W.keepIn K (.ref f23) = true)
    {f24 : Addr} {od24 an24 : Option Addr} {sl24 : Array (Option Value)} {oc24 kV24 dc24 pm24 cd24 ct24 : Value}
    (a24 : PySem.W.nsIn K mainGlobals "_law_fault" = some (some (.ref f24))) (l24 : K.lookup f24 = some ⟨oc24, od24, .func (PySem.W.fnOf "_law_fault" "_law_fault" (defArgs s_Lfault) (defBody s_Lfault) (defScope s_Lfault) .none kV24 dc24 pm24 an24 cd24 ct24), sl24⟩) (c24 : PySem.W.codeIn K cd24 "_law_fault" = true) (k24 : PySem.W.keepIn K (.ref f24) = true)
    {f25 : Addr} {od25 an25 : Option Addr} {sl25 : Array (Option Value)} {oc25 kV25 dc25 pm25 cd25 ct25 : Value}
    (a25 : PySem.W.nsIn K mainGlobals "_law_powers" = some (some (.ref f25))) (l25 : K.lookup f25 = some ⟨oc25, od25, .func (PySem.W.fnOf "_law_powers" "_law_powers" (defArgs s_Lpowers) (defBody s_Lpowers) (defScope s_Lpowers) .none kV25 dc25 pm25 an25 cd25 ct25), sl25⟩) (c25 : PySem.W.codeIn K cd25 "_law_powers" = true) (k25 : PySem.W.keepIn K (.ref f25) = true)
    {f26 : Addr} {od26 an26 : Option Addr} {sl26 : Array (Option Value)} {oc26 kV26 dc26 pm26 cd26 ct26 : Value}
    (a26 : PySem.W.nsIn K mainGlobals "_law_piece" = some (some (.ref f26))) (l26 : K.lookup f26 = some ⟨oc26, od26, .func (PySem.W.fnOf "_law_piece" "_law_piece" (defArgs s_Lpiece) (defBody s_Lpiece) (defScope s_Lpiece) .none kV26 dc26 pm26 an26 cd26 ct26), sl26⟩) (c26 : PySem.W.codeIn K cd26 "_law_piece" = true) (k26 : PySem.W.keepIn K (.ref f26) = true)
    {f27 : Addr} {od27 an27 : Option Addr} {sl27 : Array (Option Value)} {oc27 kV27 dc27 pm27 cd27 ct27 : Value}
    (a27 : PySem.W.nsIn K mainGlobals "_law_read" = some (some (.ref f27))) (l27 : K.lookup f27 = some ⟨oc27, od27, .func (PySem.W.fnOf "_law_read" "_law_read" (defArgs s_Lread) (defBody s_Lread) (defScope s_Lread) .none kV27 dc27 pm27 an27 cd27 ct27), sl27⟩) (c27 : PySem.W.codeIn K cd27 "_law_read" = true) (k27 : PySem.W.keepIn K (.ref f27) = true)
    {f28 : Addr} {od28 an28 : Option Addr} {sl28 : Array (Option Value)} {oc28 kV28 dc28 pm28 cd28 ct28 : Value}
    (a28 : PySem.W.nsIn K mainGlobals "_law_asked" = some (some (.ref f28))) (l28 : K.lookup f28 = some ⟨oc28, od28, .func (PySem.W.fnOf "_law_asked" "_law_asked" (defArgs s_Lasked) (defBody s_Lasked) (defScope s_Lasked) .none kV28 dc28 pm28 an28 cd28 ct28), sl28⟩) (c28 : PySem.W.codeIn K cd28 "_law_asked" = true) (k28 : PySem.W.keepIn K (.ref f28) = true)
    {f29 : Addr} {od29 an29 : Option Addr} {sl29 : Array (Option Value)} {oc29 kV29 dc29 pm29 cd29 ct29 : Value}
    (a29 : PySem.W.nsIn K mainGlobals "_law_list" = some (some (.ref f29))) (l29 : K.lookup f29 = some ⟨oc29, od29, .func (PySem.W.fnOf "_law_list" "_law_list" (defArgs s_Llist) (defBody s_Llist) (defScope s_Llist) .none kV29 dc29 pm29 an29 cd29 ct29), sl29⟩) (c29 : PySem.W.codeIn K cd29 "_law_list" = true) (k29 : PySem.W.keepIn K (.ref f29) = true)
    {f30 : Addr} {od30 an30 : Option Addr} {sl30 : Array (Option Value)} {oc30 kV30 dc30 pm30 cd30 ct30 : Value}
    (a30 : PySem.W.nsIn K mainGlobals "_law_bent" = some (some (.ref f30))) (l30 : K.lookup f30 = some ⟨oc30, od30, .func (PySem.W.fnOf "_law_bent" "_law_bent" (defArgs s_Lbent) (defBody s_Lbent) (defScope s_Lbent) .none kV30 dc30 pm30 an30 cd30 ct30), sl30⟩) (c30 : PySem.W.codeIn K cd30 "_law_bent" = true) (k30 : PySem.W.keepIn K (.ref f30) = true)
    {f31 : Addr} {od31 an31 : Option Addr} {sl31 : Array (Option Value)} {oc31 kV31 dc31 pm31 cd31 ct31 : Value}
    (a31 : PySem.W.nsIn K mainGlobals "law" = some (some (.ref f31))) (l31 : K.lookup f31 = some ⟨oc31, od31, .func (PySem.W.fnOf "law" "law" (defArgs s_law) (defBody s_law) (defScope s_law) .none kV31 dc31 pm31 an31 cd31 ct31), sl31⟩) (c31 : PySem.W.codeIn K cd31 "law" = true) (k31 : PySem.W.keepIn K (.ref f31) = true)
    (z_abs : PySem.W.nsIn K mainGlobals "abs" = some none)
    (z_len : PySem.W.nsIn K mainGlobals "len" = some none)
    (z_range : PySem.W.nsIn K mainGlobals "range" = some none)
    (z_max : PySem.W.nsIn K mainGlobals "max" = some none)
    (z_enumerate : PySem.W.nsIn K mainGlobals "enumerate" = some none)
    (z_isinstance : PySem.W.nsIn K mainGlobals "isinstance" = some none)
    (z_int : PySem.W.nsIn K mainGlobals "int" = some none)
    (z_bool : PySem.W.nsIn K mainGlobals "bool" = some none)
    (z_tuple : PySem.W.nsIn K mainGlobals "tuple" = some none)
    (z_list : PySem.W.nsIn K mainGlobals "list" = some none)
    (z_zip : PySem.W.nsIn K mainGlobals "zip" = some none)
    (z_str : PySem.W.nsIn K mainGlobals "str" = some none)
    (z_all : PySem.W.nsIn K mainGlobals "all" = some none)
    {t_MOST : Tok} (m_MOST : PySem.W.nsIn K mainGlobals "MOST" = some (some (.int 100 t_MOST)))
    {t_MOST_FIGURES : Tok} (m_MOST_FIGURES : PySem.W.nsIn K mainGlobals "MOST_FIGURES" = some (some (.int 1000 t_MOST_FIGURES)))
    {t_FIGURES : Tok} (m_FIGURES : PySem.W.nsIn K mainGlobals "FIGURES" = some (some (.str "0123456789" t_FIGURES)))
    {nm_NoPoly q_NoPoly : Str} {N_NoPoly : Addr} {bs_NoPoly bm_NoPoly sub_NoPoly : List Value} {sn_NoPoly : List Str} {ab_NoPoly : Bool} {col_NoPoly : Option Bool} {dd_NoPoly : Option Addr} {k0_NoPoly k1_NoPoly k2_NoPoly k3_NoPoly k5_NoPoly : Option Value}
    (a_RootError : PySem.W.nsIn K mainGlobals "RootError" = some (some (.ref C_RootError)))
    (i_RootError : PySem.W.isClsIn K C_RootError = true)
    (y_RootError : PySem.W.typeIn K (.ref C_RootError) = some (.type "type"))
    (n_RootError : PySem.W.subIn K (.type "NoneType") (.ref C_RootError) = some false)
    (a_NoPoly : PySem.W.nsIn K mainGlobals "NoPoly" = some (some (.ref C_NoPoly)))
    (i_NoPoly : PySem.W.isClsIn K C_NoPoly = true)
    (y_NoPoly : PySem.W.typeIn K (.ref C_NoPoly) = some (.type "type"))
    (n_NoPoly : PySem.W.subIn K (.type "NoneType") (.ref C_NoPoly) = some false)
    (a_NoHouse : PySem.W.nsIn K mainGlobals "NoHouse" = some (some (.ref C_NoHouse)))
    (i_NoHouse : PySem.W.isClsIn K C_NoHouse = true)
    (y_NoHouse : PySem.W.typeIn K (.ref C_NoHouse) = some (.type "type"))
    (n_NoHouse : PySem.W.subIn K (.type "NoneType") (.ref C_NoHouse) = some false)
    (a_NoLetter : PySem.W.nsIn K mainGlobals "NoLetter" = some (some (.ref C_NoLetter)))
    (i_NoLetter : PySem.W.isClsIn K C_NoLetter = true)
    (y_NoLetter : PySem.W.typeIn K (.ref C_NoLetter) = some (.type "type"))
    (n_NoLetter : PySem.W.subIn K (.type "NoneType") (.ref C_NoLetter) = some false)
    (a_NoCount : PySem.W.nsIn K mainGlobals "NoCount" = some (some (.ref C_NoCount)))
    (i_NoCount : PySem.W.isClsIn K C_NoCount = true)
    (y_NoCount : PySem.W.typeIn K (.ref C_NoCount) = some (.type "type"))
    (n_NoCount : PySem.W.subIn K (.type "NoneType") (.ref C_NoCount) = some false)
    (a_NoMove : PySem.W.nsIn K mainGlobals "NoMove" = some (some (.ref C_NoMove)))
    (i_NoMove : PySem.W.isClsIn K C_NoMove = true)
    (y_NoMove : PySem.W.typeIn K (.ref C_NoMove) = some (.type "type"))
    (n_NoMove : PySem.W.subIn K (.type "NoneType") (.ref C_NoMove) = some false)
    (a_NoWord : PySem.W.nsIn K mainGlobals "NoWord" = some (some (.ref C_NoWord)))
    (i_NoWord : PySem.W.isClsIn K C_NoWord = true)
    (y_NoWord : PySem.W.typeIn K (.ref C_NoWord) = some (.type "type"))
    (n_NoWord : PySem.W.subIn K (.type "NoneType") (.ref C_NoWord) = some false)
    (a_Full : PySem.W.nsIn K mainGlobals "Full" = some (some (.ref C_Full)))
    (i_Full : PySem.W.isClsIn K C_Full = true)
    (y_Full : PySem.W.typeIn K (.ref C_Full) = some (.type "type"))
    (n_Full : PySem.W.subIn K (.type "NoneType") (.ref C_Full) = some false)
    (a_NoDeed : PySem.W.nsIn K mainGlobals "NoDeed" = some (some (.ref C_NoDeed)))
    (i_NoDeed : PySem.W.isClsIn K C_NoDeed = true)
    (y_NoDeed : PySem.W.typeIn K (.ref C_NoDeed) = some (.type "type"))
    (n_NoDeed : PySem.W.subIn K (.type "NoneType") (.ref C_NoDeed) = some false)
    (a_NoText : PySem.W.nsIn K mainGlobals "NoText" = some (some (.ref C_NoText)))
    (i_NoText : PySem.W.isClsIn K C_NoText = true)
    (y_NoText : PySem.W.typeIn K (.ref C_NoText) = some (.type "type"))
    (n_NoText : PySem.W.subIn K (.type "NoneType") (.ref C_NoText) = some false)
    (a_NoLine : PySem.W.nsIn K mainGlobals "NoLine" = some (some (.ref C_NoLine)))
    (i_NoLine : PySem.W.isClsIn K C_NoLine = true)
    (y_NoLine : PySem.W.typeIn K (.ref C_NoLine) = some (.type "type"))
    (n_NoLine : PySem.W.subIn K (.type "NoneType") (.ref C_NoLine) = some false)
    (a_NoOver : PySem.W.nsIn K mainGlobals "NoOver" = some (some (.ref C_NoOver)))
    (i_NoOver : PySem.W.isClsIn K C_NoOver = true)
    (y_NoOver : PySem.W.typeIn K (.ref C_NoOver) = some (.type "type"))
    (n_NoOver : PySem.W.subIn K (.type "NoneType") (.ref C_NoOver) = some false)
    (a_NoName : PySem.W.nsIn K mainGlobals "NoName" = some (some (.ref C_NoName)))
    (i_NoName : PySem.W.isClsIn K C_NoName = true)
    (y_NoName : PySem.W.typeIn K (.ref C_NoName) = some (.type "type"))
    (n_NoName : PySem.W.subIn K (.type "NoneType") (.ref C_NoName) = some false)
    (a_Twice : PySem.W.nsIn K mainGlobals "Twice" = some (some (.ref C_Twice)))
    (i_Twice : PySem.W.isClsIn K C_Twice = true)
    (y_Twice : PySem.W.typeIn K (.ref C_Twice) = some (.type "type"))
    (n_Twice : PySem.W.subIn K (.type "NoneType") (.ref C_Twice) = some false)
    (a_NoNumber : PySem.W.nsIn K mainGlobals "NoNumber" = some (some (.ref C_NoNumber)))
    (i_NoNumber : PySem.W.isClsIn K C_NoNumber = true)
    (y_NoNumber : PySem.W.typeIn K (.ref C_NoNumber) = some (.type "type"))
    (n_NoNumber : PySem.W.subIn K (.type "NoneType") (.ref C_NoNumber) = some false)
    (e_RootError : PySem.W.subIn K (.ref C_RootError) (.type "BaseException") = some true)
    (e_NoPoly : PySem.W.subIn K (.ref C_NoPoly) (.type "BaseException") = some true)
    (e_NoText : PySem.W.subIn K (.ref C_NoText) (.type "BaseException") = some true)
    (e_NoOver : PySem.W.subIn K (.ref C_NoOver) (.type "BaseException") = some true)
    (e_NoName : PySem.W.subIn K (.ref C_NoName) (.type "BaseException") = some true)
    (e_Twice : PySem.W.subIn K (.ref C_Twice) (.type "BaseException") = some true)
    (e_NoNumber : PySem.W.subIn K (.ref C_NoNumber) (.type "BaseException") = some true)
    (s_NoPoly_NoPoly : PySem.W.subIn K (.ref C_NoPoly) (.ref C_NoPoly) = some true)
    (s_NoPoly_RootError : PySem.W.subIn K (.ref C_NoPoly) (.ref C_RootError) = some true)
    (d_NoPoly_RootError : (Value.ref C_NoPoly == Value.ref C_RootError) = false)
    (s_NoPoly_NoHouse : PySem.W.subIn K (.ref C_NoPoly) (.ref C_NoHouse) = some false)
    (d_NoPoly_NoHouse : (Value.ref C_NoPoly == Value.ref C_NoHouse) = false)
    (s_NoPoly_NoLetter : PySem.W.subIn K (.ref C_NoPoly) (.ref C_NoLetter) = some false)
    (d_NoPoly_NoLetter : (Value.ref C_NoPoly == Value.ref C_NoLetter) = false)
    (s_NoPoly_NoCount : PySem.W.subIn K (.ref C_NoPoly) (.ref C_NoCount) = some false)
    (d_NoPoly_NoCount : (Value.ref C_NoPoly == Value.ref C_NoCount) = false)
    (s_NoPoly_NoMove : PySem.W.subIn K (.ref C_NoPoly) (.ref C_NoMove) = some false)
    (d_NoPoly_NoMove : (Value.ref C_NoPoly == Value.ref C_NoMove) = false)
    (s_NoPoly_NoWord : PySem.W.subIn K (.ref C_NoPoly) (.ref C_NoWord) = some false)
    (d_NoPoly_NoWord : (Value.ref C_NoPoly == Value.ref C_NoWord) = false)
    (s_NoPoly_Full : PySem.W.subIn K (.ref C_NoPoly) (.ref C_Full) = some false)
    (d_NoPoly_Full : (Value.ref C_NoPoly == Value.ref C_Full) = false)
    (s_NoPoly_NoDeed : PySem.W.subIn K (.ref C_NoPoly) (.ref C_NoDeed) = some false)
    (d_NoPoly_NoDeed : (Value.ref C_NoPoly == Value.ref C_NoDeed) = false)
    (s_NoPoly_NoText : PySem.W.subIn K (.ref C_NoPoly) (.ref C_NoText) = some false)
    (d_NoPoly_NoText : (Value.ref C_NoPoly == Value.ref C_NoText) = false)
    (s_NoPoly_NoLine : PySem.W.subIn K (.ref C_NoPoly) (.ref C_NoLine) = some false)
    (d_NoPoly_NoLine : (Value.ref C_NoPoly == Value.ref C_NoLine) = false)
    (s_NoPoly_NoOver : PySem.W.subIn K (.ref C_NoPoly) (.ref C_NoOver) = some false)
    (d_NoPoly_NoOver : (Value.ref C_NoPoly == Value.ref C_NoOver) = false)
    (s_NoPoly_NoName : PySem.W.subIn K (.ref C_NoPoly) (.ref C_NoName) = some false)
    (d_NoPoly_NoName : (Value.ref C_NoPoly == Value.ref C_NoName) = false)
    (s_NoPoly_Twice : PySem.W.subIn K (.ref C_NoPoly) (.ref C_Twice) = some false)
    (d_NoPoly_Twice : (Value.ref C_NoPoly == Value.ref C_Twice) = false)
    (s_NoPoly_NoNumber : PySem.W.subIn K (.ref C_NoPoly) (.ref C_NoNumber) = some false)
    (d_NoPoly_NoNumber : (Value.ref C_NoPoly == Value.ref C_NoNumber) = false)
    (k_NoPoly : PySem.W.keepIn K (.ref C_NoPoly) = true)
    (hg_NoPoly : PySem.W.findIn K (.ref C_NoPoly) "__getattribute__" = some (some (.builtin "BaseException.__getattribute__")))
    (hk_NoPoly : PySem.W.findIn K (.ref C_NoPoly) "__getattr__" = some none)
    (hd_NoPoly : PySem.W.hasDictIn K C_NoPoly = true)
    (ha_NoPoly : PySem.W.findIn K (.ref C_NoPoly) "__class__" = some (some (.builtin "object.__class__")))
    (hm_NoPoly : PySem.W.mroIn K C_NoPoly (.type "object") = some true)
    (s_NoText_RootError : PySem.W.subIn K (.ref C_NoText) (.ref C_RootError) = some true)
    (d_NoText_RootError : (Value.ref C_NoText == Value.ref C_RootError) = false)
    (s_NoText_NoPoly : PySem.W.subIn K (.ref C_NoText) (.ref C_NoPoly) = some false)
    (d_NoText_NoPoly : (Value.ref C_NoText == Value.ref C_NoPoly) = false)
    (s_NoText_NoHouse : PySem.W.subIn K (.ref C_NoText) (.ref C_NoHouse) = some false)
    (d_NoText_NoHouse : (Value.ref C_NoText == Value.ref C_NoHouse) = false)
    (s_NoText_NoLetter : PySem.W.subIn K (.ref C_NoText) (.ref C_NoLetter) = some false)
    (d_NoText_NoLetter : (Value.ref C_NoText == Value.ref C_NoLetter) = false)
    (s_NoText_NoCount : PySem.W.subIn K (.ref C_NoText) (.ref C_NoCount) = some false)
    (d_NoText_NoCount : (Value.ref C_NoText == Value.ref C_NoCount) = false)
    (s_NoText_NoMove : PySem.W.subIn K (.ref C_NoText) (.ref C_NoMove) = some false)
    (d_NoText_NoMove : (Value.ref C_NoText == Value.ref C_NoMove) = false)
    (s_NoText_NoWord : PySem.W.subIn K (.ref C_NoText) (.ref C_NoWord) = some false)
    (d_NoText_NoWord : (Value.ref C_NoText == Value.ref C_NoWord) = false)
    (s_NoText_Full : PySem.W.subIn K (.ref C_NoText) (.ref C_Full) = some false)
    (d_NoText_Full : (Value.ref C_NoText == Value.ref C_Full) = false)
    (s_NoText_NoDeed : PySem.W.subIn K (.ref C_NoText) (.ref C_NoDeed) = some false)
    (d_NoText_NoDeed : (Value.ref C_NoText == Value.ref C_NoDeed) = false)
    (s_NoText_NoLine : PySem.W.subIn K (.ref C_NoText) (.ref C_NoLine) = some false)
    (d_NoText_NoLine : (Value.ref C_NoText == Value.ref C_NoLine) = false)
    (s_NoText_NoOver : PySem.W.subIn K (.ref C_NoText) (.ref C_NoOver) = some false)
    (d_NoText_NoOver : (Value.ref C_NoText == Value.ref C_NoOver) = false)
    (s_NoText_NoName : PySem.W.subIn K (.ref C_NoText) (.ref C_NoName) = some false)
    (d_NoText_NoName : (Value.ref C_NoText == Value.ref C_NoName) = false)
    (s_NoText_Twice : PySem.W.subIn K (.ref C_NoText) (.ref C_Twice) = some false)
    (d_NoText_Twice : (Value.ref C_NoText == Value.ref C_Twice) = false)
    (s_NoText_NoNumber : PySem.W.subIn K (.ref C_NoText) (.ref C_NoNumber) = some false)
    (d_NoText_NoNumber : (Value.ref C_NoText == Value.ref C_NoNumber) = false)
    (x_NoText : PySem.W.excIn K C_NoText [.type "ValueError", .type "Exception", .type "BaseException", .type "object"] "ValueError.__new__" = true)
    (k_NoText : PySem.W.keepIn K (.ref C_NoText) = true)
    (hg_NoText : PySem.W.findIn K (.ref C_NoText) "__getattribute__" = some (some (.builtin "BaseException.__getattribute__")))
    (hk_NoText : PySem.W.findIn K (.ref C_NoText) "__getattr__" = some none)
    (hd_NoText : PySem.W.hasDictIn K C_NoText = true)
    (ha_NoText : PySem.W.findIn K (.ref C_NoText) "__class__" = some (some (.builtin "object.__class__")))
    (hm_NoText : PySem.W.mroIn K C_NoText (.type "object") = some true)
    (oc_NoPoly : K.lookup C_NoPoly = some (excClassObj nm_NoPoly q_NoPoly C_NoPoly N_NoPoly bs_NoPoly bm_NoPoly true sn_NoPoly sub_NoPoly ab_NoPoly col_NoPoly dd_NoPoly k0_NoPoly k1_NoPoly k2_NoPoly k3_NoPoly k5_NoPoly "ValueError.__new__"))
    (ov_NoPoly : PySem.HandSPX.refsVE bm_NoPoly = true)
    (os_NoPoly : PySem.W.findIn K (.ref C_NoPoly) "__setattr__" = some (some (.builtin "object.__setattr__")))
    (of_NoPoly : PySem.W.findIn K (.ref C_NoPoly) "at" = some none)
    (ir : PySem.W.readsIn (mc := .type "type") K C_RootError = true)
    (if_ : PySem.W.findCls K (.ref C_RootError) (.type "type") "__init__" = some (.val (.builtin "ValueError.__init__")))
    (ig : PySem.W.specialIn K (.ref C_RootError) "__getattribute__" = some (some (.builtin "type.__getattribute__")))
    (hn : PySem.W.specialIn K (.builtin "object.__class__") "__get__" = some (some (.builtin "getset_descriptor.__get__")))
    (ht : PySem.W.takesIn K (.builtin "object.__class__") = some true) :
    ∃ fd : FuncData, (∀ (s : Shared) (v : Value), BindsTo s fd ⟨[v], []⟩ [("_law_script", v)]) ∧ ∀ base : Heap, K.In base → base.Ns mainGlobals mg → FnOk l.prog w K mg base CX0 7 fa fd ["_law_script"] (spLaw K) := by
  have T : Txt K mg ⟨C_RootError, C_NoPoly, C_NoHouse, C_NoLetter, C_NoCount, C_NoMove, C_NoWord, C_Full, C_NoDeed, C_NoText, C_NoLine, C_NoOver, C_NoName, C_Twice, C_NoNumber⟩ := { g_RootError := PySem.W.mg_of X G a_RootError, g_NoPoly := PySem.W.mg_of X G a_NoPoly, g_NoHouse := PySem.W.mg_of X G a_NoHouse, g_NoLetter := PySem.W.mg_of X G a_NoLetter, g_NoCount := PySem.W.mg_of X G a_NoCount, g_NoMove := PySem.W.mg_of X G a_NoMove, g_NoWord := PySem.W.mg_of X G a_NoWord, g_Full := PySem.W.mg_of X G a_Full, g_NoDeed := PySem.W.mg_of X G a_NoDeed, g_NoText := PySem.W.mg_of X G a_NoText, g_NoLine := PySem.W.mg_of X G a_NoLine, g_NoOver := PySem.W.mg_of X G a_NoOver, g_NoName := PySem.W.mg_of X G a_NoName, g_Twice := PySem.W.mg_of X G a_Twice, g_NoNumber := PySem.W.mg_of X G a_NoNumber, row_none := { k_RootError := kit_none ⟨i_RootError, y_RootError⟩ n_RootError, k_NoPoly := kit_none ⟨i_NoPoly, y_NoPoly⟩ n_NoPoly, k_NoHouse := kit_none ⟨i_NoHouse, y_NoHouse⟩ n_NoHouse, k_NoLetter := kit_none ⟨i_NoLetter, y_NoLetter⟩ n_NoLetter, k_NoCount := kit_none ⟨i_NoCount, y_NoCount⟩ n_NoCount, k_NoMove := kit_none ⟨i_NoMove, y_NoMove⟩ n_NoMove, k_NoWord := kit_none ⟨i_NoWord, y_NoWord⟩ n_NoWord, k_Full := kit_none ⟨i_Full, y_Full⟩ n_Full, k_NoDeed := kit_none ⟨i_NoDeed, y_NoDeed⟩ n_NoDeed, k_NoText := kit_none ⟨i_NoText, y_NoText⟩ n_NoText, k_NoLine := kit_none ⟨i_NoLine, y_NoLine⟩ n_NoLine, k_NoOver := kit_none ⟨i_NoOver, y_NoOver⟩ n_NoOver, k_NoName := kit_none ⟨i_NoName, y_NoName⟩ n_NoName, k_Twice := kit_none ⟨i_Twice, y_Twice⟩ n_Twice, k_NoNumber := kit_none ⟨i_NoNumber, y_NoNumber⟩ n_NoNumber }, row_NoPoly := { k_RootError := kit_of_sub ⟨i_RootError, y_RootError⟩ s_NoPoly_RootError d_NoPoly_RootError, k_NoPoly := kit_self, k_NoHouse := kit_of_sub ⟨i_NoHouse, y_NoHouse⟩ s_NoPoly_NoHouse d_NoPoly_NoHouse, k_NoLetter := kit_of_sub ⟨i_NoLetter, y_NoLetter⟩ s_NoPoly_NoLetter d_NoPoly_NoLetter, k_NoCount := kit_of_sub ⟨i_NoCount, y_NoCount⟩ s_NoPoly_NoCount d_NoPoly_NoCount, k_NoMove := kit_of_sub ⟨i_NoMove, y_NoMove⟩ s_NoPoly_NoMove d_NoPoly_NoMove, k_NoWord := kit_of_sub ⟨i_NoWord, y_NoWord⟩ s_NoPoly_NoWord d_NoPoly_NoWord, k_Full := kit_of_sub ⟨i_Full, y_Full⟩ s_NoPoly_Full d_NoPoly_Full, k_NoDeed := kit_of_sub ⟨i_NoDeed, y_NoDeed⟩ s_NoPoly_NoDeed d_NoPoly_NoDeed, k_NoText := kit_of_sub ⟨i_NoText, y_NoText⟩ s_NoPoly_NoText d_NoPoly_NoText, k_NoLine := kit_of_sub ⟨i_NoLine, y_NoLine⟩ s_NoPoly_NoLine d_NoPoly_NoLine, k_NoOver := kit_of_sub ⟨i_NoOver, y_NoOver⟩ s_NoPoly_NoOver d_NoPoly_NoOver, k_NoName := kit_of_sub ⟨i_NoName, y_NoName⟩ s_NoPoly_NoName d_NoPoly_NoName, k_Twice := kit_of_sub ⟨i_Twice, y_Twice⟩ s_NoPoly_Twice d_NoPoly_Twice, k_NoNumber := kit_of_sub ⟨i_NoNumber, y_NoNumber⟩ s_NoPoly_NoNumber d_NoPoly_NoNumber }, exc_NoPoly := ⟨hg_NoPoly, hk_NoPoly, e_NoPoly, hd_NoPoly, ha_NoPoly, hn, ht, hm_NoPoly⟩, exm_NoPoly_RootError := exm_of_sub ⟨i_RootError, y_RootError⟩ e_RootError s_NoPoly_RootError, exm_NoPoly_NoPoly := exm_of_sub ⟨i_NoPoly, y_NoPoly⟩ e_NoPoly s_NoPoly_NoPoly, exm_NoPoly_NoOver := exm_of_sub ⟨i_NoOver, y_NoOver⟩ e_NoOver s_NoPoly_NoOver, exm_NoPoly_NoName := exm_of_sub ⟨i_NoName, y_NoName⟩ e_NoName s_NoPoly_NoName, exm_NoPoly_Twice := exm_of_sub ⟨i_Twice, y_Twice⟩ e_Twice s_NoPoly_Twice, exm_NoPoly_NoNumber := exm_of_sub ⟨i_NoNumber, y_NoNumber⟩ e_NoNumber s_NoPoly_NoNumber, oex_NoPoly := ⟨⟨_, _, _, _, _, _, _, _, _, _, _, _, _, _, _, oc_NoPoly, ov_NoPoly⟩, os_NoPoly, e_NoPoly, y_NoPoly, k_NoPoly⟩, no_NoPoly := of_NoPoly, ini_RootError := ⟨ir, if_, ig⟩, row_NoText := { k_RootError := kit_of_sub ⟨i_RootError, y_RootError⟩ s_NoText_RootError d_NoText_RootError, k_NoPoly := kit_of_sub ⟨i_NoPoly, y_NoPoly⟩ s_NoText_NoPoly d_NoText_NoPoly, k_NoHouse := kit_of_sub ⟨i_NoHouse, y_NoHouse⟩ s_NoText_NoHouse d_NoText_NoHouse, k_NoLetter := kit_of_sub ⟨i_NoLetter, y_NoLetter⟩ s_NoText_NoLetter d_NoText_NoLetter, k_NoCount := kit_of_sub ⟨i_NoCount, y_NoCount⟩ s_NoText_NoCount d_NoText_NoCount, k_NoMove := kit_of_sub ⟨i_NoMove, y_NoMove⟩ s_NoText_NoMove d_NoText_NoMove, k_NoWord := kit_of_sub ⟨i_NoWord, y_NoWord⟩ s_NoText_NoWord d_NoText_NoWord, k_Full := kit_of_sub ⟨i_Full, y_Full⟩ s_NoText_Full d_NoText_Full, k_NoDeed := kit_of_sub ⟨i_NoDeed, y_NoDeed⟩ s_NoText_NoDeed d_NoText_NoDeed, k_NoText := kit_self, k_NoLine := kit_of_sub ⟨i_NoLine, y_NoLine⟩ s_NoText_NoLine d_NoText_NoLine, k_NoOver := kit_of_sub ⟨i_NoOver, y_NoOver⟩ s_NoText_NoOver d_NoText_NoOver, k_NoName := kit_of_sub ⟨i_NoName, y_NoName⟩ s_NoText_NoName d_NoText_NoName, k_Twice := kit_of_sub ⟨i_Twice, y_Twice⟩ s_NoText_Twice d_NoText_Twice, k_NoNumber := kit_of_sub ⟨i_NoNumber, y_NoNumber⟩ s_NoText_NoNumber d_NoText_NoNumber }, exc_NoText := ⟨hg_NoText, hk_NoText, e_NoText, hd_NoText, ha_NoText, hn, ht, hm_NoText⟩, exm_NoText_RootError := exm_of_sub ⟨i_RootError, y_RootError⟩ e_RootError s_NoText_RootError, exm_NoText_NoPoly := exm_of_sub ⟨i_NoPoly, y_NoPoly⟩ e_NoPoly s_NoText_NoPoly, exm_NoText_NoOver := exm_of_sub ⟨i_NoOver, y_NoOver⟩ e_NoOver s_NoText_NoOver, exm_NoText_NoName := exm_of_sub ⟨i_NoName, y_NoName⟩ e_NoName s_NoText_NoName, exm_NoText_Twice := exm_of_sub ⟨i_Twice, y_Twice⟩ e_Twice s_NoText_Twice, exm_NoText_NoNumber := exm_of_sub ⟨i_NoNumber, y_NoNumber⟩ e_NoNumber s_NoText_NoNumber, x_NoText := x_NoText, k_NoText := k_NoText, b_NoText := e_NoText, t_NoText := y_NoText, z_abs := PySem.W.mg_none_of X G z_abs, z_len := PySem.W.mg_none_of X G z_len, z_range := PySem.W.mg_none_of X G z_range, z_max := PySem.W.mg_none_of X G z_max, z_enumerate := PySem.W.mg_none_of X G z_enumerate, z_isinstance := PySem.W.mg_none_of X G z_isinstance, z_int := PySem.W.mg_none_of X G z_int, z_bool := PySem.W.mg_none_of X G z_bool, z_tuple := PySem.W.mg_none_of X G z_tuple, z_list := PySem.W.mg_none_of X G z_list, z_zip := PySem.W.mg_none_of X G z_zip, z_str := PySem.W.mg_none_of X G z_str, z_all := PySem.W.mg_none_of X G z_all, mg_MOST := ⟨_, PySem.W.mg_of X G m_MOST, ⟨_, rfl⟩⟩, mg_MOST_FIGURES := ⟨_, PySem.W.mg_of X G m_MOST_FIGURES, ⟨_, rfl⟩⟩, mg_FIGURES := ⟨_, PySem.W.mg_of X G m_FIGURES, ⟨_, rfl⟩⟩ }
  have e := hfa.symm.trans (PySem.W.mg_of X G a31)
  cases e
  refine ⟨PySem.W.fnOf "law" "law" (defArgs s_law) (defBody s_law) (defScope s_law) .none kV31 dc31 pm31 an31 cd31 ct31, fun s v => .of_eq rfl, fun base _ _ => ?_⟩
  have F0 := L2.fun_mk (st := s_divisor) l0 c0 k0
  have b0 := F0.binds (ps := P_divisor) fun _ _ _ _ _ _ us hl => match us, hl with | [_, _], _ => rfl
  have h_divisor : Cal l.prog w K mg base 1 "divisor" sp_divisor [] := ⟨f0, _, P_divisor, [], ok_divisor T F0 , PySem.W.mg_of X G a0, k0, b0, .nil⟩
  have F1 := L2.fun_mk (st := s_lowest) l1 c1 k1
  have b1 := F1.binds (ps := P_lowest) fun _ _ _ _ _ _ us hl => match us, hl with | [_, _], _ => rfl
  have h_lowest : Cal l.prog w K mg base 2 "lowest" (sp_lowest K) [] := ⟨f1, _, P_lowest, [], ok_lowest T F1 h_divisor, PySem.W.mg_of X G a1, k1, b1, .nil⟩
  have F2 := L2.fun_mk (st := s_told_by) l2 c2 k2
  have b2 := F2.binds (ps := P_told_by) fun _ _ _ _ _ _ us hl => match us, hl with | [_], _ => rfl
  have h_told_by : Cal l.prog w K mg base 1 "told_by" (sp_told_by K) [] := ⟨f2, _, P_told_by, [], ok_told_by T F2 , PySem.W.mg_of X G a2, k2, b2, .nil⟩
  have F3 : FunD K "__init__" "NoPoly.__init__" (defArgs s_NoPoly_init) (defBody s_NoPoly_init) (defScope s_NoPoly_init) [.non] [] f3 _ := ⟨⟨_, _, _, _, _, _, _, _, _, _, rfl, l3, c3, .inr ⟨by decide, _, _, [_], _, e3, t3, u3, .cons rfl .nil⟩, .inl rfl⟩, k3⟩
  have i_NoPoly : IniCal l.prog w K mg base 1 "NoPoly" C_NoPoly "at" (.non) := by
    obtain ⟨ds, vds, bds⟩ := F3.binds1 (ps := P_NoPoly_init) 1 0 (by decide) rfl fun T kV doc pm an cdv ct us its h1 h2 => match us, its, h1, h2 with | [u], [d], _, _ => ⟨_, rfl, rfl⟩
    exact ⟨T.oex_NoPoly, T.g_NoPoly, T.no_NoPoly, f3, _, P_NoPoly_init, ds, ok_NoPoly_init T F3, a3, y3, bds, vds, fun s u v Xs => .of_defaults e3 (Xs _ _ t3) u3 rfl rfl⟩
  have F4 := L2.fun_mk (st := s_must_poly) l4 c4 k4
  have b4 := F4.binds (ps := P_must_poly) fun _ _ _ _ _ _ us hl => match us, hl with | [_], _ => rfl
  have hM_must_poly : CalN l.prog w K mg base 3 "must_poly" (sp_must_poly K ⟨C_RootError, C_NoPoly, C_NoHouse, C_NoLetter, C_NoCount, C_NoMove, C_NoWord, C_Full, C_NoDeed, C_NoText, C_NoLine, C_NoOver, C_NoName, C_Twice, C_NoNumber⟩) := ⟨f4, _, P_must_poly, ok_must_poly T F4 h_told_by i_NoPoly, PySem.W.mg_of X G a4, k4, b4⟩
  have hN_must_poly : CalN l.prog w K mg base 3 "must_poly" (spX (W_must_poly ⟨C_RootError, C_NoPoly, C_NoHouse, C_NoLetter, C_NoCount, C_NoMove, C_NoWord, C_Full, C_NoDeed, C_NoText, C_NoLine, C_NoOver, C_NoName, C_Twice, C_NoNumber⟩)) := CalN.imp hM_must_poly fun _ _ _ _ h => ad_must_poly h
  have h_must_poly := hM_must_poly.x
  have hD_must_poly := hN_must_poly.x
  have F5 := L2.fun_mk (st := s_fraction_text) l5 c5 k5
  have b5 := F5.binds (ps := P_fraction_text) fun _ _ _ _ _ _ us hl => match us, hl with | [_], _ => rfl
  have h_fraction_text : Cal l.prog w K mg base 1 "fraction_text" (spD W_fraction_text) [] := ⟨f5, _, P_fraction_text, [], ok_fraction_text T F5 , PySem.W.mg_of X G a5, k5, b5, .nil⟩
  have F6 := L2.fun_mk (st := s_product_text) l6 c6 k6
  have b6 := F6.binds (ps := P_product_text) fun _ _ _ _ _ _ us hl => match us, hl with | [_, _], _ => rfl
  have h_product_text : Cal l.prog w K mg base 1 "product_text" (spD W_product_text) [] := ⟨f6, _, P_product_text, [], ok_product_text T F6 , PySem.W.mg_of X G a6, k6, b6, .nil⟩
  have F7 := L2.fun_mk (st := s_share_text) l7 c7 k7
  have b7 := F7.binds (ps := P_share_text) fun _ _ _ _ _ _ us hl => match us, hl with | [_, _], _ => rfl
  have h_share_text : Cal l.prog w K mg base 2 "share_text" (spD W_share_text) [] := ⟨f7, _, P_share_text, [], ok_share_text T F7 h_fraction_text, PySem.W.mg_of X G a7, k7, b7, .nil⟩
  have F8 := L2.fun_mk (st := s_sum_text) l8 c8 k8
  have b8 := F8.binds (ps := P_sum_text) fun _ _ _ _ _ _ us hl => match us, hl with | [_], _ => rfl
  have h_sum_text : Cal l.prog w K mg base 3 "sum_text" (spD W_sum_text) [] := ⟨f8, _, P_sum_text, [], ok_sum_text T F8 h_share_text, PySem.W.mg_of X G a8, k8, b8, .nil⟩
  have F9 := L2.fun_mk (st := s_must) l9 c9 k9
  have b9 := F9.binds (ps := P_must) fun _ _ _ _ _ _ us hl => match us, hl with | [_], _ => rfl
  have h_must : CalX l.prog w K mg base 1 "must" (spX (W_must ⟨C_RootError, C_NoPoly, C_NoHouse, C_NoLetter, C_NoCount, C_NoMove, C_NoWord, C_Full, C_NoDeed, C_NoText, C_NoLine, C_NoOver, C_NoName, C_Twice, C_NoNumber⟩)) := ⟨f9, _, P_must, ok_must T F9 , PySem.W.mg_of X G a9, k9, b9⟩
  have F10 := L2.fun_mk (st := s_whole_in) l10 c10 k10
  have b10 := F10.binds (ps := P_whole_in) fun _ _ _ _ _ _ us hl => match us, hl with | [_], _ => rfl
  have h_whole_in : CalX l.prog w K mg base 2 "whole_in" (spX (W_whole_in ⟨C_RootError, C_NoPoly, C_NoHouse, C_NoLetter, C_NoCount, C_NoMove, C_NoWord, C_Full, C_NoDeed, C_NoText, C_NoLine, C_NoOver, C_NoName, C_Twice, C_NoNumber⟩)) := ⟨f10, _, P_whole_in, ok_whole_in T F10 h_must, PySem.W.mg_of X G a10, k10, b10⟩
  have F11 := L2.fun_mk (st := s_pieces_of) l11 c11 k11
  have b11 := F11.binds (ps := P_pieces_of) fun _ _ _ _ _ _ us hl => match us, hl with | [_], _ => rfl
  have h_pieces_of : Cal l.prog w K mg base 1 "pieces_of" (spD W_pieces_of) [] := ⟨f11, _, P_pieces_of, [], ok_pieces_of T F11 , PySem.W.mg_of X G a11, k11, b11, .nil⟩
  have F12 := L2.fun_mk (st := s_fraction_in) l12 c12 k12
  have b12 := F12.binds (ps := P_fraction_in) fun _ _ _ _ _ _ us hl => match us, hl with | [_], _ => rfl
  have h_fraction_in : CalX l.prog w K mg base 3 "fraction_in" (spX (W_fraction_in ⟨C_RootError, C_NoPoly, C_NoHouse, C_NoLetter, C_NoCount, C_NoMove, C_NoWord, C_Full, C_NoDeed, C_NoText, C_NoLine, C_NoOver, C_NoName, C_Twice, C_NoNumber⟩)) := ⟨f12, _, P_fraction_in, ok_fraction_in T F12 h_must h_whole_in h_lowest, PySem.W.mg_of X G a12, k12, b12⟩
  have F13 := L2.fun_mk (st := s_parted) l13 c13 k13
  have b13 := F13.binds (ps := P_parted) fun _ _ _ _ _ _ us hl => match us, hl with | [_], _ => rfl
  have h_parted : CalX l.prog w K mg base 4 "parted" (spX (W_parted ⟨C_RootError, C_NoPoly, C_NoHouse, C_NoLetter, C_NoCount, C_NoMove, C_NoWord, C_Full, C_NoDeed, C_NoText, C_NoLine, C_NoOver, C_NoName, C_Twice, C_NoNumber⟩)) := ⟨f13, _, P_parted, ok_parted T F13 h_must h_fraction_in, PySem.W.mg_of X G a13, k13, b13⟩
  have F14 := L2.fun_mk (st := s_powers_text) l14 c14 k14
  have b14 := F14.binds (ps := P_powers_text) fun _ _ _ _ _ _ us hl => match us, hl with | [_], _ => rfl
  have h_powers_text : Cal l.prog w K mg base 4 "powers_text" (spD W_powers_text) [] := ⟨f14, _, P_powers_text, [], ok_powers_text T F14 h_product_text h_sum_text, PySem.W.mg_of X G a14, k14, b14, .nil⟩
  have F15 := L2.fun_mk (st := s_text_of) l15 c15 k15
  have b15 := F15.binds (ps := P_text_of) fun _ _ _ _ _ _ us hl => match us, hl with | [_], _ => rfl
  have h_text_of : CalX l.prog w K mg base 5 "text_of" (spX (W_text_of ⟨C_RootError, C_NoPoly, C_NoHouse, C_NoLetter, C_NoCount, C_NoMove, C_NoWord, C_Full, C_NoDeed, C_NoText, C_NoLine, C_NoOver, C_NoName, C_Twice, C_NoNumber⟩)) := ⟨f15, _, P_text_of, ok_text_of T F15 hD_must_poly h_powers_text, PySem.W.mg_of X G a15, k15, b15⟩
  have F16 := L2.fun_mk (st := s_power_in) l16 c16 k16
  have b16 := F16.binds (ps := P_power_in) fun _ _ _ _ _ _ us hl => match us, hl with | [_], _ => rfl
  have h_power_in : CalX l.prog w K mg base 2 "power_in" (spX (W_power_in ⟨C_RootError, C_NoPoly, C_NoHouse, C_NoLetter, C_NoCount, C_NoMove, C_NoWord, C_Full, C_NoDeed, C_NoText, C_NoLine, C_NoOver, C_NoName, C_Twice, C_NoNumber⟩)) := ⟨f16, _, P_power_in, ok_power_in T F16 h_product_text, PySem.W.mg_of X G a16, k16, b16⟩
  have F17 := L2.fun_mk (st := s_read_polynomial) l17 c17 k17
  have b17 := F17.binds (ps := P_read_polynomial) fun _ _ _ _ _ _ us hl => match us, hl with | [_], _ => rfl
  have h_read_polynomial : CalX l.prog w K mg base 5 "read_polynomial" (spX (W_read_poly ⟨C_RootError, C_NoPoly, C_NoHouse, C_NoLetter, C_NoCount, C_NoMove, C_NoWord, C_Full, C_NoDeed, C_NoText, C_NoLine, C_NoOver, C_NoName, C_Twice, C_NoNumber⟩)) := ⟨f17, _, P_read_polynomial, ok_read_polynomial T F17 h_must h_pieces_of h_parted h_power_in hN_must_poly h_powers_text, PySem.W.mg_of X G a17, k17, b17⟩
  have F18 := L2.fun_mk (st := s_Lat) l18 c18 k18
  have b18 := F18.binds (ps := P_Lat) fun _ _ _ _ _ _ us hl => match us, hl with | [_, _], _ => rfl
  have h_Lat : Cal l.prog w K mg base 1 "_law_at" (sp_Lat K) [] := ⟨f18, _, P_Lat, [], ok_Lat T F18 , PySem.W.mg_of X G a18, k18, b18, .nil⟩
  have F19 := L2.fun_mk (st := s_Lmixed) l19 c19 k19
  have b19 := F19.binds (ps := P_Lmixed) fun _ _ _ _ _ _ us hl => match us, hl with | [_, _], _ => rfl
  have h_Lmixed : Cal l.prog w K mg base 1 "_law_mixed" sp_Lmixed [] := ⟨f19, _, P_Lmixed, [], ok_Lmixed T F19 , PySem.W.mg_of X G a19, k19, b19, .nil⟩
  have F20 := L2.fun_mk (st := s_Lpurse) l20 c20 k20
  have b20 := F20.binds (ps := P_Lpurse) fun _ _ _ _ _ _ us hl => match us, hl with | [_, _], _ => rfl
  have h_Lpurse : Cal l.prog w K mg base 2 "_law_purse" (sp_Lpurse K) [] := ⟨f20, _, P_Lpurse, [], ok_Lpurse T F20 h_Lat, PySem.W.mg_of X G a20, k20, b20, .nil⟩
  have F21 := L2.fun_mk (st := s_Ldraw) l21 c21 k21
  have b21 := F21.binds (ps := P_Ldraw) fun _ _ _ _ _ _ us hl => match us, hl with | [_, _], _ => rfl
  have h_Ldraw : Cal l.prog w K mg base 2 "_law_draw" sp_Ldraw [] := ⟨f21, _, P_Ldraw, [], ok_Ldraw T F21 h_Lmixed, PySem.W.mg_of X G a21, k21, b21, .nil⟩
  have hD_Ldraw : Cal l.prog w K mg base 2 "_law_draw" (spP W_Ldraw) [] := Cal.imp h_Ldraw fun _ _ _ _ h => ad_Ldraw h
  have F22 := L2.fun_mk (st := s_Lclass) l22 c22 k22
  have b22 := F22.binds (ps := P_Lclass) fun _ _ _ _ _ _ us hl => match us, hl with | [_], _ => rfl
  have h_Lclass : Cal l.prog w K mg base 1 "_law_class" (spD (W_Lclass K ⟨C_RootError, C_NoPoly, C_NoHouse, C_NoLetter, C_NoCount, C_NoMove, C_NoWord, C_Full, C_NoDeed, C_NoText, C_NoLine, C_NoOver, C_NoName, C_Twice, C_NoNumber⟩)) [] := ⟨f22, _, P_Lclass, [], ok_Lclass T F22 , PySem.W.mg_of X G a22, k22, b22, .nil⟩
  have F23 := L2.fun_mk (st := s_Lalike_roots) l23 c23 k23
  have b23 := F23.binds (ps := P_Lalike_roots) fun _ _ _ _ _ _ us hl => match us, hl with | [_], _ => rfl
  have h_Lalike_roots : Cal l.prog w K mg base 1 "_law_alike_roots" (spD W_Lalike) [] := ⟨f23, _, P_Lalike_roots, [], ok_Lalike_roots T F23 , PySem.W.mg_of X G a23, k23, b23, .nil⟩
  have F24 := L2.fun_mk (st := s_Lfault) l24 c24 k24
  have b24 := F24.binds (ps := P_Lfault) fun _ _ _ _ _ _ us hl => match us, hl with | [_], _ => rfl
  have h_Lfault : Cal l.prog w K mg base 2 "_law_fault" (spD W_Lfault) [] := ⟨f24, _, P_Lfault, [], ok_Lfault T F24 h_Lalike_roots, PySem.W.mg_of X G a24, k24, b24, .nil⟩
  have F25 := L2.fun_mk (st := s_Lpowers) l25 c25 k25
  have b25 := F25.binds (ps := P_Lpowers) fun _ _ _ _ _ _ us hl => match us, hl with | [_], _ => rfl
  have h_Lpowers : Cal l.prog w K mg base 1 "_law_powers" (spD W_Lpowers) [] := ⟨f25, _, P_Lpowers, [], ok_Lpowers T F25 , PySem.W.mg_of X G a25, k25, b25, .nil⟩
  have F26 := L2.fun_mk (st := s_Lpiece) l26 c26 k26
  have b26 := F26.binds (ps := P_Lpiece) fun _ _ _ _ _ _ us hl => match us, hl with | [_], _ => rfl
  have h_Lpiece : Cal l.prog w K mg base 1 "_law_piece" (spD W_Lpiece) [] := ⟨f26, _, P_Lpiece, [], ok_Lpiece T F26 , PySem.W.mg_of X G a26, k26, b26, .nil⟩
  have F27 := L2.fun_mk (st := s_Lread) l27 c27 k27
  have b27 := F27.binds (ps := P_Lread) fun _ _ _ _ _ _ us hl => match us, hl with | [_], _ => rfl
  have h_Lread : Cal l.prog w K mg base 3 "_law_read" (spD W_Lread) [] := ⟨f27, _, P_Lread, [], ok_Lread T F27 h_Lpiece h_Lfault h_Lpowers, PySem.W.mg_of X G a27, k27, b27, .nil⟩
  have F28 := L2.fun_mk (st := s_Lasked) l28 c28 k28
  have b28 := F28.binds (ps := P_Lasked) fun _ _ _ _ _ _ us hl => match us, hl with | [_, _], _ => rfl
  have h_Lasked : Cal l.prog w K mg base 6 "_law_asked" (spD W_Lasked) [] := ⟨f28, _, P_Lasked, [], ok_Lasked T F28 h_text_of h_read_polynomial h_Lclass, PySem.W.mg_of X G a28, k28, b28, .nil⟩
  have F29 := L2.fun_mk (st := s_Llist) l29 c29 k29
  have b29 := F29.binds (ps := P_Llist) fun _ _ _ _ _ _ us hl => match us, hl with | [_], _ => rfl
  have h_Llist : Cal l.prog w K mg base 3 "_law_list" (spP W_Llist) [] := ⟨f29, _, P_Llist, [], ok_Llist T F29 hD_Ldraw, PySem.W.mg_of X G a29, k29, b29, .nil⟩
  have F30 := L2.fun_mk (st := s_Lbent) l30 c30 k30
  have b30 := F30.binds (ps := P_Lbent) fun _ _ _ _ _ _ us hl => match us, hl with | [_, _], _ => rfl
  have h_Lbent : Cal l.prog w K mg base 3 "_law_bent" (spP W_Lbent) [] := ⟨f30, _, P_Lbent, [], ok_Lbent T F30 hD_Ldraw, PySem.W.mg_of X G a30, k30, b30, .nil⟩
  have F31 := L2.fun_mk (st := s_law) l31 c31 k31
  exact ok_law T F31 h_Lpurse h_Llist h_Lfault h_Lpowers h_Lasked h_Lbent h_Lread
end My
namespace My
open PySem PySem.Spec PyProof.Rows L2
theorem facts {l : PySem.W.OpenLaw} {w : World} {K : PySem.W.Frag} {h : Heap} {mg : Str → Option Value} {fa : Addr} (X : K.In h) (G : h.Ns mainGlobals mg) (hfa : mg "law" = some (.ref fa)) (c : obsM ck fnL K = valM fnL) :
    ∃ fd : FuncData, (∀ (s : Shared) (v : Value), BindsTo s fd ⟨[v], []⟩ [("_law_script", v)]) ∧ ∀ base : Heap, K.In base → base.Ns mainGlobals mg → FnOk l.prog w K mg base CX0 7 fa fd ["_law_script"] (spLaw K) := by
  have c0 : ck K = true := saysM_ck c
  have g0 : (ck_0 K).all id = true := all_at c0 0 rfl
  have g1 : (ck_1 K).all id = true := all_at c0 1 rfl
  have g2 : (ck_2 K).all id = true := all_at c0 2 rfl
  have g3 : (ck_3 K).all id = true := all_at c0 3 rfl
  obtain ⟨tt_m_MOST, p_m_MOST⟩ := intB_ok (all_at g3 11 rfl)
  obtain ⟨tt_m_MOST_FIGURES, p_m_MOST_FIGURES⟩ := intB_ok (all_at g3 12 rfl)
  obtain ⟨tt_m_FIGURES, p_m_FIGURES⟩ := strB_ok (all_at g3 13 rfl)
  have g4 : (ck_4 K).all id = true := all_at c0 4 rfl
  have g5 : (ck_5 K).all id = true := all_at c0 5 rfl
  have g6 : (ck_6 K).all id = true := all_at c0 6 rfl
  have g7 : (ck_7 K).all id = true := all_at c0 7 rfl
  have g8 : (ck_8 K).all id = true := all_at c0 8 rfl
  have g9 : (ck_9 K).all id = true := all_at c0 9 rfl
  have g10 : (ck_10 K).all id = true := all_at c0 10 rfl
  have g11 : (ck_11 K).all id = true := all_at c0 11 rfl
  have g12 : (ck_12 K).all id = true := all_at c0 12 rfl
  have g13 : (ck_13 K).all id = true := all_at c0 13 rfl
  have g14 : (ck_14 K).all id = true := all_at c0 14 rfl
  have g15 : (ck_15 K).all id = true := all_at c0 15 rfl
  obtain ⟨nm_NoPoly, q_NoPoly, bs_NoPoly, bm_NoPoly, sn_NoPoly, sub_NoPoly, ab_NoPoly, col_NoPoly, dd_NoPoly, k0_NoPoly, k1_NoPoly, k2_NoPoly, k3_NoPoly, k5_NoPoly, p_oc_NoPoly, p_ov_NoPoly⟩ := clsB_ok (all_at g15 4 rfl)
  obtain ⟨oc0, od0, kV0, dc0, pm0, an0, cd0, ct0, sl0, p_l0, p_c0, p_k0⟩ := fn0_of (saysM_fn c 0 rfl)
  obtain ⟨oc1, od1, kV1, dc1, pm1, an1, cd1, ct1, sl1, p_l1, p_c1, p_k1⟩ := fn0_of (saysM_fn c 1 rfl)
  obtain ⟨oc2, od2, kV2, dc2, pm2, an2, cd2, ct2, sl2, p_l2, p_c2, p_k2⟩ := fn0_of (saysM_fn c 2 rfl)
  obtain ⟨oc3, od3, kV3, dc3, pm3, an3, cd3, ct3, sl3, dV3, dT3, do3, du3, dn3, p_l3, p_c3, p_k3, p_e3, p_t3, p_u3, rv3⟩ := fn1_of (saysM_fn c 3 rfl)
  cases (show du3 = Value.none from rv3)
  obtain ⟨oc4, od4, kV4, dc4, pm4, an4, cd4, ct4, sl4, p_l4, p_c4, p_k4⟩ := fn0_of (saysM_fn c 4 rfl)
  obtain ⟨oc5, od5, kV5, dc5, pm5, an5, cd5, ct5, sl5, p_l5, p_c5, p_k5⟩ := fn0_of (saysM_fn c 5 rfl)
  obtain ⟨oc6, od6, kV6, dc6, pm6, an6, cd6, ct6, sl6, p_l6, p_c6, p_k6⟩ := fn0_of (saysM_fn c 6 rfl)
  obtain ⟨oc7, od7, kV7, dc7, pm7, an7, cd7, ct7, sl7, p_l7, p_c7, p_k7⟩ := fn0_of (saysM_fn c 7 rfl)
  obtain ⟨oc8, od8, kV8, dc8, pm8, an8, cd8, ct8, sl8, p_l8, p_c8, p_k8⟩ := fn0_of (saysM_fn c 8 rfl)
  obtain ⟨oc9, od9, kV9, dc9, pm9, an9, cd9, ct9, sl9, p_l9, p_c9, p_k9⟩ := fn0_of (saysM_fn c 9 rfl)
  obtain ⟨oc10, od10, kV10, dc10, pm10, an10, cd10, ct10, sl10, p_l10, p_c10, p_k10⟩ := fn0_of (saysM_fn c 10 rfl)
  obtain ⟨oc11, od11, kV11, dc11, pm11, an11, cd11, ct11, sl11, p_l11, p_c11, p_k11⟩ := fn0_of (saysM_fn c 11 rfl)
  obtain ⟨oc12, od12, kV12, dc12, pm12, an12, cd12, ct12, sl12, p_l12, p_c12, p_k12⟩ := fn0_of (saysM_fn c 12 rfl)
  obtain ⟨oc13, od13, kV13, dc13, pm13, an13, cd13, ct13, sl13, p_l13, p_c13, p_k13⟩ := fn0_of (saysM_fn c 13 rfl)
  obtain ⟨oc14, od14, kV14, dc14, pm14, an14, cd14, ct14, sl14, p_l14, p_c14, p_k14⟩ := fn0_of (saysM_fn c 14 rfl)
  obtain ⟨oc15, od15, kV15, dc15, pm15, an15, cd15, ct15, sl15, p_l15, p_c15, p_k15⟩ := fn0_of (saysM_fn c 15 rfl)
  obtain ⟨oc16, od16, kV16, dc16, pm16, an16, cd16, ct16, sl16, p_l16, p_c16, p_k16⟩ := fn0_of (saysM_fn c 16 rfl)
  obtain ⟨oc17, od17, kV17, dc17, pm17, an17, cd17, ct17, sl17, p_l17, p_c17, p_k17⟩ := fn0_of (saysM_fn c 17 rfl)
  obtain ⟨oc18, od18, kV18, dc18, pm18, an18, cd18, ct18, sl18, p_l18, p_c18, p_k18⟩ := fn0_of (saysM_fn c 18 rfl)
  obtain ⟨oc19, od19, kV19, dc19, pm19, an19, cd19, ct19, sl19, p_l19, p_c19, p_k19⟩ := fn0_of (saysM_fn c 19 rfl)
  obtain ⟨oc20, od20, kV20, dc20, pm20, an20, cd20, ct20, sl20, p_l20, p_c20, p_k20⟩ := fn0_of (saysM_fn c 20 rfl)
  obtain ⟨oc21, od21, kV21, dc21, pm21, an21, cd21, ct21, sl21, p_l21, p_c21, p_k21⟩ := fn0_of (saysM_fn c 21 rfl)
  obtain ⟨oc22, od22, kV22, dc22, pm22, an22, cd22, ct22, sl22, p_l22, p_c22, p_k22⟩ := fn0_of (saysM_fn c 22 rfl)
  obtain ⟨oc23, od23, kV23, dc23, pm23, an23, cd23, ct23, sl23, p_l23, p_c23, p_k23⟩ := fn0_of (saysM_fn c 23 rfl)
  obtain ⟨oc24, od24, kV24, dc24, pm24, an24, cd24, ct24, sl24, p_l24, p_c24, p_k24⟩ := fn0_of (saysM_fn c 24 rfl)
  obtain ⟨oc25, od25, kV25, dc25, pm25, an25, cd25, ct25, sl25, p_l25, p_c25, p_k25⟩ := fn0_of (saysM_fn c 25 rfl)
  obtain ⟨oc26, od26, kV26, dc26, pm26, an26, cd26, ct26, sl26, p_l26, p_c26, p_k26⟩ := fn0_of (saysM_fn c 26 rfl)
  obtain ⟨oc27, od27, kV27, dc27, pm27, an27, cd27, ct27, sl27, p_l27, p_c27, p_k27⟩ := fn0_of (saysM_fn c 27 rfl)
  obtain ⟨oc28, od28, kV28, dc28, pm28, an28, cd28, ct28, sl28, p_l28, p_c28, p_k28⟩ := fn0_of (saysM_fn c 28 rfl)
  obtain ⟨oc29, od29, kV29, dc29, pm29, an29, cd29, ct29, sl29, p_l29, p_c29, p_k29⟩ := fn0_of (saysM_fn c 29 rfl)
  obtain ⟨oc30, od30, kV30, dc30, pm30, an30, cd30, ct30, sl30, p_l30, p_c30, p_k30⟩ := fn0_of (saysM_fn c 30 rfl)
  obtain ⟨oc31, od31, kV31, dc31, pm31, an31, cd31, ct31, sl31, p_l31, p_c31, p_k31⟩ := fn0_of (saysM_fn c 31 rfl)
  exact all_mk X G hfa (of_decide_eq_true (all_at g0 0 rfl)) p_l0 p_c0 p_k0 (of_decide_eq_true (all_at g0 1 rfl)) p_l1 p_c1 p_k1 (of_decide_eq_true (all_at g0 2 rfl)) p_l2 p_c2 p_k2 (of_decide_eq_true (all_at g0 3 rfl)) (of_decide_eq_true (all_at g0 4 rfl)) (of_decide_eq_true (all_at g0 5 rfl)) p_l3 p_c3 p_k3 p_e3 p_t3 p_u3 (of_decide_eq_true (all_at g0 6 rfl)) p_l4 p_c4 p_k4 (of_decide_eq_true (all_at g0 7 rfl)) p_l5 p_c5 p_k5 (of_decide_eq_true (all_at g0 8 rfl)) p_l6 p_c6 p_k6 (of_decide_eq_true (all_at g0 9 rfl)) p_l7 p_c7 p_k7 (of_decide_eq_true (all_at g0 10 rfl)) p_l8 p_c8 p_k8 (of_decide_eq_true (all_at g0 11 rfl)) p_l9 p_c9 p_k9 (of_decide_eq_true (all_at g1 0 rfl)) p_l10 p_c10 p_k10 (of_decide_eq_true (all_at g1 1 rfl)) p_l11 p_c11 p_k11 (of_decide_eq_true (all_at g1 2 rfl)) p_l12 p_c12 p_k12 (of_decide_eq_true (all_at g1 3 rfl)) p_l13 p_c13 p_k13 (of_decide_eq_true (all_at g1 4 rfl)) p_l14 p_c14 p_k14 (of_decide_eq_true (all_at g1 5 rfl)) p_l15 p_c15 p_k15 (of_decide_eq_true (all_at g1 6 rfl)) p_l16 p_c16 p_k16 (of_decide_eq_true (all_at g1 7 rfl)) p_l17 p_c17 p_k17 (of_decide_eq_true (all_at g1 8 rfl)) p_l18 p_c18 p_k18 (of_decide_eq_true (all_at g1 9 rfl)) p_l19 p_c19 p_k19 (of_decide_eq_true (all_at g1 10 rfl)) p_l20 p_c20 p_k20 (of_decide_eq_true (all_at g1 11 rfl)) p_l21 p_c21 p_k21 (of_decide_eq_true (all_at g2 0 rfl)) p_l22 p_c22 p_k22 (of_decide_eq_true (all_at g2 1 rfl)) p_l23 p_c23 p_k23 (of_decide_eq_true (all_at g2 2 rfl)) p_l24 p_c24 p_k24 (of_decide_eq_true (all_at g2 3 rfl)) p_l25 p_c25 p_k25 (of_decide_eq_true (all_at g2 4 rfl)) p_l26 p_c26 p_k26 (of_decide_eq_true (all_at g2 5 rfl)) p_l27 p_c27 p_k27 (of_decide_eq_true (all_at g2 6 rfl)) p_l28 p_c28 p_k28 (of_decide_eq_true (all_at g2 7 rfl)) p_l29 p_c29 p_k29 (of_decide_eq_true (all_at g2 8 rfl)) p_l30 p_c30 p_k30 (of_decide_eq_true (all_at g2 9 rfl)) p_l31 p_c31 p_k31 (of_decide_eq_true (all_at g2 10 rfl)) (of_decide_eq_true (all_at g2 11 rfl)) (of_decide_eq_true (all_at g3 0 rfl)) (of_decide_eq_true (all_at g3 1 rfl)) (of_decide_eq_true (all_at g3 2 rfl)) (of_decide_eq_true (all_at g3 3 rfl)) (of_decide_eq_true (all_at g3 4 rfl)) (of_decide_eq_true (all_at g3 5 rfl)) (of_decide_eq_true (all_at g3 6 rfl)) (of_decide_eq_true (all_at g3 7 rfl)) (of_decide_eq_true (all_at g3 8 rfl)) (of_decide_eq_true (all_at g3 9 rfl)) (of_decide_eq_true (all_at g3 10 rfl)) p_m_MOST p_m_MOST_FIGURES p_m_FIGURES (of_decide_eq_true (all_at g3 14 rfl)) (of_decide_eq_true (all_at g4 0 rfl)) (of_decide_eq_true (all_at g4 1 rfl)) (of_decide_eq_true (all_at g4 2 rfl)) (of_decide_eq_true (all_at g4 3 rfl)) (of_decide_eq_true (all_at g4 4 rfl)) (of_decide_eq_true (all_at g4 5 rfl)) (of_decide_eq_true (all_at g4 6 rfl)) (of_decide_eq_true (all_at g4 7 rfl)) (of_decide_eq_true (all_at g4 8 rfl)) (of_decide_eq_true (all_at g4 9 rfl)) (of_decide_eq_true (all_at g4 10 rfl)) (of_decide_eq_true (all_at g4 11 rfl)) (of_decide_eq_true (all_at g5 0 rfl)) (of_decide_eq_true (all_at g5 1 rfl)) (of_decide_eq_true (all_at g5 2 rfl)) (of_decide_eq_true (all_at g5 3 rfl)) (of_decide_eq_true (all_at g5 4 rfl)) (of_decide_eq_true (all_at g5 5 rfl)) (of_decide_eq_true (all_at g5 6 rfl)) (of_decide_eq_true (all_at g5 7 rfl)) (of_decide_eq_true (all_at g5 8 rfl)) (of_decide_eq_true (all_at g5 9 rfl)) (of_decide_eq_true (all_at g5 10 rfl)) (of_decide_eq_true (all_at g5 11 rfl)) (of_decide_eq_true (all_at g6 0 rfl)) (of_decide_eq_true (all_at g6 1 rfl)) (of_decide_eq_true (all_at g6 2 rfl)) (of_decide_eq_true (all_at g6 3 rfl)) (of_decide_eq_true (all_at g6 4 rfl)) (of_decide_eq_true (all_at g6 5 rfl)) (of_decide_eq_true (all_at g6 6 rfl)) (of_decide_eq_true (all_at g6 7 rfl)) (of_decide_eq_true (all_at g6 8 rfl)) (of_decide_eq_true (all_at g6 9 rfl)) (of_decide_eq_true (all_at g6 10 rfl)) (of_decide_eq_true (all_at g6 11 rfl)) (of_decide_eq_true (all_at g7 0 rfl)) (of_decide_eq_true (all_at g7 1 rfl)) (of_decide_eq_true (all_at g7 2 rfl)) (of_decide_eq_true (all_at g7 3 rfl)) (of_decide_eq_true (all_at g7 4 rfl)) (of_decide_eq_true (all_at g7 5 rfl)) (of_decide_eq_true (all_at g7 6 rfl)) (of_decide_eq_true (all_at g7 7 rfl)) (of_decide_eq_true (all_at g7 8 rfl)) (of_decide_eq_true (all_at g7 9 rfl)) (of_decide_eq_true (all_at g7 10 rfl)) (of_decide_eq_true (all_at g7 11 rfl)) (of_decide_eq_true (all_at g8 0 rfl)) (of_decide_eq_true (all_at g8 1 rfl)) (of_decide_eq_true (all_at g8 2 rfl)) (of_decide_eq_true (all_at g8 3 rfl)) (of_decide_eq_true (all_at g8 4 rfl)) (of_decide_eq_true (all_at g8 5 rfl)) (of_decide_eq_true (all_at g8 6 rfl)) (of_decide_eq_true (all_at g8 7 rfl)) (of_decide_eq_true (all_at g8 8 rfl)) (of_decide_eq_true (all_at g8 9 rfl)) (of_decide_eq_true (all_at g8 10 rfl)) (of_decide_eq_true (all_at g8 11 rfl)) (of_decide_eq_true (all_at g9 0 rfl)) (of_decide_eq_true (all_at g9 1 rfl)) (of_decide_eq_true (all_at g9 2 rfl)) (of_decide_eq_true (all_at g9 3 rfl)) (of_decide_eq_true (all_at g9 4 rfl)) (of_decide_eq_true (all_at g9 5 rfl)) (of_decide_eq_true (all_at g9 6 rfl)) (of_decide_eq_true (all_at g9 7 rfl)) (of_decide_eq_true (all_at g9 8 rfl)) (of_decide_eq_true (all_at g9 9 rfl)) (of_decide_eq_true (all_at g9 10 rfl)) (of_decide_eq_true (all_at g9 11 rfl)) (of_decide_eq_true (all_at g10 0 rfl)) (of_decide_eq_true (all_at g10 1 rfl)) (of_decide_eq_true (all_at g10 2 rfl)) (of_decide_eq_true (all_at g10 3 rfl)) (of_decide_eq_true (all_at g10 4 rfl)) (of_decide_eq_true (all_at g10 5 rfl)) (of_decide_eq_true (all_at g10 6 rfl)) (of_decide_eq_true (all_at g10 7 rfl)) (of_decide_eq_true (all_at g10 8 rfl)) (of_decide_eq_true (all_at g10 9 rfl)) (of_decide_eq_true (all_at g10 10 rfl)) (of_decide_eq_true (all_at g10 11 rfl)) (of_decide_eq_true (all_at g11 0 rfl)) (of_decide_eq_true (all_at g11 1 rfl)) (of_decide_eq_true (all_at g11 2 rfl)) (of_decide_eq_true (all_at g11 3 rfl)) (of_decide_eq_true (all_at g11 4 rfl)) (of_decide_eq_true (all_at g11 5 rfl)) (of_decide_eq_true (all_at g11 6 rfl)) (of_decide_eq_true (all_at g11 7 rfl)) (of_decide_eq_true (all_at g11 8 rfl)) (of_decide_eq_true (all_at g11 9 rfl)) (of_decide_eq_true (all_at g11 10 rfl)) (of_decide_eq_true (all_at g11 11 rfl)) (of_decide_eq_true (all_at g12 0 rfl)) (of_decide_eq_true (all_at g12 1 rfl)) (of_decide_eq_true (all_at g12 2 rfl)) (of_decide_eq_true (all_at g12 3 rfl)) (of_decide_eq_true (all_at g12 4 rfl)) (of_decide_eq_true (all_at g12 5 rfl)) (of_decide_eq_true (all_at g12 6 rfl)) (of_decide_eq_true (all_at g12 7 rfl)) (of_decide_eq_true (all_at g12 8 rfl)) (of_decide_eq_true (all_at g12 9 rfl)) (of_decide_eq_true (all_at g12 10 rfl)) (of_decide_eq_true (all_at g12 11 rfl)) (of_decide_eq_true (all_at g13 0 rfl)) (of_decide_eq_true (all_at g13 1 rfl)) (of_decide_eq_true (all_at g13 2 rfl)) (of_decide_eq_true (all_at g13 3 rfl)) (of_decide_eq_true (all_at g13 4 rfl)) (of_decide_eq_true (all_at g13 5 rfl)) (of_decide_eq_true (all_at g13 6 rfl)) (of_decide_eq_true (all_at g13 7 rfl)) (of_decide_eq_true (all_at g13 8 rfl)) (of_decide_eq_true (all_at g13 9 rfl)) (of_decide_eq_true (all_at g13 10 rfl)) (of_decide_eq_true (all_at g13 11 rfl)) (of_decide_eq_true (all_at g14 0 rfl)) (of_decide_eq_true (all_at g14 1 rfl)) (of_decide_eq_true (all_at g14 2 rfl)) (of_decide_eq_true (all_at g14 3 rfl)) (of_decide_eq_true (all_at g14 4 rfl)) (of_decide_eq_true (all_at g14 5 rfl)) (of_decide_eq_true (all_at g14 6 rfl)) (of_decide_eq_true (all_at g14 7 rfl)) (of_decide_eq_true (all_at g14 8 rfl)) (of_decide_eq_true (all_at g14 9 rfl)) (of_decide_eq_true (all_at g14 10 rfl)) (of_decide_eq_true (all_at g14 11 rfl)) (of_decide_eq_true (all_at g15 0 rfl)) (of_decide_eq_true (all_at g15 1 rfl)) (of_decide_eq_true (all_at g15 2 rfl)) (of_decide_eq_true (all_at g15 3 rfl)) p_oc_NoPoly p_ov_NoPoly (of_decide_eq_true (all_at g15 5 rfl)) (of_decide_eq_true (all_at g15 6 rfl)) (of_decide_eq_true (all_at g15 7 rfl)) (fcB_ok (all_at g15 8 rfl)) (of_decide_eq_true (all_at g15 9 rfl)) (of_decide_eq_true (all_at g15 10 rfl)) (of_decide_eq_true (all_at g15 11 rfl))
end My
open PySem PySem.W PyProof.Rows in
set_option maxRecDepth 100000 in
set_option maxHeartbeats 0 in
theorem PySem.Challenge.cw_rootmoves_k79_polynomials_as_texts_holds : PySem.Challenge.rw_rootmoves_k79_polynomials_as_texts.Holds := by
  w_on; o_law
  refine HandSHeadRun.head_any (r := OpenLaw.row PySem.Challenge.rw_rootmoves_k79_polynomials_as_texts) (q := view (OpenLaw.row PySem.Challenge.rw_rootmoves_k79_polynomials_as_texts).prog [56]) (H := My.hk) (ob := My.ob) (M := 20000) (loose := My.names) (d := HandSHeadRun.topDef (OpenLaw.row PySem.Challenge.rw_rootmoves_k79_polynomials_as_texts).prog 56) (kwd := []) My.ob_eq
    (by kernel_rfl) (fun s => by kernel_rfl) My.run (by kernel_rfl) (by kernel_rfl) (by kernel_rfl) (by rfl) (by first | assumption | decide +kernel) (by decide +kernel) ⟨rfl, rfl, rfl, rfl, rfl, by decide +kernel⟩ ?hw ?hc
  case hw => w_witness2
  case hc =>
    refine L2.walk_ofE (l := PySem.Challenge.rw_rootmoves_k79_polynomials_as_texts) (n := 63) (k := 7) (x := "_law_script") (CX := L2.CX0) rfl (by decide) (by kernel_rfl) ⟨rfl, by decide, by decide⟩ ?F (fun _ _ _ _ z => z)
    intro w mg fa h Y G hmg0
    obtain ⟨K, KX, c⟩ := Y
    have hmg : mg ("law" : PySem.Str) = some (.ref fa) := by
      have e : (HandSHeadRun.topDef (OpenLaw.row PySem.Challenge.rw_rootmoves_k79_polynomials_as_texts).prog 56).name = ("law" : PySem.Str) := by kernel_rfl
      rw [← e]
      exact hmg0
    obtain ⟨fd, hb, hF⟩ := My.facts (l := PySem.Challenge.rw_rootmoves_k79_polynomials_as_texts) (w := w) KX G hmg c
    exact ⟨K, fd, My.spLaw K, KX, hb, fun H a ns hl _ hS => ⟨a, ns, rfl, hS, hl, fun _ => rfl⟩, hF⟩
#print axioms PySem.Challenge.cw_rootmoves_k79_polynomials_as_texts_holds
