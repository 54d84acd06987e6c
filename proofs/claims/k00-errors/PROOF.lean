import PyProof.Rows.All
import Wide.All
import OpenK.AllK
import Wide.FinOn
import KE.KStateDown
import KE.KSuper
import PyProof.ExcClass
import HandS.Base
import HandS.Call
import HandS.List
import HandS.Exc
import HandS.Lambda
import HandS.EndTab
import HandS.Defaults
import HandS.Head0
import HandS.Head1
import HandS.Head2
import HandS.HeadEnd
import HandS.HeadHook1
import HandS.HeadHook2
import HandS.Words
import KE.KExcSuper
import KE.KCallOwn
import KE.KFmtOwn
import HandS.ForMost
import HandS.ForExc
import HandS.More
import HandS.Star
import HandS.ClsMeth
import HandS.Property
import HandS.IsInst
import HandS.ExcIs
import HandS.OwnEq
import HandS.Deep
import HandS.Strs
import HandS.SetKeys
import HandS.Set
import HandS.SetFor
import HandS.DictComp
import HandS.Conv
import HandS.Style
import HandS.FStr
import HandS.CallSlots
import HandS.Wide
import HandS.TupAny
import HandS.Flow
import HandS.Walk
import KE.KExcInit
import HandS.ExcCtx
import HandS.HotCalls
import HandS.ExcSuper
import HandS.ExcValue
import KE.KExcIs
import PyProof.ReprLen
import PySem.Challenge.RW_treefits_k00_errors
set_option Elab.async false
set_option linter.all false
set_option maxRecDepth 100000
set_option maxHeartbeats 4000000
/-! a head by one kernel run: the objects that the written part's names reach, facts about them by Bools, function objects by one equation -/
namespace TfHd
open PySem PySem.Spec PyProof.Rows L2 He
/-- what an object leads to: code and cells of a function, the names of a class, the values of a dict, what a property holds; not what a code object holds -/
def refsH (o : Obj) : List Addr := match o.data with
  | .func fd => refV fd.code ++ fd.closure.map (·.2)
  | .cls cd => [cd.ns]
  | .dict es _ => es.toList.flatMap fun e => refV e.val
  | .fields vs => (match o.cls with
    | .type n => if n == "property" || n == "classmethod" || n == "staticmethod" then vs.toList.flatMap refV else []
    | _ => [])
  | _ => []
def nextH (g : Addr → Option Obj) (as : List Addr) : List Addr := as.flatMap fun a => match g a with
  | some o => refsH o
  | none => []
/-- five steps from the module's names: the names, their code and names of classes, their methods, the code of these, the code of properties -/
def reachH (g : Addr → Option Obj) : List Addr :=
  let a1 := nextH g [mainGlobals]
  let a2 := nextH g a1
  let a3 := nextH g a2
  let a4 := nextH g a3
  let a5 := nextH g a4
  mainGlobals :: cStatics :: (a1 ++ (a2 ++ (a3 ++ (a4 ++ a5))))
def fragH (g : Addr → Option Obj) : PySem.W.Frag := frG g (reachH g)
/-! ### addresses by names -/
/-- what stands behind a class method's name -/
def cmA (K : PySem.W.Frag) (C : Addr) (m : Str) : Addr := match PySem.W.findCls K (.ref C) (.type "type") m with
  | some (.get _ (.ref p) _ _) => p
  | _ => 0
def recA (K : PySem.W.Frag) (p : Addr) (T : String) : Addr := match PySem.W.recIn K p T with
  | some (.ref f :: _) => f
  | _ => 0
def recT (K : PySem.W.Frag) (p : Addr) (T : String) : List Value := match PySem.W.recIn K p T with
  | some (_ :: r) => r
  | _ => []
/-- the token of a constant -/
def tokA (K : PySem.W.Frag) (x : Str) : Tok := match PySem.W.nsIn K mainGlobals x with
  | some (some (.int _ t)) => t
  | some (some (.str _ t)) => t
  | _ => default
def codeA (K : PySem.W.Frag) (f : Addr) : Addr := match K.lookup f with
  | some ⟨_, _, .func fd, _⟩ => (match fd.code with
    | .ref c => c
    | _ => 0)
  | _ => 0
def cellA (K : PySem.W.Frag) (f : Addr) : Addr := match K.lookup f with
  | some ⟨_, _, .func fd, _⟩ => (match fd.closure with
    | (_, c) :: _ => c
    | _ => 0)
  | _ => 0
def fldsA (K : PySem.W.Frag) (c : Addr) : Array Value := match K.lookup c with
  | some ⟨_, _, .fields vs, _⟩ => vs
  | _ => #[]
def tabA (K : PySem.W.Frag) (c : Addr) : Addr := match ((fldsA K c)[11]? : Option Value) with
  | some (.ref P) => P
  | _ => 0
def strTok (v : Option Value) : Tok := match v with
  | some (.str _ t) => t
  | _ => default
/-! ### facts -/
def cmB (K : PySem.W.Frag) (C : Addr) (m : Str) : Bool := match PySem.W.findCls K (.ref C) (.type "type") m with
  | some (.get (.builtin g) (.ref _) .none (.ref D)) => decide (g = "classmethod.__get__") && decide (D = C)
  | _ => false
theorem cm_ok {K : PySem.W.Frag} {C : Addr} {m : Str} (h : cmB K C m = true) : PySem.W.findCls K (.ref C) (.type "type") m = some (.get (.builtin "classmethod.__get__") (.ref (cmA K C m)) .none (.ref C)) := by
  unfold cmB at h
  split at h
  · rename_i g p D e
    obtain ⟨h1, h2⟩ := ba h
    have e1 := of_decide_eq_true h1
    have e2 := of_decide_eq_true h2
    subst e1 e2
    unfold cmA
    rw [e]
  · cases h
def recB (K : PySem.W.Frag) (p : Addr) (T : String) : Bool := match PySem.W.recIn K p T with
  | some (.ref _ :: _) => true
  | _ => false
theorem rec_ok {K : PySem.W.Frag} {p : Addr} {T : String} (h : recB K p T = true) : PySem.W.recIn K p T = some (.ref (recA K p T) :: recT K p T) := by
  unfold recB at h
  split at h
  · rename_i f r e
    unfold recA recT
    rw [e]
  · cases h
def excB (K : PySem.W.Frag) (C : Addr) (bm : List Value) (newId : String) : Bool := match K.lookup C with
  | some ⟨.type t, _, .cls cd, sl⟩ => decide (t = "type") && (decide (cd.mro = .ref C :: bm) && (cd.hasDict && (!cd.hasDel && (match sl with
    | ⟨[_m0, _m1, _m2, _m3, some (.builtin s), _m5]⟩ => decide (s = newId)
    | _ => false))))
  | _ => false
theorem exc_ok {K : PySem.W.Frag} {C : Addr} {bm : List Value} {newId : String} (h : excB K C bm newId = true) : ∃ (nm q : Str) (N : Addr) (bs : List Value) (sn : List Str) (sub : List Value) (ab : Bool) (col : Option Bool) (dd : Option Addr) (m0 m1 m2 m3 m5 : Option Value), K.lookup C = some (excClassObj nm q C N bs bm true sn sub ab col dd m0 m1 m2 m3 m5 newId) := by
  unfold excB at h
  split at h
  · rename_i t dd cd sl e
    obtain ⟨h1, h⟩ := ba h
    obtain ⟨h2, h⟩ := ba h
    obtain ⟨h3, h⟩ := ba h
    obtain ⟨h4, h⟩ := ba h
    split at h
    · rename_i s m0 m1 m2 m3 m5
      obtain ⟨nm, bs, mro, N, q, hd, sn, sub, ab, col, del⟩ := cd
      have e1 := of_decide_eq_true h1
      have e2 := of_decide_eq_true h2
      have e3 := of_decide_eq_true h
      dsimp only at e2 h3 h4
      subst e1 e2 e3 h3
      have e4 : del = false := by
        cases del with
        | false => rfl
        | true => cases h4
      subst e4
      exact ⟨nm, q, N, bs, sn, sub, ab, col, dd, _, _, _, _, _, e⟩
    · cases h
  · cases h
def cellB (K : PySem.W.Frag) (c C : Addr) : Bool := match K.lookup c with
  | some ⟨_, _, .cell (some (.ref D)), _⟩ => decide (D = C)
  | _ => false
theorem cell_ok {K : PySem.W.Frag} {c C : Addr} (h : cellB K c C = true) : ∃ (cl : Value) (od : Option Addr) (sl : Array (Option Value)), K.lookup c = some ⟨cl, od, .cell (some (.ref C)), sl⟩ := by
  unfold cellB at h
  split at h
  · rename_i cl od D sl e
    have e1 := of_decide_eq_true h
    subst e1
    exact ⟨cl, od, sl, e⟩
  · cases h
def fldsB (K : PySem.W.Frag) (c : Addr) : Bool := match K.lookup c with
  | some ⟨_, _, .fields _, _⟩ => true
  | _ => false
theorem flds_ok {K : PySem.W.Frag} {c : Addr} (h : fldsB K c = true) : ∃ (cl : Value) (od : Option Addr) (sl : Array (Option Value)), K.lookup c = some ⟨cl, od, .fields (fldsA K c), sl⟩ := by
  unfold fldsB at h
  split at h
  · rename_i cl od vs sl e
    refine ⟨cl, od, sl, ?_⟩
    unfold fldsA
    rw [e]
  · cases h
/-! ### functions -/
abbrev FnT : Type := Option (Str × Str × Arguments × FuncBody × Scope × Addr × List Str × Value × Addr)
def fnT (K : PySem.W.Frag) (f : Addr) : FnT := match K.lookup f with
  | some ⟨_, _, .func fd, _⟩ => some (fd.name, fd.qualname, fd.params, fd.body, fd.scope, fd.globals, fd.closure.map (·.1), fd.defaults, fd.builtins)
  | _ => none
def fnB (K : PySem.W.Frag) (f : Addr) (q : Str) : Bool := match K.lookup f with
  | some ⟨_, _, .func fd, _⟩ => (match fd.code with
    | .ref c => PySem.W.codeIn K (.ref c) q
    | _ => false)
  | _ => false
theorem fn_ok {K : PySem.W.Frag} {f : Addr} {nm q : Str} {ps : Arguments} {b : List Stmt} {sc : Scope} (e : fnT K f = some (nm, q, ps, FuncBody.stmts b, sc, mainGlobals, [], Value.none, builtinsNs)) (h : fnB K f q = true) :
    ∃ (oc : Value) (od : Option Addr) (kV doc pm : Value) (an : Option Addr) (ct : Value) (sl : Array (Option Value)), K.lookup f = some ⟨oc, od, .func (PySem.W.fnOf nm q ps b sc .none kV doc pm an (.ref (codeA K f)) ct), sl⟩ ∧ PySem.W.codeIn K (.ref (codeA K f)) q = true := by
  unfold fnT at e
  unfold fnB at h
  unfold codeA
  cases q1 : K.lookup f with
  | none =>
    rw [q1] at h
    cases h
  | some o =>
    obtain ⟨oc, od, dt, sl⟩ := o
    rw [q1] at h e
    cases dt with
    | func fd =>
      obtain ⟨n1, n2, n3, n4, n5, n6, n7, n8, n9, n10, n11, n12, n13, n14, n15⟩ := fd
      have e2 : (some (n1, n2, n3, n4, n5, n6, n7.map (·.1), n8, n15) : FnT) = some (nm, q, ps, .stmts b, sc, mainGlobals, [], .none, builtinsNs) := e
      simp only [Option.some.injEq, Prod.mk.injEq] at e2
      obtain ⟨h1, h2, h3, h4, h5, h6, h7, h8, h9⟩ := e2
      have h7' : n7 = [] := List.map_eq_nil_iff.mp h7
      subst h1 h2 h3 h4 h5 h6 h7' h8 h9
      cases n13 with
      | ref c => exact ⟨oc, od, n9, n10, n11, n12, n14, sl, rfl, h⟩
      | _ => cases h
    | _ => cases h
/-- a def with the cell of its class -/
theorem fn_okC {K : PySem.W.Frag} {f : Addr} {nm q : Str} {ps : Arguments} {b : List Stmt} {sc : Scope} (e : fnT K f = some (nm, q, ps, FuncBody.stmts b, sc, mainGlobals, ([("__class__" : Str)] : List Str), Value.none, builtinsNs)) (h : fnB K f q = true) (hk : decide ((match K.lookup f with | some ⟨_, _, .func fd, _⟩ => fd.kwdefaults | _ => Value.none) = Value.none) = true) :
    ∃ (oc : Value) (od : Option Addr) (doc pm : Value) (an : Option Addr) (ct : Value) (sl : Array (Option Value)), K.lookup f = some ⟨oc, od, .func (PySem.W.ksFn nm q ps b sc .none .none doc pm an (.ref (codeA K f)) ct (cellA K f)), sl⟩ ∧ PySem.W.codeIn K (.ref (codeA K f)) q = true := by
  unfold fnT at e
  unfold fnB at h
  unfold codeA cellA
  cases q1 : K.lookup f with
  | none =>
    rw [q1] at h
    cases h
  | some o =>
    obtain ⟨oc, od, dt, sl⟩ := o
    rw [q1] at h e hk
    cases dt with
    | func fd =>
      obtain ⟨n1, n2, n3, n4, n5, n6, n7, n8, n9, n10, n11, n12, n13, n14, n15⟩ := fd
      have e2 : (some (n1, n2, n3, n4, n5, n6, n7.map (·.1), n8, n15) : FnT) = some (nm, q, ps, .stmts b, sc, mainGlobals, ([("__class__" : Str)] : List Str), .none, builtinsNs) := e
      simp only [Option.some.injEq, Prod.mk.injEq] at e2
      obtain ⟨h1, h2, h3, h4, h5, h6, h7, h8, h9⟩ := e2
      have hk' : n9 = Value.none := of_decide_eq_true hk
      subst h1 h2 h3 h4 h5 h6 h8 h9 hk'
      cases n7 with
      | nil => cases h7
      | cons z r =>
        obtain ⟨z1, z2⟩ := z
        rw [List.map_cons] at h7
        injection h7 with h7a h7b
        have hr := List.map_eq_nil_iff.mp h7b
        have hz : z1 = "__class__" := h7a
        subst hr hz
        cases n13 with
        | ref c => exact ⟨oc, od, n10, n11, n12, n14, sl, rfl, h⟩
        | _ => cases h
    | _ => cases h
def kwN (K : PySem.W.Frag) (f : Addr) : Bool := decide ((match K.lookup f with | some ⟨_, _, .func fd, _⟩ => fd.kwdefaults | _ => Value.none) = Value.none)
/-! ### the Hook -/
abbrev AlH : Type := Bool × List FnT
def obsH (bs : List (PySem.W.Frag → Bool)) (fs : List (PySem.W.Frag → Addr)) (K : PySem.W.Frag) : AlH := (bs.all fun b => b K, fs.map fun f => fnT K (f K))
def hookH (bs : List (PySem.W.Frag → Bool)) (fs : List (PySem.W.Frag → Addr)) (vs : List FnT) : PySem.W.Hook where
  α := AlH
  obs := fun s => obsH bs fs (fragH s.heap.get?)
  val := fun _ => (true, vs)
  says := fun _ h => ∃ K : PySem.W.Frag, K.In h ∧ obsH bs fs K = (true, vs)
  of := fun _ _ e => ⟨_, frG_in, e⟩
  keeps := fun _ _ _ ⟨K, hK, c⟩ k => ⟨K, PySem.W.Frag.In.keeps hK k, c⟩
def obT (bs : List (PySem.W.Frag → Bool)) (fs : List (PySem.W.Frag → Addr)) (s : PySem.W.SharedT) : AlH := obsH bs fs (fragH (HandSHeadRun.getT s))
theorem obT_eq {bs : List (PySem.W.Frag → Bool)} {fs : List (PySem.W.Frag → Addr)} {vs : List FnT} (s : PySem.W.SharedT) : obT bs fs s = (hookH bs fs vs).obs s.abs := by
  have e : HandSHeadRun.getT s = s.abs.heap.get? := funext (HandSHeadRun.getT_eq s)
  unfold obT
  rw [e]
  rfl
section
variable {bs : List (PySem.W.Frag → Bool)} {fs : List (PySem.W.Frag → Addr)} {vs : List FnT} {K : PySem.W.Frag}
theorem fact (c : obsH bs fs K = (true, vs)) (i : Nat) {f : PySem.W.Frag → Bool} (h : bs[i]? = some f := by rfl) : f K = true := by
  have c1 : (bs.all fun b => b K) = true := congrArg (fun z : AlH => z.1) c
  exact List.all_eq_true.mp c1 f (List.mem_of_getElem? h)
theorem func (c : obsH bs fs K = (true, vs)) (i : Nat) {f : PySem.W.Frag → Addr} {v : FnT} (h : fs[i]? = some f := by rfl) (hv : vs[i]? = some v := by rfl) : fnT K (f K) = v := by
  have e : (fs.map fun f => fnT K (f K)) = vs := congrArg (fun z : AlH => z.2) c
  have e2 : (fs.map fun f => fnT K (f K))[i]? = vs[i]? := by rw [e]
  rw [List.getElem?_map, h, hv] at e2
  exact Option.some.inj e2
end
end TfHd

/-! the head's facts and its run -/
namespace Tf
open PySem PySem.Spec PyProof.Rows L2
def hTop (i : Nat) : Stmt := PySem.Challenge.pw_treefits_k00_errors.main.body.getD i (.Pass ⟨0, 0, 0, 0⟩)
/-- where the written part's functions stand -/
def hFs : List (PySem.W.Frag → Addr) := [
  fun K => (He.ma K (He.ga K "TreeError") "__init__"),
  fun K => (He.ma K (He.ga K "InvalidNumber") "__init__"),
  fun K => (He.ma K (He.ga K "UnknownName") "__init__"),
  fun K => (He.ma K (He.ga K "TooMany") "__init__"),
  fun K => (He.ma K (He.ga K "NoFit") "__init__"),
  fun K => (He.ma K (He.ga K "NothingToUndo") "__init__"),
  fun K => (He.ga K "is_name"),
  fun K => (He.ga K "different_names"),
  fun K => (He.ga K "require_language"),
  fun K => (He.ga K "require_pair"),
  fun K => (He.ga K "checked_things"),
  fun K => (He.ga K "is_form_node"),
  fun K => (He.ga K "is_form"),
  fun K => (He.ga K "_law_dice"),
  fun K => (He.ga K "_law_roll"),
  fun K => (He.ga K "_law_pick"),
  fun K => (He.ga K "_law_told"),
  fun K => (He.ga K "_law_marks"),
  fun K => (He.ga K "_law_bases"),
  fun K => (He.ga K "_law_only"),
  fun K => (He.ga K "_law_messages_right"),
  fun K => (He.ga K "_law_values_right"),
  fun K => (He.ga K "_law_taken"),
  fun K => (He.ga K "law"),
  fun K => (He.ma K (He.ga K "Language") "__init__"),
  fun K => (TfHd.recA K (TfHd.cmA K (He.ga K "Language") "of") "classmethod"),
  fun K => (He.ma K (He.ga K "Store") "__init__"),
  fun K => (TfHd.recA K (TfHd.cmA K (He.ga K "Store") "of") "classmethod"),
  fun K => (TfHd.recA K (TfHd.cmA K (He.ga K "Question") "of") "classmethod")]
def hVs : List TfHd.FnT := [
  some ("__init__", "TreeError.__init__", defArgs (inClass (hTop 2) 0), .stmts (defBody (inClass (hTop 2) 0)), defScope (inClass (hTop 2) 0), mainGlobals, ["__class__"], .none, builtinsNs),
  some ("__init__", "InvalidNumber.__init__", defArgs (inClass (hTop 12) 0), .stmts (defBody (inClass (hTop 12) 0)), defScope (inClass (hTop 12) 0), mainGlobals, ["__class__"], .none, builtinsNs),
  some ("__init__", "UnknownName.__init__", defArgs (inClass (hTop 13) 0), .stmts (defBody (inClass (hTop 13) 0)), defScope (inClass (hTop 13) 0), mainGlobals, ["__class__"], .none, builtinsNs),
  some ("__init__", "TooMany.__init__", defArgs (inClass (hTop 14) 0), .stmts (defBody (inClass (hTop 14) 0)), defScope (inClass (hTop 14) 0), mainGlobals, ["__class__"], .none, builtinsNs),
  some ("__init__", "NoFit.__init__", defArgs (inClass (hTop 15) 0), .stmts (defBody (inClass (hTop 15) 0)), defScope (inClass (hTop 15) 0), mainGlobals, ["__class__"], .none, builtinsNs),
  some ("__init__", "NothingToUndo.__init__", defArgs (inClass (hTop 16) 0), .stmts (defBody (inClass (hTop 16) 0)), defScope (inClass (hTop 16) 0), mainGlobals, ["__class__"], .none, builtinsNs),
  some ("is_name", "is_name", defArgs (hTop 23), .stmts (defBody (hTop 23)), defScope (hTop 23), mainGlobals, [], .none, builtinsNs),
  some ("different_names", "different_names", defArgs (hTop 28), .stmts (defBody (hTop 28)), defScope (hTop 28), mainGlobals, [], .none, builtinsNs),
  some ("require_language", "require_language", defArgs (hTop 24), .stmts (defBody (hTop 24)), defScope (hTop 24), mainGlobals, [], .none, builtinsNs),
  some ("require_pair", "require_pair", defArgs (hTop 54), .stmts (defBody (hTop 54)), defScope (hTop 54), mainGlobals, [], .none, builtinsNs),
  some ("checked_things", "checked_things", defArgs (hTop 56), .stmts (defBody (hTop 56)), defScope (hTop 56), mainGlobals, [], .none, builtinsNs),
  some ("is_form_node", "is_form_node", defArgs (hTop 74), .stmts (defBody (hTop 74)), defScope (hTop 74), mainGlobals, [], .none, builtinsNs),
  some ("is_form", "is_form", defArgs (hTop 75), .stmts (defBody (hTop 75)), defScope (hTop 75), mainGlobals, [], .none, builtinsNs),
  some ("_law_dice", "_law_dice", defArgs (hTop 88), .stmts (defBody (hTop 88)), defScope (hTop 88), mainGlobals, [], .none, builtinsNs),
  some ("_law_roll", "_law_roll", defArgs (hTop 89), .stmts (defBody (hTop 89)), defScope (hTop 89), mainGlobals, [], .none, builtinsNs),
  some ("_law_pick", "_law_pick", defArgs (hTop 90), .stmts (defBody (hTop 90)), defScope (hTop 90), mainGlobals, [], .none, builtinsNs),
  some ("_law_told", "_law_told", defArgs (hTop 91), .stmts (defBody (hTop 91)), defScope (hTop 91), mainGlobals, [], .none, builtinsNs),
  some ("_law_marks", "_law_marks", defArgs (hTop 92), .stmts (defBody (hTop 92)), defScope (hTop 92), mainGlobals, [], .none, builtinsNs),
  some ("_law_bases", "_law_bases", defArgs (hTop 93), .stmts (defBody (hTop 93)), defScope (hTop 93), mainGlobals, [], .none, builtinsNs),
  some ("_law_only", "_law_only", defArgs (hTop 94), .stmts (defBody (hTop 94)), defScope (hTop 94), mainGlobals, [], .none, builtinsNs),
  some ("_law_messages_right", "_law_messages_right", defArgs (hTop 95), .stmts (defBody (hTop 95)), defScope (hTop 95), mainGlobals, [], .none, builtinsNs),
  some ("_law_values_right", "_law_values_right", defArgs (hTop 96), .stmts (defBody (hTop 96)), defScope (hTop 96), mainGlobals, [], .none, builtinsNs),
  some ("_law_taken", "_law_taken", defArgs (hTop 97), .stmts (defBody (hTop 97)), defScope (hTop 97), mainGlobals, [], .none, builtinsNs),
  some ("law", "law", defArgs (hTop 98), .stmts (defBody (hTop 98)), defScope (hTop 98), mainGlobals, [], .none, builtinsNs),
  some ("__init__", "Language.__init__", defArgs (inClass (hTop 30) 0), .stmts (defBody (inClass (hTop 30) 0)), defScope (inClass (hTop 30) 0), mainGlobals, [], .none, builtinsNs),
  some ("of", "Language.of", defArgs (inClass (hTop 30) 1), .stmts (defBody (inClass (hTop 30) 1)), defScope (inClass (hTop 30) 1), mainGlobals, [], .none, builtinsNs),
  some ("__init__", "Store.__init__", defArgs (inClass (hTop 60) 0), .stmts (defBody (inClass (hTop 60) 0)), defScope (inClass (hTop 60) 0), mainGlobals, [], .none, builtinsNs),
  some ("of", "Store.of", defArgs (inClass (hTop 60) 1), .stmts (defBody (inClass (hTop 60) 1)), defScope (inClass (hTop 60) 1), mainGlobals, [], .none, builtinsNs),
  some ("of", "Question.of", defArgs (inClass (hTop 85) 1), .stmts (defBody (inClass (hTop 85) 1)), defScope (inClass (hTop 85) 1), mainGlobals, [], .none, builtinsNs)]
def hBs0 : List (PySem.W.Frag → Bool) := [
  fun K => decide (PySem.W.nsIn K mainGlobals "Language" = some (some (.ref (He.ga K "Language")))),
  fun K => decide (PySem.W.nsIn K mainGlobals "Store" = some (some (.ref (He.ga K "Store")))),
  fun K => decide (PySem.W.nsIn K mainGlobals "Question" = some (some (.ref (He.ga K "Question")))),
  fun K => decide (PySem.W.nsIn K mainGlobals "MadeStore" = some (some (.ref (He.ga K "MadeStore")))),
  fun K => decide (PySem.W.nsIn K cStatics "thirdparty.any" = some none),
  fun K => decide (PySem.W.nsIn K mainGlobals "TreeError" = some (some (.ref (He.ga K "TreeError")))),
  fun K => TfHd.excB K (He.ga K "TreeError") ([.type "ValueError", .type "Exception", .type "BaseException", .type "object"] : List Value) "ValueError.__new__",
  fun K => decide (PySem.W.findIn K (.ref (He.ga K "TreeError")) "__init__" = some (some (.ref (He.ma K (He.ga K "TreeError") "__init__")))),
  fun K => decide (PySem.W.keepIn K (.ref (He.ga K "TreeError")) = true),
  fun K => decide (PySem.W.subIn K (.ref (He.ga K "TreeError")) (.type "BaseException") = some true),
  fun K => decide (PySem.W.typeIn K (.ref (He.ga K "TreeError")) = some (.type "type")),
  fun K => decide (PySem.W.subIn K (.ref (He.ga K "TreeError")) (.type "ValueError") = some true),
  fun K => decide (PySem.W.findIn K (.ref (He.ga K "TreeError")) "__getattribute__" = some (some (.builtin "BaseException.__getattribute__"))),
  fun K => decide (PySem.W.findIn K (.ref (He.ga K "TreeError")) "__getattr__" = some none),
  fun K => decide (PySem.W.hasDictIn K (He.ga K "TreeError") = true),
  fun K => decide (PySem.W.findIn K (.ref (He.ga K "TreeError")) "__class__" = some (some (.builtin "object.__class__"))),
  fun K => decide (PySem.W.mroIn K (He.ga K "TreeError") (.type "object") = some true),
  fun K => decide (PySem.W.typeIn K (.ref (He.ma K (He.ga K "TreeError") "__init__")) = some (.type "function")),
  fun K => TfHd.fnB K (He.ma K (He.ga K "TreeError") "__init__") "TreeError.__init__",
  fun K => TfHd.kwN K (He.ma K (He.ga K "TreeError") "__init__"),
  fun K => decide (PySem.W.codeIn K (.ref (TfHd.codeA K (He.ma K (He.ga K "TreeError") "__init__"))) "TreeError.__init__" = true),
  fun K => TfHd.fldsB K (TfHd.codeA K (He.ma K (He.ga K "TreeError") "__init__")),
  fun K => decide (((TfHd.fldsA K (TfHd.codeA K (He.ma K (He.ga K "TreeError") "__init__")))[2]? : Option Value) = some (Value.str (PySem.Challenge.rw_treefits_k00_errors).prog.main.file (TfHd.strTok ((TfHd.fldsA K (TfHd.codeA K (He.ma K (He.ga K "TreeError") "__init__")))[2]? : Option Value)))),
  fun K => TfHd.cellB K (TfHd.cellA K (He.ma K (He.ga K "TreeError") "__init__")) (He.ga K "TreeError"),
  fun K => decide (PySem.W.nsIn K mainGlobals "InvalidLanguage" = some (some (.ref (He.ga K "InvalidLanguage")))),
  fun K => TfHd.excB K (He.ga K "InvalidLanguage") (.ref (He.ga K "TreeError") :: ([.type "ValueError", .type "Exception", .type "BaseException", .type "object"] : List Value)) "ValueError.__new__",
  fun K => decide (PySem.W.findIn K (.ref (He.ga K "InvalidLanguage")) "__init__" = some (some (.ref (He.ma K (He.ga K "TreeError") "__init__")))),
  fun K => decide (PySem.W.keepIn K (.ref (He.ga K "InvalidLanguage")) = true),
  fun K => decide (PySem.W.subIn K (.ref (He.ga K "InvalidLanguage")) (.type "BaseException") = some true),
  fun K => decide (PySem.W.typeIn K (.ref (He.ga K "InvalidLanguage")) = some (.type "type")),
  fun K => decide (PySem.W.subIn K (.ref (He.ga K "InvalidLanguage")) (.type "ValueError") = some true),
  fun K => decide (PySem.W.findIn K (.ref (He.ga K "InvalidLanguage")) "__getattribute__" = some (some (.builtin "BaseException.__getattribute__"))),
  fun K => decide (PySem.W.findIn K (.ref (He.ga K "InvalidLanguage")) "__getattr__" = some none),
  fun K => decide (PySem.W.hasDictIn K (He.ga K "InvalidLanguage") = true),
  fun K => decide (PySem.W.findIn K (.ref (He.ga K "InvalidLanguage")) "__class__" = some (some (.builtin "object.__class__"))),
  fun K => decide (PySem.W.mroIn K (He.ga K "InvalidLanguage") (.type "object") = some true),
  fun K => decide (PySem.W.mroIn K (He.ga K "InvalidLanguage") (.ref (He.ga K "TreeError")) = some true),
  fun K => decide ((He.ga K "InvalidLanguage") ≠ (He.ga K "TreeError")),
  fun K => decide (PySem.W.nsIn K mainGlobals "InvalidStore" = some (some (.ref (He.ga K "InvalidStore")))),
  fun K => TfHd.excB K (He.ga K "InvalidStore") (.ref (He.ga K "TreeError") :: ([.type "ValueError", .type "Exception", .type "BaseException", .type "object"] : List Value)) "ValueError.__new__"]
def hBs1 : List (PySem.W.Frag → Bool) := [
  fun K => decide (PySem.W.findIn K (.ref (He.ga K "InvalidStore")) "__init__" = some (some (.ref (He.ma K (He.ga K "TreeError") "__init__")))),
  fun K => decide (PySem.W.keepIn K (.ref (He.ga K "InvalidStore")) = true),
  fun K => decide (PySem.W.subIn K (.ref (He.ga K "InvalidStore")) (.type "BaseException") = some true),
  fun K => decide (PySem.W.typeIn K (.ref (He.ga K "InvalidStore")) = some (.type "type")),
  fun K => decide (PySem.W.subIn K (.ref (He.ga K "InvalidStore")) (.type "ValueError") = some true),
  fun K => decide (PySem.W.findIn K (.ref (He.ga K "InvalidStore")) "__getattribute__" = some (some (.builtin "BaseException.__getattribute__"))),
  fun K => decide (PySem.W.findIn K (.ref (He.ga K "InvalidStore")) "__getattr__" = some none),
  fun K => decide (PySem.W.hasDictIn K (He.ga K "InvalidStore") = true),
  fun K => decide (PySem.W.findIn K (.ref (He.ga K "InvalidStore")) "__class__" = some (some (.builtin "object.__class__"))),
  fun K => decide (PySem.W.mroIn K (He.ga K "InvalidStore") (.type "object") = some true),
  fun K => decide (PySem.W.mroIn K (He.ga K "InvalidStore") (.ref (He.ga K "TreeError")) = some true),
  fun K => decide ((He.ga K "InvalidStore") ≠ (He.ga K "TreeError")),
  fun K => decide (PySem.W.nsIn K mainGlobals "InvalidQuestion" = some (some (.ref (He.ga K "InvalidQuestion")))),
  fun K => TfHd.excB K (He.ga K "InvalidQuestion") (.ref (He.ga K "TreeError") :: ([.type "ValueError", .type "Exception", .type "BaseException", .type "object"] : List Value)) "ValueError.__new__",
  fun K => decide (PySem.W.findIn K (.ref (He.ga K "InvalidQuestion")) "__init__" = some (some (.ref (He.ma K (He.ga K "TreeError") "__init__")))),
  fun K => decide (PySem.W.keepIn K (.ref (He.ga K "InvalidQuestion")) = true),
  fun K => decide (PySem.W.subIn K (.ref (He.ga K "InvalidQuestion")) (.type "BaseException") = some true),
  fun K => decide (PySem.W.typeIn K (.ref (He.ga K "InvalidQuestion")) = some (.type "type")),
  fun K => decide (PySem.W.subIn K (.ref (He.ga K "InvalidQuestion")) (.type "ValueError") = some true),
  fun K => decide (PySem.W.findIn K (.ref (He.ga K "InvalidQuestion")) "__getattribute__" = some (some (.builtin "BaseException.__getattribute__"))),
  fun K => decide (PySem.W.findIn K (.ref (He.ga K "InvalidQuestion")) "__getattr__" = some none),
  fun K => decide (PySem.W.hasDictIn K (He.ga K "InvalidQuestion") = true),
  fun K => decide (PySem.W.findIn K (.ref (He.ga K "InvalidQuestion")) "__class__" = some (some (.builtin "object.__class__"))),
  fun K => decide (PySem.W.mroIn K (He.ga K "InvalidQuestion") (.type "object") = some true),
  fun K => decide (PySem.W.mroIn K (He.ga K "InvalidQuestion") (.ref (He.ga K "TreeError")) = some true),
  fun K => decide ((He.ga K "InvalidQuestion") ≠ (He.ga K "TreeError")),
  fun K => decide (PySem.W.nsIn K mainGlobals "InvalidExamples" = some (some (.ref (He.ga K "InvalidExamples")))),
  fun K => TfHd.excB K (He.ga K "InvalidExamples") (.ref (He.ga K "TreeError") :: ([.type "ValueError", .type "Exception", .type "BaseException", .type "object"] : List Value)) "ValueError.__new__",
  fun K => decide (PySem.W.findIn K (.ref (He.ga K "InvalidExamples")) "__init__" = some (some (.ref (He.ma K (He.ga K "TreeError") "__init__")))),
  fun K => decide (PySem.W.keepIn K (.ref (He.ga K "InvalidExamples")) = true),
  fun K => decide (PySem.W.subIn K (.ref (He.ga K "InvalidExamples")) (.type "BaseException") = some true),
  fun K => decide (PySem.W.typeIn K (.ref (He.ga K "InvalidExamples")) = some (.type "type")),
  fun K => decide (PySem.W.subIn K (.ref (He.ga K "InvalidExamples")) (.type "ValueError") = some true),
  fun K => decide (PySem.W.findIn K (.ref (He.ga K "InvalidExamples")) "__getattribute__" = some (some (.builtin "BaseException.__getattribute__"))),
  fun K => decide (PySem.W.findIn K (.ref (He.ga K "InvalidExamples")) "__getattr__" = some none),
  fun K => decide (PySem.W.hasDictIn K (He.ga K "InvalidExamples") = true),
  fun K => decide (PySem.W.findIn K (.ref (He.ga K "InvalidExamples")) "__class__" = some (some (.builtin "object.__class__"))),
  fun K => decide (PySem.W.mroIn K (He.ga K "InvalidExamples") (.type "object") = some true),
  fun K => decide (PySem.W.mroIn K (He.ga K "InvalidExamples") (.ref (He.ga K "TreeError")) = some true),
  fun K => decide ((He.ga K "InvalidExamples") ≠ (He.ga K "TreeError"))]
def hBs2 : List (PySem.W.Frag → Bool) := [
  fun K => decide (PySem.W.nsIn K mainGlobals "InvalidAddress" = some (some (.ref (He.ga K "InvalidAddress")))),
  fun K => TfHd.excB K (He.ga K "InvalidAddress") (.ref (He.ga K "TreeError") :: ([.type "ValueError", .type "Exception", .type "BaseException", .type "object"] : List Value)) "ValueError.__new__",
  fun K => decide (PySem.W.findIn K (.ref (He.ga K "InvalidAddress")) "__init__" = some (some (.ref (He.ma K (He.ga K "TreeError") "__init__")))),
  fun K => decide (PySem.W.keepIn K (.ref (He.ga K "InvalidAddress")) = true),
  fun K => decide (PySem.W.subIn K (.ref (He.ga K "InvalidAddress")) (.type "BaseException") = some true),
  fun K => decide (PySem.W.typeIn K (.ref (He.ga K "InvalidAddress")) = some (.type "type")),
  fun K => decide (PySem.W.subIn K (.ref (He.ga K "InvalidAddress")) (.type "ValueError") = some true),
  fun K => decide (PySem.W.findIn K (.ref (He.ga K "InvalidAddress")) "__getattribute__" = some (some (.builtin "BaseException.__getattribute__"))),
  fun K => decide (PySem.W.findIn K (.ref (He.ga K "InvalidAddress")) "__getattr__" = some none),
  fun K => decide (PySem.W.hasDictIn K (He.ga K "InvalidAddress") = true),
  fun K => decide (PySem.W.findIn K (.ref (He.ga K "InvalidAddress")) "__class__" = some (some (.builtin "object.__class__"))),
  fun K => decide (PySem.W.mroIn K (He.ga K "InvalidAddress") (.type "object") = some true),
  fun K => decide (PySem.W.mroIn K (He.ga K "InvalidAddress") (.ref (He.ga K "TreeError")) = some true),
  fun K => decide ((He.ga K "InvalidAddress") ≠ (He.ga K "TreeError")),
  fun K => decide (PySem.W.nsIn K mainGlobals "InvalidOperation" = some (some (.ref (He.ga K "InvalidOperation")))),
  fun K => TfHd.excB K (He.ga K "InvalidOperation") (.ref (He.ga K "TreeError") :: ([.type "ValueError", .type "Exception", .type "BaseException", .type "object"] : List Value)) "ValueError.__new__",
  fun K => decide (PySem.W.findIn K (.ref (He.ga K "InvalidOperation")) "__init__" = some (some (.ref (He.ma K (He.ga K "TreeError") "__init__")))),
  fun K => decide (PySem.W.keepIn K (.ref (He.ga K "InvalidOperation")) = true),
  fun K => decide (PySem.W.subIn K (.ref (He.ga K "InvalidOperation")) (.type "BaseException") = some true),
  fun K => decide (PySem.W.typeIn K (.ref (He.ga K "InvalidOperation")) = some (.type "type")),
  fun K => decide (PySem.W.subIn K (.ref (He.ga K "InvalidOperation")) (.type "ValueError") = some true),
  fun K => decide (PySem.W.findIn K (.ref (He.ga K "InvalidOperation")) "__getattribute__" = some (some (.builtin "BaseException.__getattribute__"))),
  fun K => decide (PySem.W.findIn K (.ref (He.ga K "InvalidOperation")) "__getattr__" = some none),
  fun K => decide (PySem.W.hasDictIn K (He.ga K "InvalidOperation") = true),
  fun K => decide (PySem.W.findIn K (.ref (He.ga K "InvalidOperation")) "__class__" = some (some (.builtin "object.__class__"))),
  fun K => decide (PySem.W.mroIn K (He.ga K "InvalidOperation") (.type "object") = some true),
  fun K => decide (PySem.W.mroIn K (He.ga K "InvalidOperation") (.ref (He.ga K "TreeError")) = some true),
  fun K => decide ((He.ga K "InvalidOperation") ≠ (He.ga K "TreeError")),
  fun K => decide (PySem.W.nsIn K mainGlobals "InvalidEdit" = some (some (.ref (He.ga K "InvalidEdit")))),
  fun K => TfHd.excB K (He.ga K "InvalidEdit") (.ref (He.ga K "TreeError") :: ([.type "ValueError", .type "Exception", .type "BaseException", .type "object"] : List Value)) "ValueError.__new__",
  fun K => decide (PySem.W.findIn K (.ref (He.ga K "InvalidEdit")) "__init__" = some (some (.ref (He.ma K (He.ga K "TreeError") "__init__")))),
  fun K => decide (PySem.W.keepIn K (.ref (He.ga K "InvalidEdit")) = true),
  fun K => decide (PySem.W.subIn K (.ref (He.ga K "InvalidEdit")) (.type "BaseException") = some true),
  fun K => decide (PySem.W.typeIn K (.ref (He.ga K "InvalidEdit")) = some (.type "type")),
  fun K => decide (PySem.W.subIn K (.ref (He.ga K "InvalidEdit")) (.type "ValueError") = some true),
  fun K => decide (PySem.W.findIn K (.ref (He.ga K "InvalidEdit")) "__getattribute__" = some (some (.builtin "BaseException.__getattribute__"))),
  fun K => decide (PySem.W.findIn K (.ref (He.ga K "InvalidEdit")) "__getattr__" = some none),
  fun K => decide (PySem.W.hasDictIn K (He.ga K "InvalidEdit") = true),
  fun K => decide (PySem.W.findIn K (.ref (He.ga K "InvalidEdit")) "__class__" = some (some (.builtin "object.__class__"))),
  fun K => decide (PySem.W.mroIn K (He.ga K "InvalidEdit") (.type "object") = some true)]
def hBs3 : List (PySem.W.Frag → Bool) := [
  fun K => decide (PySem.W.mroIn K (He.ga K "InvalidEdit") (.ref (He.ga K "TreeError")) = some true),
  fun K => decide ((He.ga K "InvalidEdit") ≠ (He.ga K "TreeError")),
  fun K => decide (PySem.W.nsIn K mainGlobals "ParseError" = some (some (.ref (He.ga K "ParseError")))),
  fun K => TfHd.excB K (He.ga K "ParseError") (.ref (He.ga K "TreeError") :: ([.type "ValueError", .type "Exception", .type "BaseException", .type "object"] : List Value)) "ValueError.__new__",
  fun K => decide (PySem.W.findIn K (.ref (He.ga K "ParseError")) "__init__" = some (some (.ref (He.ma K (He.ga K "TreeError") "__init__")))),
  fun K => decide (PySem.W.keepIn K (.ref (He.ga K "ParseError")) = true),
  fun K => decide (PySem.W.subIn K (.ref (He.ga K "ParseError")) (.type "BaseException") = some true),
  fun K => decide (PySem.W.typeIn K (.ref (He.ga K "ParseError")) = some (.type "type")),
  fun K => decide (PySem.W.subIn K (.ref (He.ga K "ParseError")) (.type "ValueError") = some true),
  fun K => decide (PySem.W.findIn K (.ref (He.ga K "ParseError")) "__getattribute__" = some (some (.builtin "BaseException.__getattribute__"))),
  fun K => decide (PySem.W.findIn K (.ref (He.ga K "ParseError")) "__getattr__" = some none),
  fun K => decide (PySem.W.hasDictIn K (He.ga K "ParseError") = true),
  fun K => decide (PySem.W.findIn K (.ref (He.ga K "ParseError")) "__class__" = some (some (.builtin "object.__class__"))),
  fun K => decide (PySem.W.mroIn K (He.ga K "ParseError") (.type "object") = some true),
  fun K => decide (PySem.W.mroIn K (He.ga K "ParseError") (.ref (He.ga K "TreeError")) = some true),
  fun K => decide ((He.ga K "ParseError") ≠ (He.ga K "TreeError")),
  fun K => decide (PySem.W.nsIn K mainGlobals "InvalidCommand" = some (some (.ref (He.ga K "InvalidCommand")))),
  fun K => TfHd.excB K (He.ga K "InvalidCommand") (.ref (He.ga K "TreeError") :: ([.type "ValueError", .type "Exception", .type "BaseException", .type "object"] : List Value)) "ValueError.__new__",
  fun K => decide (PySem.W.findIn K (.ref (He.ga K "InvalidCommand")) "__init__" = some (some (.ref (He.ma K (He.ga K "TreeError") "__init__")))),
  fun K => decide (PySem.W.keepIn K (.ref (He.ga K "InvalidCommand")) = true),
  fun K => decide (PySem.W.subIn K (.ref (He.ga K "InvalidCommand")) (.type "BaseException") = some true),
  fun K => decide (PySem.W.typeIn K (.ref (He.ga K "InvalidCommand")) = some (.type "type")),
  fun K => decide (PySem.W.subIn K (.ref (He.ga K "InvalidCommand")) (.type "ValueError") = some true),
  fun K => decide (PySem.W.findIn K (.ref (He.ga K "InvalidCommand")) "__getattribute__" = some (some (.builtin "BaseException.__getattribute__"))),
  fun K => decide (PySem.W.findIn K (.ref (He.ga K "InvalidCommand")) "__getattr__" = some none),
  fun K => decide (PySem.W.hasDictIn K (He.ga K "InvalidCommand") = true),
  fun K => decide (PySem.W.findIn K (.ref (He.ga K "InvalidCommand")) "__class__" = some (some (.builtin "object.__class__"))),
  fun K => decide (PySem.W.mroIn K (He.ga K "InvalidCommand") (.type "object") = some true),
  fun K => decide (PySem.W.mroIn K (He.ga K "InvalidCommand") (.ref (He.ga K "TreeError")) = some true),
  fun K => decide ((He.ga K "InvalidCommand") ≠ (He.ga K "TreeError")),
  fun K => decide (PySem.W.nsIn K mainGlobals "InvalidNumber" = some (some (.ref (He.ga K "InvalidNumber")))),
  fun K => TfHd.excB K (He.ga K "InvalidNumber") ([.type "IndexError", .type "LookupError", .type "Exception", .type "BaseException", .type "object"] : List Value) "IndexError.__new__",
  fun K => decide (PySem.W.findIn K (.ref (He.ga K "InvalidNumber")) "__init__" = some (some (.ref (He.ma K (He.ga K "InvalidNumber") "__init__")))),
  fun K => decide (PySem.W.keepIn K (.ref (He.ga K "InvalidNumber")) = true),
  fun K => decide (PySem.W.subIn K (.ref (He.ga K "InvalidNumber")) (.type "BaseException") = some true),
  fun K => decide (PySem.W.typeIn K (.ref (He.ga K "InvalidNumber")) = some (.type "type")),
  fun K => decide (PySem.W.subIn K (.ref (He.ga K "InvalidNumber")) (.type "IndexError") = some true),
  fun K => decide (PySem.W.findIn K (.ref (He.ga K "InvalidNumber")) "__getattribute__" = some (some (.builtin "BaseException.__getattribute__"))),
  fun K => decide (PySem.W.findIn K (.ref (He.ga K "InvalidNumber")) "__getattr__" = some none),
  fun K => decide (PySem.W.hasDictIn K (He.ga K "InvalidNumber") = true)]
def hBs4 : List (PySem.W.Frag → Bool) := [
  fun K => decide (PySem.W.findIn K (.ref (He.ga K "InvalidNumber")) "__class__" = some (some (.builtin "object.__class__"))),
  fun K => decide (PySem.W.mroIn K (He.ga K "InvalidNumber") (.type "object") = some true),
  fun K => decide (PySem.W.typeIn K (.ref (He.ma K (He.ga K "InvalidNumber") "__init__")) = some (.type "function")),
  fun K => TfHd.fnB K (He.ma K (He.ga K "InvalidNumber") "__init__") "InvalidNumber.__init__",
  fun K => TfHd.kwN K (He.ma K (He.ga K "InvalidNumber") "__init__"),
  fun K => decide (PySem.W.codeIn K (.ref (TfHd.codeA K (He.ma K (He.ga K "InvalidNumber") "__init__"))) "InvalidNumber.__init__" = true),
  fun K => TfHd.fldsB K (TfHd.codeA K (He.ma K (He.ga K "InvalidNumber") "__init__")),
  fun K => decide (((TfHd.fldsA K (TfHd.codeA K (He.ma K (He.ga K "InvalidNumber") "__init__")))[2]? : Option Value) = some (Value.str (PySem.Challenge.rw_treefits_k00_errors).prog.main.file (TfHd.strTok ((TfHd.fldsA K (TfHd.codeA K (He.ma K (He.ga K "InvalidNumber") "__init__")))[2]? : Option Value)))),
  fun K => TfHd.cellB K (TfHd.cellA K (He.ma K (He.ga K "InvalidNumber") "__init__")) (He.ga K "InvalidNumber"),
  fun K => decide (PySem.W.mroIn K (He.ga K "InvalidNumber") (.ref (He.ga K "InvalidNumber")) = some true),
  fun K => decide (PySem.W.findIn K (.ref (He.ga K "InvalidNumber")) "__setattr__" = some (some (.builtin "object.__setattr__"))),
  fun K => decide (PySem.W.findIn K (.ref (He.ga K "InvalidNumber")) "value" = some none),
  fun K => decide (PySem.W.nsIn K mainGlobals "UnknownName" = some (some (.ref (He.ga K "UnknownName")))),
  fun K => TfHd.excB K (He.ga K "UnknownName") ([.type "KeyError", .type "LookupError", .type "Exception", .type "BaseException", .type "object"] : List Value) "LookupError.__new__",
  fun K => decide (PySem.W.findIn K (.ref (He.ga K "UnknownName")) "__init__" = some (some (.ref (He.ma K (He.ga K "UnknownName") "__init__")))),
  fun K => decide (PySem.W.keepIn K (.ref (He.ga K "UnknownName")) = true),
  fun K => decide (PySem.W.subIn K (.ref (He.ga K "UnknownName")) (.type "BaseException") = some true),
  fun K => decide (PySem.W.typeIn K (.ref (He.ga K "UnknownName")) = some (.type "type")),
  fun K => decide (PySem.W.subIn K (.ref (He.ga K "UnknownName")) (.type "KeyError") = some true),
  fun K => decide (PySem.W.findIn K (.ref (He.ga K "UnknownName")) "__getattribute__" = some (some (.builtin "BaseException.__getattribute__"))),
  fun K => decide (PySem.W.findIn K (.ref (He.ga K "UnknownName")) "__getattr__" = some none),
  fun K => decide (PySem.W.hasDictIn K (He.ga K "UnknownName") = true),
  fun K => decide (PySem.W.findIn K (.ref (He.ga K "UnknownName")) "__class__" = some (some (.builtin "object.__class__"))),
  fun K => decide (PySem.W.mroIn K (He.ga K "UnknownName") (.type "object") = some true),
  fun K => decide (PySem.W.typeIn K (.ref (He.ma K (He.ga K "UnknownName") "__init__")) = some (.type "function")),
  fun K => TfHd.fnB K (He.ma K (He.ga K "UnknownName") "__init__") "UnknownName.__init__",
  fun K => TfHd.kwN K (He.ma K (He.ga K "UnknownName") "__init__"),
  fun K => decide (PySem.W.codeIn K (.ref (TfHd.codeA K (He.ma K (He.ga K "UnknownName") "__init__"))) "UnknownName.__init__" = true),
  fun K => TfHd.fldsB K (TfHd.codeA K (He.ma K (He.ga K "UnknownName") "__init__")),
  fun K => decide (((TfHd.fldsA K (TfHd.codeA K (He.ma K (He.ga K "UnknownName") "__init__")))[2]? : Option Value) = some (Value.str (PySem.Challenge.rw_treefits_k00_errors).prog.main.file (TfHd.strTok ((TfHd.fldsA K (TfHd.codeA K (He.ma K (He.ga K "UnknownName") "__init__")))[2]? : Option Value)))),
  fun K => TfHd.cellB K (TfHd.cellA K (He.ma K (He.ga K "UnknownName") "__init__")) (He.ga K "UnknownName"),
  fun K => decide (PySem.W.mroIn K (He.ga K "UnknownName") (.ref (He.ga K "UnknownName")) = some true),
  fun K => decide (PySem.W.findIn K (.ref (He.ga K "UnknownName")) "__setattr__" = some (some (.builtin "object.__setattr__"))),
  fun K => decide (PySem.W.findIn K (.ref (He.ga K "UnknownName")) "name" = some none),
  fun K => decide (PySem.W.nsIn K mainGlobals "TooMany" = some (some (.ref (He.ga K "TooMany")))),
  fun K => TfHd.excB K (He.ga K "TooMany") ([.type "OverflowError", .type "ArithmeticError", .type "Exception", .type "BaseException", .type "object"] : List Value) "OverflowError.__new__",
  fun K => decide (PySem.W.findIn K (.ref (He.ga K "TooMany")) "__init__" = some (some (.ref (He.ma K (He.ga K "TooMany") "__init__")))),
  fun K => decide (PySem.W.keepIn K (.ref (He.ga K "TooMany")) = true),
  fun K => decide (PySem.W.subIn K (.ref (He.ga K "TooMany")) (.type "BaseException") = some true),
  fun K => decide (PySem.W.typeIn K (.ref (He.ga K "TooMany")) = some (.type "type"))]
def hBs5 : List (PySem.W.Frag → Bool) := [
  fun K => decide (PySem.W.subIn K (.ref (He.ga K "TooMany")) (.type "OverflowError") = some true),
  fun K => decide (PySem.W.findIn K (.ref (He.ga K "TooMany")) "__getattribute__" = some (some (.builtin "BaseException.__getattribute__"))),
  fun K => decide (PySem.W.findIn K (.ref (He.ga K "TooMany")) "__getattr__" = some none),
  fun K => decide (PySem.W.hasDictIn K (He.ga K "TooMany") = true),
  fun K => decide (PySem.W.findIn K (.ref (He.ga K "TooMany")) "__class__" = some (some (.builtin "object.__class__"))),
  fun K => decide (PySem.W.mroIn K (He.ga K "TooMany") (.type "object") = some true),
  fun K => decide (PySem.W.typeIn K (.ref (He.ma K (He.ga K "TooMany") "__init__")) = some (.type "function")),
  fun K => TfHd.fnB K (He.ma K (He.ga K "TooMany") "__init__") "TooMany.__init__",
  fun K => TfHd.kwN K (He.ma K (He.ga K "TooMany") "__init__"),
  fun K => decide (PySem.W.codeIn K (.ref (TfHd.codeA K (He.ma K (He.ga K "TooMany") "__init__"))) "TooMany.__init__" = true),
  fun K => TfHd.fldsB K (TfHd.codeA K (He.ma K (He.ga K "TooMany") "__init__")),
  fun K => decide (((TfHd.fldsA K (TfHd.codeA K (He.ma K (He.ga K "TooMany") "__init__")))[2]? : Option Value) = some (Value.str (PySem.Challenge.rw_treefits_k00_errors).prog.main.file (TfHd.strTok ((TfHd.fldsA K (TfHd.codeA K (He.ma K (He.ga K "TooMany") "__init__")))[2]? : Option Value)))),
  fun K => TfHd.cellB K (TfHd.cellA K (He.ma K (He.ga K "TooMany") "__init__")) (He.ga K "TooMany"),
  fun K => decide (PySem.W.mroIn K (He.ga K "TooMany") (.ref (He.ga K "TooMany")) = some true),
  fun K => decide (PySem.W.findIn K (.ref (He.ga K "TooMany")) "__setattr__" = some (some (.builtin "object.__setattr__"))),
  fun K => decide (PySem.W.findIn K (.ref (He.ga K "TooMany")) "limit" = some none),
  fun K => decide (PySem.W.nsIn K mainGlobals "NoFit" = some (some (.ref (He.ga K "NoFit")))),
  fun K => TfHd.excB K (He.ga K "NoFit") ([.type "ArithmeticError", .type "Exception", .type "BaseException", .type "object"] : List Value) "ArithmeticError.__new__",
  fun K => decide (PySem.W.findIn K (.ref (He.ga K "NoFit")) "__init__" = some (some (.ref (He.ma K (He.ga K "NoFit") "__init__")))),
  fun K => decide (PySem.W.keepIn K (.ref (He.ga K "NoFit")) = true),
  fun K => decide (PySem.W.subIn K (.ref (He.ga K "NoFit")) (.type "BaseException") = some true),
  fun K => decide (PySem.W.typeIn K (.ref (He.ga K "NoFit")) = some (.type "type")),
  fun K => decide (PySem.W.subIn K (.ref (He.ga K "NoFit")) (.type "ArithmeticError") = some true),
  fun K => decide (PySem.W.findIn K (.ref (He.ga K "NoFit")) "__getattribute__" = some (some (.builtin "BaseException.__getattribute__"))),
  fun K => decide (PySem.W.findIn K (.ref (He.ga K "NoFit")) "__getattr__" = some none),
  fun K => decide (PySem.W.hasDictIn K (He.ga K "NoFit") = true),
  fun K => decide (PySem.W.findIn K (.ref (He.ga K "NoFit")) "__class__" = some (some (.builtin "object.__class__"))),
  fun K => decide (PySem.W.mroIn K (He.ga K "NoFit") (.type "object") = some true),
  fun K => decide (PySem.W.typeIn K (.ref (He.ma K (He.ga K "NoFit") "__init__")) = some (.type "function")),
  fun K => TfHd.fnB K (He.ma K (He.ga K "NoFit") "__init__") "NoFit.__init__",
  fun K => TfHd.kwN K (He.ma K (He.ga K "NoFit") "__init__"),
  fun K => decide (PySem.W.codeIn K (.ref (TfHd.codeA K (He.ma K (He.ga K "NoFit") "__init__"))) "NoFit.__init__" = true),
  fun K => TfHd.fldsB K (TfHd.codeA K (He.ma K (He.ga K "NoFit") "__init__")),
  fun K => decide (((TfHd.fldsA K (TfHd.codeA K (He.ma K (He.ga K "NoFit") "__init__")))[2]? : Option Value) = some (Value.str (PySem.Challenge.rw_treefits_k00_errors).prog.main.file (TfHd.strTok ((TfHd.fldsA K (TfHd.codeA K (He.ma K (He.ga K "NoFit") "__init__")))[2]? : Option Value)))),
  fun K => TfHd.cellB K (TfHd.cellA K (He.ma K (He.ga K "NoFit") "__init__")) (He.ga K "NoFit"),
  fun K => decide (PySem.W.mroIn K (He.ga K "NoFit") (.ref (He.ga K "NoFit")) = some true),
  fun K => decide (PySem.W.findIn K (.ref (He.ga K "NoFit")) "__setattr__" = some (some (.builtin "object.__setattr__"))),
  fun K => decide (PySem.W.findIn K (.ref (He.ga K "NoFit")) "paper" = some none),
  fun K => decide (PySem.W.nsIn K mainGlobals "NothingToUndo" = some (some (.ref (He.ga K "NothingToUndo")))),
  fun K => TfHd.excB K (He.ga K "NothingToUndo") ([.type "LookupError", .type "Exception", .type "BaseException", .type "object"] : List Value) "LookupError.__new__"]
def hBs6 : List (PySem.W.Frag → Bool) := [
  fun K => decide (PySem.W.findIn K (.ref (He.ga K "NothingToUndo")) "__init__" = some (some (.ref (He.ma K (He.ga K "NothingToUndo") "__init__")))),
  fun K => decide (PySem.W.keepIn K (.ref (He.ga K "NothingToUndo")) = true),
  fun K => decide (PySem.W.subIn K (.ref (He.ga K "NothingToUndo")) (.type "BaseException") = some true),
  fun K => decide (PySem.W.typeIn K (.ref (He.ga K "NothingToUndo")) = some (.type "type")),
  fun K => decide (PySem.W.subIn K (.ref (He.ga K "NothingToUndo")) (.type "LookupError") = some true),
  fun K => decide (PySem.W.findIn K (.ref (He.ga K "NothingToUndo")) "__getattribute__" = some (some (.builtin "BaseException.__getattribute__"))),
  fun K => decide (PySem.W.findIn K (.ref (He.ga K "NothingToUndo")) "__getattr__" = some none),
  fun K => decide (PySem.W.hasDictIn K (He.ga K "NothingToUndo") = true),
  fun K => decide (PySem.W.findIn K (.ref (He.ga K "NothingToUndo")) "__class__" = some (some (.builtin "object.__class__"))),
  fun K => decide (PySem.W.mroIn K (He.ga K "NothingToUndo") (.type "object") = some true),
  fun K => decide (PySem.W.typeIn K (.ref (He.ma K (He.ga K "NothingToUndo") "__init__")) = some (.type "function")),
  fun K => TfHd.fnB K (He.ma K (He.ga K "NothingToUndo") "__init__") "NothingToUndo.__init__",
  fun K => TfHd.kwN K (He.ma K (He.ga K "NothingToUndo") "__init__"),
  fun K => decide (PySem.W.codeIn K (.ref (TfHd.codeA K (He.ma K (He.ga K "NothingToUndo") "__init__"))) "NothingToUndo.__init__" = true),
  fun K => TfHd.fldsB K (TfHd.codeA K (He.ma K (He.ga K "NothingToUndo") "__init__")),
  fun K => decide (((TfHd.fldsA K (TfHd.codeA K (He.ma K (He.ga K "NothingToUndo") "__init__")))[2]? : Option Value) = some (Value.str (PySem.Challenge.rw_treefits_k00_errors).prog.main.file (TfHd.strTok ((TfHd.fldsA K (TfHd.codeA K (He.ma K (He.ga K "NothingToUndo") "__init__")))[2]? : Option Value)))),
  fun K => TfHd.cellB K (TfHd.cellA K (He.ma K (He.ga K "NothingToUndo") "__init__")) (He.ga K "NothingToUndo"),
  fun K => decide (PySem.W.mroIn K (He.ga K "NothingToUndo") (.ref (He.ga K "NothingToUndo")) = some true),
  fun K => decide (PySem.W.findIn K (.ref (He.ga K "NothingToUndo")) "__setattr__" = some (some (.builtin "object.__setattr__"))),
  fun K => decide (PySem.W.findIn K (.ref (He.ga K "NothingToUndo")) "many" = some none),
  fun K => decide (PySem.W.mroIn K (He.ga K "TreeError") (.ref (He.ga K "TreeError")) = some true),
  fun K => decide (([(He.ga K "TreeError"), (He.ga K "InvalidLanguage"), (He.ga K "InvalidStore"), (He.ga K "InvalidQuestion"), (He.ga K "InvalidExamples"), (He.ga K "InvalidAddress"), (He.ga K "InvalidOperation"), (He.ga K "InvalidEdit"), (He.ga K "ParseError"), (He.ga K "InvalidCommand"), (He.ga K "InvalidNumber"), (He.ga K "UnknownName"), (He.ga K "TooMany"), (He.ga K "NoFit"), (He.ga K "NothingToUndo")] : List Addr).Nodup),
  fun K => decide (PySem.W.specialIn K (.builtin "object.__class__") "__get__" = some (some (.builtin "getset_descriptor.__get__"))),
  fun K => decide (PySem.W.takesIn K (.builtin "object.__class__") = some true),
  fun K => decide (PySem.W.plainGet K (He.ga K "Language") Str.empty = true),
  fun K => decide (PySem.W.hasDictIn K (He.ga K "Language") = true),
  fun K => decide (PySem.W.plainOver K (He.ga K "Language") = true),
  fun K => decide (PySem.W.findIn K (.ref (He.ga K "Language")) "__setattr__" = some (some (.builtin "object.__setattr__"))),
  fun K => decide (PySem.W.findIn K (.ref (He.ga K "Language")) "own_marks" = some none),
  fun K => decide (PySem.W.findIn K (.ref (He.ga K "Language")) "own_kinds" = some none),
  fun K => decide (PySem.W.findIn K (.ref (He.ga K "Language")) "__class__" = some (some (.builtin "object.__class__"))),
  fun K => decide (PySem.W.mroIn K (He.ga K "Language") (.type "object") = some true),
  fun K => decide (PySem.W.subIn K (.ref (He.ga K "Language")) (.type "tuple") = some false),
  fun K => decide (PySem.W.isClsIn K (He.ga K "Language") = true),
  fun K => decide (PySem.W.typeIn K (.ref (He.ga K "Language")) = some (.type "type")),
  fun K => decide (PySem.W.subIn K (.type "NoneType") (.ref (He.ga K "Language")) = some false),
  fun K => decide (PySem.W.subIn K (.type "bool") (.ref (He.ga K "Language")) = some false),
  fun K => decide (PySem.W.subIn K (.type "int") (.ref (He.ga K "Language")) = some false),
  fun K => decide (PySem.W.subIn K (.type "str") (.ref (He.ga K "Language")) = some false),
  fun K => decide (PySem.W.subIn K (.type "list") (.ref (He.ga K "Language")) = some false)]
def hBs7 : List (PySem.W.Frag → Bool) := [
  fun K => decide (PySem.W.subIn K (.type "tuple") (.ref (He.ga K "Language")) = some false),
  fun K => decide (PySem.W.subIn K (.type "dict") (.ref (He.ga K "Language")) = some false),
  fun K => decide (PySem.W.readsIn K (He.ga K "Language") (.type "type") = true),
  fun K => decide (PySem.W.specialIn K (.ref (He.ga K "Language")) "__getattribute__" = some (some (.builtin "type.__getattribute__"))),
  fun K => TfHd.cmB K (He.ga K "Language") "of",
  fun K => TfHd.recB K (TfHd.cmA K (He.ga K "Language") "of") "classmethod",
  fun K => decide (PySem.W.fnIn K (TfHd.recA K (TfHd.cmA K (He.ga K "Language") "of") "classmethod") = true),
  fun K => decide (PySem.W.readsIn K (He.ga K "Store") (.type "type") = true),
  fun K => decide (PySem.W.specialIn K (.ref (He.ga K "Store")) "__getattribute__" = some (some (.builtin "type.__getattribute__"))),
  fun K => TfHd.cmB K (He.ga K "Store") "of",
  fun K => TfHd.recB K (TfHd.cmA K (He.ga K "Store") "of") "classmethod",
  fun K => decide (PySem.W.fnIn K (TfHd.recA K (TfHd.cmA K (He.ga K "Store") "of") "classmethod") = true),
  fun K => decide (PySem.W.readsIn K (He.ga K "Question") (.type "type") = true),
  fun K => decide (PySem.W.specialIn K (.ref (He.ga K "Question")) "__getattribute__" = some (some (.builtin "type.__getattribute__"))),
  fun K => TfHd.cmB K (He.ga K "Question") "of",
  fun K => TfHd.recB K (TfHd.cmA K (He.ga K "Question") "of") "classmethod",
  fun K => decide (PySem.W.fnIn K (TfHd.recA K (TfHd.cmA K (He.ga K "Question") "of") "classmethod") = true),
  fun K => decide (PySem.W.makesIn K (He.ga K "Language") = true),
  fun K => decide (PySem.W.findIn K (.ref (He.ga K "Language")) "__init__" = some (some (.ref (He.ma K (He.ga K "Language") "__init__")))),
  fun K => decide (PySem.W.isFn K (.ref (He.ma K (He.ga K "Language") "__init__")) = true),
  fun K => decide (PySem.W.keepIn K (.ref (He.ga K "Language")) = true),
  fun K => decide (PySem.W.makesIn K (He.ga K "Store") = true),
  fun K => decide (PySem.W.findIn K (.ref (He.ga K "Store")) "__init__" = some (some (.ref (He.ma K (He.ga K "Store") "__init__")))),
  fun K => decide (PySem.W.isFn K (.ref (He.ma K (He.ga K "Store") "__init__")) = true),
  fun K => decide (PySem.W.keepIn K (.ref (He.ga K "Store")) = true),
  fun K => decide (PySem.W.makesIn K (He.ga K "MadeStore") = true),
  fun K => decide (PySem.W.findIn K (.ref (He.ga K "MadeStore")) "__init__" = some (some (.ref (He.ma K (He.ga K "MadeStore") "__init__")))),
  fun K => decide (PySem.W.isFn K (.ref (He.ma K (He.ga K "MadeStore") "__init__")) = true),
  fun K => decide (PySem.W.keepIn K (.ref (He.ga K "MadeStore")) = true),
  fun K => decide (PySem.W.nsIn K mainGlobals "is_name" = some (some (.ref (He.ga K "is_name")))),
  fun K => TfHd.fnB K (He.ga K "is_name") "is_name",
  fun K => decide (PySem.W.codeIn K (.ref (TfHd.codeA K (He.ga K "is_name"))) "is_name" = true),
  fun K => decide (PySem.W.keepIn K (.ref (He.ga K "is_name")) = true),
  fun K => decide (PySem.W.nsIn K mainGlobals "different_names" = some (some (.ref (He.ga K "different_names")))),
  fun K => TfHd.fnB K (He.ga K "different_names") "different_names",
  fun K => decide (PySem.W.codeIn K (.ref (TfHd.codeA K (He.ga K "different_names"))) "different_names" = true),
  fun K => decide (PySem.W.keepIn K (.ref (He.ga K "different_names")) = true),
  fun K => decide (PySem.W.nsIn K mainGlobals "require_language" = some (some (.ref (He.ga K "require_language")))),
  fun K => TfHd.fnB K (He.ga K "require_language") "require_language",
  fun K => decide (PySem.W.codeIn K (.ref (TfHd.codeA K (He.ga K "require_language"))) "require_language" = true)]
def hBs8 : List (PySem.W.Frag → Bool) := [
  fun K => decide (PySem.W.keepIn K (.ref (He.ga K "require_language")) = true),
  fun K => decide (PySem.W.nsIn K mainGlobals "require_pair" = some (some (.ref (He.ga K "require_pair")))),
  fun K => TfHd.fnB K (He.ga K "require_pair") "require_pair",
  fun K => decide (PySem.W.codeIn K (.ref (TfHd.codeA K (He.ga K "require_pair"))) "require_pair" = true),
  fun K => decide (PySem.W.keepIn K (.ref (He.ga K "require_pair")) = true),
  fun K => decide (PySem.W.nsIn K mainGlobals "checked_things" = some (some (.ref (He.ga K "checked_things")))),
  fun K => TfHd.fnB K (He.ga K "checked_things") "checked_things",
  fun K => decide (PySem.W.codeIn K (.ref (TfHd.codeA K (He.ga K "checked_things"))) "checked_things" = true),
  fun K => decide (PySem.W.keepIn K (.ref (He.ga K "checked_things")) = true),
  fun K => decide (PySem.W.nsIn K mainGlobals "is_form_node" = some (some (.ref (He.ga K "is_form_node")))),
  fun K => TfHd.fnB K (He.ga K "is_form_node") "is_form_node",
  fun K => decide (PySem.W.codeIn K (.ref (TfHd.codeA K (He.ga K "is_form_node"))) "is_form_node" = true),
  fun K => decide (PySem.W.keepIn K (.ref (He.ga K "is_form_node")) = true),
  fun K => decide (PySem.W.nsIn K mainGlobals "is_form" = some (some (.ref (He.ga K "is_form")))),
  fun K => TfHd.fnB K (He.ga K "is_form") "is_form",
  fun K => decide (PySem.W.codeIn K (.ref (TfHd.codeA K (He.ga K "is_form"))) "is_form" = true),
  fun K => decide (PySem.W.keepIn K (.ref (He.ga K "is_form")) = true),
  fun K => decide (PySem.W.nsIn K mainGlobals "_law_dice" = some (some (.ref (He.ga K "_law_dice")))),
  fun K => TfHd.fnB K (He.ga K "_law_dice") "_law_dice",
  fun K => decide (PySem.W.codeIn K (.ref (TfHd.codeA K (He.ga K "_law_dice"))) "_law_dice" = true),
  fun K => decide (PySem.W.keepIn K (.ref (He.ga K "_law_dice")) = true),
  fun K => decide (PySem.W.nsIn K mainGlobals "_law_roll" = some (some (.ref (He.ga K "_law_roll")))),
  fun K => TfHd.fnB K (He.ga K "_law_roll") "_law_roll",
  fun K => decide (PySem.W.codeIn K (.ref (TfHd.codeA K (He.ga K "_law_roll"))) "_law_roll" = true),
  fun K => decide (PySem.W.keepIn K (.ref (He.ga K "_law_roll")) = true),
  fun K => decide (PySem.W.nsIn K mainGlobals "_law_pick" = some (some (.ref (He.ga K "_law_pick")))),
  fun K => TfHd.fnB K (He.ga K "_law_pick") "_law_pick",
  fun K => decide (PySem.W.codeIn K (.ref (TfHd.codeA K (He.ga K "_law_pick"))) "_law_pick" = true),
  fun K => decide (PySem.W.keepIn K (.ref (He.ga K "_law_pick")) = true),
  fun K => decide (PySem.W.nsIn K mainGlobals "_law_told" = some (some (.ref (He.ga K "_law_told")))),
  fun K => TfHd.fnB K (He.ga K "_law_told") "_law_told",
  fun K => decide (PySem.W.codeIn K (.ref (TfHd.codeA K (He.ga K "_law_told"))) "_law_told" = true),
  fun K => decide (PySem.W.keepIn K (.ref (He.ga K "_law_told")) = true),
  fun K => decide (PySem.W.nsIn K mainGlobals "_law_marks" = some (some (.ref (He.ga K "_law_marks")))),
  fun K => TfHd.fnB K (He.ga K "_law_marks") "_law_marks",
  fun K => decide (PySem.W.codeIn K (.ref (TfHd.codeA K (He.ga K "_law_marks"))) "_law_marks" = true),
  fun K => decide (PySem.W.keepIn K (.ref (He.ga K "_law_marks")) = true),
  fun K => decide (PySem.W.nsIn K mainGlobals "_law_bases" = some (some (.ref (He.ga K "_law_bases")))),
  fun K => TfHd.fnB K (He.ga K "_law_bases") "_law_bases",
  fun K => decide (PySem.W.codeIn K (.ref (TfHd.codeA K (He.ga K "_law_bases"))) "_law_bases" = true)]
def hBs9 : List (PySem.W.Frag → Bool) := [
  fun K => decide (PySem.W.keepIn K (.ref (He.ga K "_law_bases")) = true),
  fun K => decide (PySem.W.nsIn K mainGlobals "_law_only" = some (some (.ref (He.ga K "_law_only")))),
  fun K => TfHd.fnB K (He.ga K "_law_only") "_law_only",
  fun K => decide (PySem.W.codeIn K (.ref (TfHd.codeA K (He.ga K "_law_only"))) "_law_only" = true),
  fun K => decide (PySem.W.keepIn K (.ref (He.ga K "_law_only")) = true),
  fun K => decide (PySem.W.nsIn K mainGlobals "_law_messages_right" = some (some (.ref (He.ga K "_law_messages_right")))),
  fun K => TfHd.fnB K (He.ga K "_law_messages_right") "_law_messages_right",
  fun K => decide (PySem.W.codeIn K (.ref (TfHd.codeA K (He.ga K "_law_messages_right"))) "_law_messages_right" = true),
  fun K => decide (PySem.W.keepIn K (.ref (He.ga K "_law_messages_right")) = true),
  fun K => decide (PySem.W.nsIn K mainGlobals "_law_values_right" = some (some (.ref (He.ga K "_law_values_right")))),
  fun K => TfHd.fnB K (He.ga K "_law_values_right") "_law_values_right",
  fun K => decide (PySem.W.codeIn K (.ref (TfHd.codeA K (He.ga K "_law_values_right"))) "_law_values_right" = true),
  fun K => decide (PySem.W.keepIn K (.ref (He.ga K "_law_values_right")) = true),
  fun K => decide (PySem.W.nsIn K mainGlobals "_law_taken" = some (some (.ref (He.ga K "_law_taken")))),
  fun K => TfHd.fnB K (He.ga K "_law_taken") "_law_taken",
  fun K => decide (PySem.W.codeIn K (.ref (TfHd.codeA K (He.ga K "_law_taken"))) "_law_taken" = true),
  fun K => decide (PySem.W.keepIn K (.ref (He.ga K "_law_taken")) = true),
  fun K => decide (PySem.W.nsIn K mainGlobals "law" = some (some (.ref (He.ga K "law")))),
  fun K => TfHd.fnB K (He.ga K "law") "law",
  fun K => decide (PySem.W.codeIn K (.ref (TfHd.codeA K (He.ga K "law"))) "law" = true),
  fun K => decide (PySem.W.keepIn K (.ref (He.ga K "law")) = true),
  fun K => TfHd.fldsB K (TfHd.codeA K (He.ga K "law")),
  fun K => decide (((TfHd.fldsA K (TfHd.codeA K (He.ga K "law")))[11]? : Option Value) = some (Value.ref (TfHd.tabA K (TfHd.codeA K (He.ga K "law"))))),
  fun K => (K.lookup (TfHd.tabA K (TfHd.codeA K (He.ga K "law")))).isNone,
  fun K => TfHd.fnB K (He.ma K (He.ga K "Language") "__init__") "Language.__init__",
  fun K => decide (PySem.W.codeIn K (.ref (TfHd.codeA K (He.ma K (He.ga K "Language") "__init__"))) "Language.__init__" = true),
  fun K => decide (PySem.W.keepIn K (.ref (He.ma K (He.ga K "Language") "__init__")) = true),
  fun K => TfHd.fnB K (TfHd.recA K (TfHd.cmA K (He.ga K "Language") "of") "classmethod") "Language.of",
  fun K => decide (PySem.W.codeIn K (.ref (TfHd.codeA K (TfHd.recA K (TfHd.cmA K (He.ga K "Language") "of") "classmethod"))) "Language.of" = true),
  fun K => decide (PySem.W.keepIn K (.ref (TfHd.recA K (TfHd.cmA K (He.ga K "Language") "of") "classmethod")) = true),
  fun K => TfHd.fnB K (He.ma K (He.ga K "Store") "__init__") "Store.__init__",
  fun K => decide (PySem.W.codeIn K (.ref (TfHd.codeA K (He.ma K (He.ga K "Store") "__init__"))) "Store.__init__" = true),
  fun K => decide (PySem.W.keepIn K (.ref (He.ma K (He.ga K "Store") "__init__")) = true),
  fun K => TfHd.fnB K (TfHd.recA K (TfHd.cmA K (He.ga K "Store") "of") "classmethod") "Store.of",
  fun K => decide (PySem.W.codeIn K (.ref (TfHd.codeA K (TfHd.recA K (TfHd.cmA K (He.ga K "Store") "of") "classmethod"))) "Store.of" = true),
  fun K => decide (PySem.W.keepIn K (.ref (TfHd.recA K (TfHd.cmA K (He.ga K "Store") "of") "classmethod")) = true),
  fun K => TfHd.fnB K (TfHd.recA K (TfHd.cmA K (He.ga K "Question") "of") "classmethod") "Question.of",
  fun K => decide (PySem.W.codeIn K (.ref (TfHd.codeA K (TfHd.recA K (TfHd.cmA K (He.ga K "Question") "of") "classmethod"))) "Question.of" = true),
  fun K => decide (PySem.W.keepIn K (.ref (TfHd.recA K (TfHd.cmA K (He.ga K "Question") "of") "classmethod")) = true),
  fun K => decide (PySem.W.nsIn K mainGlobals "isinstance" = some none)]
def hBs10 : List (PySem.W.Frag → Bool) := [
  fun K => decide (PySem.W.nsIn K mainGlobals "tuple" = some none),
  fun K => decide (PySem.W.nsIn K mainGlobals "all" = some none),
  fun K => decide (PySem.W.nsIn K mainGlobals "any" = some none),
  fun K => decide (PySem.W.nsIn K mainGlobals "sorted" = some none),
  fun K => decide (PySem.W.nsIn K mainGlobals "list" = some none),
  fun K => decide (PySem.W.nsIn K mainGlobals "len" = some none),
  fun K => decide (PySem.W.nsIn K mainGlobals "str" = some none),
  fun K => decide (PySem.W.nsIn K mainGlobals "int" = some none),
  fun K => decide (PySem.W.nsIn K mainGlobals "abs" = some none),
  fun K => decide (PySem.W.nsIn K mainGlobals "max" = some none),
  fun K => decide (PySem.W.nsIn K mainGlobals "min" = some none),
  fun K => decide (PySem.W.nsIn K mainGlobals "range" = some none),
  fun K => decide (PySem.W.nsIn K mainGlobals "repr" = some none),
  fun K => decide (PySem.W.nsIn K mainGlobals "super" = some none),
  fun K => decide (PySem.W.nsIn K mainGlobals "dict" = some none),
  fun K => decide (PySem.W.nsIn K mainGlobals "enumerate" = some none),
  fun K => decide (PySem.W.nsIn K mainGlobals "ValueError" = some none),
  fun K => decide (PySem.W.nsIn K mainGlobals "IndexError" = some none),
  fun K => decide (PySem.W.nsIn K mainGlobals "KeyError" = some none),
  fun K => decide (PySem.W.nsIn K mainGlobals "OverflowError" = some none),
  fun K => decide (PySem.W.nsIn K mainGlobals "ArithmeticError" = some none),
  fun K => decide (PySem.W.nsIn K mainGlobals "LookupError" = some none),
  fun K => decide (PySem.W.nsIn K mainGlobals "RuntimeError" = some none),
  fun K => decide (PySem.W.nsIn K mainGlobals "MAX_MARKS" = some (some (.int 8 (TfHd.tokA K "MAX_MARKS")))),
  fun K => decide (PySem.W.nsIn K mainGlobals "MAX_KINDS" = some (some (.int 4 (TfHd.tokA K "MAX_KINDS")))),
  fun K => decide (PySem.W.nsIn K mainGlobals "MAX_SIGNS" = some (some (.int 8 (TfHd.tokA K "MAX_SIGNS")))),
  fun K => decide (PySem.W.nsIn K mainGlobals "SIGNS" = some (some (.str "abcdefghijklmnopqrstuvwxyz" (TfHd.tokA K "SIGNS")))),
  fun K => decide (PySem.W.nsIn K mainGlobals "MAX_NODES" = some (some (.int 2000 (TfHd.tokA K "MAX_NODES")))),
  fun K => decide (PySem.W.nsIn K mainGlobals "MAX_LEVELS" = some (some (.int 10 (TfHd.tokA K "MAX_LEVELS"))))]
def hBs : List (PySem.W.Frag → Bool) := hBs0 ++ (hBs1 ++ (hBs2 ++ (hBs3 ++ (hBs4 ++ (hBs5 ++ (hBs6 ++ (hBs7 ++ (hBs8 ++ (hBs9 ++ (hBs10))))))))))
open PySem.W PySem.Calls
def hNm0 : List PySem.Str := ["_wall", "TreeError", "InvalidLanguage", "InvalidStore", "InvalidQuestion", "InvalidExamples", "InvalidAddress", "InvalidOperation", "InvalidEdit", "ParseError", "InvalidCommand", "InvalidNumber", "UnknownName", "TooMany", "NoFit", "NothingToUndo", "MAX_MARKS", "MAX_KINDS", "MAX_SIGNS", "SIGNS", "is_integer", "is_name", "require_language", "require_one_language", "require_mark", "require_kind", "different_names", "language_in", "Language", "look_at"]
def hNm1 : List PySem.Str := ["rivals_of", "rival_pairs", "depths_in", "used_in", "canonical_rows", "reduced_rows", "shifted", "joined_rows", "pairs_in_common", "common_rows", "index_at", "nodes_in", "sizes_in", "ends_of", "fulfilled_in", "row_text", "rows_text", "MAX_THINGS", "require_store", "require_thing", "require_pair", "different_items", "checked_things", "store_in", "joined_pair", "joined_things", "Store", "MadeStore", "MAX_PARTS", "MAX_NODES"]
def hNm2 : List PySem.Str := ["MAX_ROWS", "MAX_PAIRS", "MAX_LEVELS", "is_address", "require_address", "question_from", "limited", "question_of", "fulfils", "is_form_node", "is_form", "rows_of_form", "is_row", "are_rows", "branch_in", "row_in", "rows_in", "questions_in", "rows_below", "branches_in", "Question", "MadeQuestion", "_law_dice", "_law_roll", "_law_pick", "_law_told", "_law_marks", "_law_bases", "_law_only", "_law_messages_right"]
def hNm3 : List PySem.Str := ["_law_values_right", "_law_taken"]
def hNm : List PySem.Str := hNm0 ++ (hNm1 ++ (hNm2 ++ (hNm3)))
abbrev hR : OpenRow := OpenLaw.row PySem.Challenge.rw_treefits_k00_errors
abbrev hQ : Program := view hR.prog [98]
abbrev hH : Hook := TfHd.hookH hBs hFs hVs
def hOb (s : SharedT) : TfHd.AlH := TfHd.obT hBs hFs s
set_option maxHeartbeats 0 in
theorem hRun (w : World) : HandSHeadRun.RunEq hR hQ hH hOb 15000 hNm w := by
  intro os
  kernel_rfl
end Tf

/-! KeyError as the base of an own error: it is made by LookupError's __new__ -/
namespace PySem
namespace TfKE
open PySem.W PySem.Calls PyProof.Rows PySem.HandSPX
abbrev keBm : List Value := [.type "KeyError", .type "LookupError", .type "Exception", .type "BaseException", .type "object"]
theorem kxs : KxsFacts "KeyError" "KeyError.__init__" := { typ := by (show builtinType _ = _; rw [builtinType_eq_fast]; kernel_rfl), nac := by kernel_rfl }
/-- of the built-in __init__ -/
structure InitF (cls initId : String) : Prop where
  noStar : (cls != "*") = true
  initKind : builtinKind initId = some .slot
  initRow : Manifest.signature? initId = some ⟨.positional, "*", cls, .self, [⟨"args", .varPos, false⟩]⟩
  plain : plainId initId = true
  initEntry : entryFor table initId = some Builtin.«BaseException.__init__»
theorem initKE : InitF "KeyError" "KeyError.__init__" := {
  noStar := by decide +kernel, initKind := by kernel_rfl, initRow := by kernel_rfl, plain := by decide +kernel
  initEntry := by
    refine entryFor_alias (id' := "BaseException.__init__") ?_ ?_ ?_ ?_
    · rw [fastTable_eq_tree]; kernel_rfl
    · first | rfl | decide +kernel
    · decide +kernel
    · rw [fastTable_eq_tree]; kernel_rfl }
theorem passes (self : Value) : refuseLoop self "__setattr__" keBm = pure () := by kernel_rfl
/-- the line of classes of an own error: B is in it, AttributeError and NameError are not -/
structure LineOk (B : String) (l : List Value) : Prop where
  yes : l.contains (.type B) = true
  noA : l.contains (.type "AttributeError") = false
  noN : l.contains (.type "NameError") = false
section
variable {prog : Program} {w : World} {A : Around} {R : Result → Shared → Prop} {h : Heap} {gs : Array GenState} {dr : Drawn} {tk : Nat} {os : OsState}
variable {nm q : Str} {C N fI : Addr} {bs bm bmB vs sub : List Value} {hdct ab : Bool} {sn : List Str} {col : Option Bool} {dd : Option Addr} {k0 k1 k2 k3 k5 : Option Value} {B newId initId : String}
/-- C(..), C an own error whose line holds B: made by B's __new__ (F), then the own __init__ at fI -/
theorem call_any (F : ExcBaseFacts B newId initId bmB) (hl : LineOk B (Value.ref C :: bm)) (hC : h.get? C = some (excClassObj nm q C N bs bm hdct sn sub ab col dd k0 k1 k2 k3 k5 newId))
    (hi : W.Looks (model prog w) h (typeLookup (.ref C) "__init__") (some (.ref fI))) (hb : ∀ self, W.Looks (model prog w) h (bindSpecial (.ref fI) self) (.ref fI, [self])) (hz : vs.length ≤ sizeLine)
    (hq : codeAny (model prog w) (A.under (.builtin "type.__call__" ⟨.ref C :: vs, []⟩)) (.call (.ref fI) ⟨.ref (h.objs.size + 1) :: vs, []⟩) (W.InitBack (h.objs.size + 1) R) ⟨(h.push (W.kdv_tup vs)).push (excO C h.objs.size), gs, dr, tk, os⟩) :
    codeAny (model prog w) A (.call (.ref C) ⟨vs, []⟩) R ⟨h, gs, dr, tk, os⟩ := by
  have looked := tc_lookup
  have bound := tc_bind (.ref C)
  have isTy : (⟨h, gs, dr, tk, os⟩ : Shared).TypeIs (.ref C) "type" := ⟨_, hC, rfl⟩
  have stays : ∀ b o, h.get? b = some o → ((h.push (W.kdv_tup vs)).push (excO C h.objs.size)).get? b = some o := fun b o z => Heap.get?_push_of_some _ (Heap.get?_push_of_some _ z)
  have there : ((h.push (W.kdv_tup vs)).push (excO C h.objs.size)).get? (h.objs.size + 1) = some (excO C h.objs.size) := by heap_get
  have ends := F.ends
  have star := F.noStar
  have own : (Value.ref C :: bm).contains (.ref C) = true := by simp
  apply codeAny_of_tree
  change wpAny _ _ (callAny (.ref C) _) _ _ _
  repeat any_goals first | assumption | (with_reducible refine wpAny_loadPart_at hC ?_) | wp_step
  refine ⟨rfl, codeAny_call_builtin_at (Code.quiet_builtin _ (by decide +kernel)) entry_typeCall (wpAny_check_type_call_sub hC ?_)⟩
  repeat first | (with_reducible refine wpAny_loadPart_at hC ?_) | (with_reducible refine wpAny_madeBy_exc hC ?_) | wp_step
  refine codeAny_call_builtin_code (Code.quiet_builtin _ F.quiet) ?_
  simp only [checkBuiltinCall, F.newKind, F.newSplit, F.newRow]
  repeat first | (refine wpAny_loadPart_at hC ?_) | (refine wpAny_isSubtype_exc hC ?_; rw [hl.yes]) | (refine wpAny_staticBase_exc hC ?_) | (refine wpAny_madeBy_exc hC ?_) | (simp only [bne_self_eq_false, Bool.false_eq_true, if_false]) | wp_step
  -- B's __new__
  apply codeAny_builtinAt F.entry
  unfold Builtin.«BaseException.__new__»
  apply wpAt_bind
  change wpAt _ _ _ (stack >>= _) _ _ _
  refine wpAt_bind (wpAt_stack fun p below => wpAt_of_wpAny ?_)
  wp_walk
  apply wpAt_of_wpAny
  rw [F.owner]
  repeat first | (with_reducible refine wpAny_madeHere_exc F.canon hC ?_) | (with_reducible refine wpAny_loadPart_at hC ?_) | (with_reducible refine wpAny_isSubtype_exc hC ?_; first | rw [hl.yes] | rw [hl.noA] | rw [hl.noN]) | wp_step
  -- the own __init__
  rw [Heap.size_push]
  change wpAny _ _ _ _ _ _
  have C1 := stays _ _ hC
  show wpAny _ _ (isSubtype (.ref C) (.ref C)) _ _ (⟨(h.push (W.kdv_tup vs)).push (excO C h.objs.size), gs, dr, tk, os⟩ : Shared)
  repeat first | (with_reducible refine wpAny_loadPart_at there ?_) | (with_reducible refine wpAny_isSubtype_exc C1 ?_; rw [own]) | wp_step
  change wpAny _ _ (typeLookup (.ref C) _) _ _ _
  refine (hi.keeps stays).at (wpAny_holding (wpAny_bind (((hb (.ref (h.objs.size + 1))).keeps stays).at (wpAny_bind (wpAny_call (codeAny_mono hq fun r s' z => ?_))))))
  cases r with
  | error e => exact z
  | ok fl =>
    cases fl with
    | ret v =>
      obtain ⟨rfl, z⟩ := z
      first
        | exact wpAny_pure (wpAny_pure z)
        | (wp_walk; exact z)
    | _ => exact z.elim
end
end TfKE
end PySem

/-! own errors whose __init__ says super().__init__(x) -/
namespace PySem
namespace TfS
open PySem.W PySem.Calls PyProof.Rows PySem.HandSPX
def iA (n : Str) (p1 p2 : Pos) : Arguments := { posonlyargs := [], args := [{ arg := "self", annotation := none, pos := p1 }, { arg := n, annotation := none, pos := p2 }], vararg := none, kwonlyargs := [], kw_defaults := [], kwarg := none, defaults := [] }
def sB (n : Str) (q1 q2 q3 q4 q5 q6 : Pos) : Stmt := .Expr (.Call (.Attribute (.Call (.Name "super" q1) [] [] q2) "__init__" q3) [.Name n q4] [] q5) q6
def cB (n : Str) (q1 q2 q3 q4 q5 : Pos) : Expr := .Call (.Attribute (.Call (.Name "super" q1) [] [] q2) "__init__" q3) [.Name n q4] [] q5
def iS (n : Str) : Scope := { kind := .function, names := [(PySem.Str.ofString "self", .local), (n, .local), (PySem.Str.ofString "__class__", .free), (PySem.Str.ofString "super", .globalImplicit)], isGenerator := false, isCoroutine := false, more := [] }
/-- the written part says: x is an error class at C over the built-in B; its __init__, of the class at D, is at fI: super().__init__(n), then rest -/
structure SupTxt (prog : Program) (K : Frag) (mg : Str → Option Value) (Bn newId B initId : String) (x n qual : Str) (rest : List Stmt) (C D fI : Addr) : Prop where
  gC : mg x = some (.ref C)
  cls : ∃ nm q N bs bm sn sub ab col dd k0 k1 k2 k3 k5, K.lookup C = some (excClassObj nm q C N bs bm true sn sub ab col dd k0 k1 k2 k3 k5 newId) ∧ PySem.TfKE.LineOk Bn (Value.ref C :: bm)
  iC : findIn K (.ref C) "__init__" = some (some (.ref fI))
  tC : typeIn K (.ref fI) = some (.type "function")
  kC : keepIn K (.ref C) = true
  exC : subIn K (.ref C) (.type "BaseException") = some true
  tyC : typeIn K (.ref C) = some (.type "type")
  suB : subIn K (.ref C) (.type B) = some true
  sup : ks_superIn K C D "__init__" = some (some (.builtin initId))
  opq : nsIn K cStatics "thirdparty.any" = some none
  fn : ∃ (oc : Value) (od : Option Addr) (doc pm : Value) (an : Option Addr) (cda : Addr) (ct : Value) (osl : Array (Option Value)) (p1 p2 q1 q2 q3 q4 q5 q6 : Pos) (cc : Addr) (ccl : Value) (cdd : Option Addr) (vs : Array Value) (ccs : Array (Option Value)) (file : Str) (tf : Tok) (cl : Value) (cld : Option Addr) (csl : Array (Option Value)),
    K.lookup fI = some ⟨oc, od, .func (ksFn "__init__" qual (iA n p1 p2) (sB n q1 q2 q3 q4 q5 q6 :: rest) (iS n) .none .none doc pm an (.ref cda) ct cc), osl⟩ ∧ codeIn K (.ref cda) qual = true ∧
    K.lookup cda = some ⟨ccl, cdd, .fields vs, ccs⟩ ∧ vs[2]? = some (.str file tf) ∧ ((prog.main.file : Str) == file) = true ∧ K.lookup cc = some ⟨cl, cld, .cell (some (.ref D)), csl⟩ ∧
    ∀ env : Env, ∃ pl : Sem Bool, eval (cB n q1 q2 q3 q4 q5) env = (do
      let ov ← attributeBase (.Call (.Name "super" q1) [] [] q2) "__init__" env (eval (.Call (.Name "super" q1) [] [] q2) env)
      standAt q3.atName
      let (f, first) ← holding [ov] (getMethod ov "__init__" pl)
      callWith q5 f first (backTo q5 (starEach [.Name n q4] env)) [])
  clD : ∃ cdD, clsIn K D = some cdD
  inD : mroIn K C (.ref D) = some true
  noS : mg "super" = none
  topS : (prog.main.scope.names.lookup ("super" : Str)).isSome = false
/-- the module's names, in a heap -/
def Glb (mg : Str → Option Value) (h : Heap) : Prop := h.Ns mainGlobals mg ∧ ∃ mb, h.Ns builtinsNs mb ∧ ∀ x : Str, x ≠ "__name__" → mb x = bootBuiltins x
section
variable {prog : Program} {w : World} {A : Around} {E : Value → Shared → Prop} {R : Result → Shared → Prop} {s : Shared} {K : Frag} {mg : Str → Option Value} {Bn newId B initId initN : String} {bmN : List Value} {x n qual : Str} {rest : List Stmt} {C D fI : Addr}
theorem init_of {bmB : List Value} (F : ExcBaseFacts B newId initId bmB) : PySem.TfKE.InitF B initId := ⟨F.noStar, F.initKind, F.initRow, F.init.plain, F.initEntry⟩
theorem chk_init {M : Model} {nm q : Str} {N e : Addr} {oe : Obj} {bs bm : List Value} {hdct : Bool} {sn : List Str} {sub : List Value} {ab : Bool} {col : Option Bool} {dd : Option Addr} {k0 k1 k2 k3 k5 : Option Value} {vs : List Value} {Q : Unit → Shared → Prop} {h : Heap} {g : Array GenState} {d : Drawn} {t : Nat} {os : OsState}
    (F : PySem.TfKE.InitF B initId) (hC : h.get? C = some (excClassObj nm q C N bs bm hdct sn sub ab col dd k0 k1 k2 k3 k5 newId)) (he : h.get? e = some oe) (hc : oe.cls = .ref C) (hq : Q () ⟨h, g, d, t, os⟩) : wpAny M A (checkBoundCall initId ⟨.ref e :: vs, []⟩) Q E ⟨h, g, d, t, os⟩ := by
  have short := F.noStar
  simp only [checkBoundCall, F.initKind, F.initRow]
  repeat first | (with_reducible refine wpAny_loadPart_at he ?_; rw [hc]) | (with_reducible refine wpAny_loadPart_at hC ?_) | wp_step
  apply wpAny_onRaise
  have c : ∀ (a b : String) (n : Nat), Bind.check ⟨.positional, "*", B, .self, [⟨"args", .varPos, false⟩]⟩ a b n (List.map (fun x => x.fst) ({ pos := Value.ref e :: vs } : Args).kw) = pure () := fun a b n => check_star_args _ _ _ _ _ _
  rw [c]
  exact wpAny_pure hq
/-- the bound built-in __init__, called -/
theorem bw_call {u e t0 : Addr} {vs : List Value} {Q : Value → Shared → Prop} {h : Heap} {g : Array GenState} {d : Drawn} {t : Nat} {os : OsState} {nm q : Str} {N : Addr} {bs bm : List Value} {sn : List Str} {sub : List Value} {ab : Bool} {col : Option Bool} {dd : Option Addr} {k0 k1 k2 k3 k5 : Option Value}
    (FB : PySem.TfKE.InitF B initId) (hC : h.get? C = some (excClassObj nm q C N bs bm true sn sub ab col dd k0 k1 k2 k3 k5 newId)) (he : h.get? e = some (excO C t0)) (hu : h.get? u = some (kxs_mw initId e)) (hz : vs.length ≤ sizeLine)
    (hq : ∀ h' t1, (∀ b o, b ≠ e → h.get? b = some o → h'.get? b = some o) → h'.get? e = some (excO C t1) → Q .none ⟨h', g, d, t, os⟩) :
    wpAny (model prog w) A (call (.ref u) vs) Q E ⟨h, g, d, t, os⟩ := by
  refine wpAny_call (codeAny_of_tree ?_)
  show wpAny _ A.in1 (callAny (.ref u) ⟨vs, []⟩) _ _ _
  simp only [callAny]
  refine wpAny_bind (wpAny_load hu ?_)
  simp only [kxs_mw, show (Value.type "method-wrapper" == Value.type "method" || Value.type "method-wrapper" == Value.type "builtin_function_or_method" || Value.type "method-wrapper" == Value.type "method-wrapper") = true by decide, if_true]
  refine W.KFB.if_so (by decide) ?_
  refine wpAny_bind (chk_init FB hC he rfl ?_)
  refine wpAny_bind (wpAny_pure (wpAny_pure ?_))
  refine ⟨plainId_quiet FB.plain _, codeAny_builtin FB.initEntry ?_⟩
  exact exc_init_tree (cls := .ref C) (t0 := t0) (dv := none) (c2 := .none) (c3 := .none) (b4 := .bool false) he hz fun h' k e' _ => hq h' _ k e'
/-- __init__ of such a class, at a fresh error -/
theorem sup_init (KF : KxsFacts B initId) (FB : PySem.TfKE.InitF B initId) (T : SupTxt prog K mg Bn newId B initId x n qual rest C D fI) (l2 : (iS n).names.lookup n = some .local) (l3 : (iS n).names.lookup ("__class__" : Str) = some .free) (l4 : (iS n).names.lookup ("super" : Str) = some .globalImplicit) (hnd : (n == ("__debug__" : Str)) = false) (hns : (n == ("self" : Str)) = false)
    (hbd : ∀ (q : Str) (p1 p2 : Pos) (b : List Stmt) (doc pm : Value) (an : Option Addr) (cdv ct : Value) (cc : Addr) (e v : Value), bindArgs (ksFn "__init__" q (iA n p1 p2) b (iS n) .none .none doc pm an cdv ct cc) ⟨[e, v], []⟩ = pure [(("self" : Str), e), (n, v)])
    {e t0 : Addr} {v : Value} (X : K.In s.heap) (G : Glb mg s.heap) (hlim : s.heap.NoLimit) (hx : s.heap.get? e = some (excO C t0)) (hnx : K.lookup e = none) (hroom : A.depth < recursionLimit)
    (hq : ∀ (env : Env) (h' : Heap) (tk : Nat) (t1 : Addr) (m : Str → Option Value) (c : Code), (∀ b o, b ≠ e → s.heap.get? b = some o → h'.get? b = some o) → h'.get? e = some (excO C t1) → h'.Ns env.locals m → m "self" = some (.ref e) → m n = some v → env.scope = iS n → s.heap.objs.size ≤ env.locals →
      PySem.wpAt (model prog w) (A.deeper env) c (execs rest env) (fun f s' => R (.ok (.ret (match f with | .ret v => v | _ => .none))) s')
        (fun e s' => wpAny (model prog w) (A.deeper env) (leaving env e) (fun _ s'' => R (.error e) s'') (fun e' s'' => R (.error e') s'') s') { s with heap := h', toks := tk }) :
    codeAny (model prog w) A (.call (.ref fI) ⟨[.ref e, v], []⟩) R s := by
  obtain ⟨oc, od, doc, pm, an, cda, ct, osl, p1, p2, q1, q2, q3, q4, q5, q6, cc, ccl, cdd, vs, ccs, file, tf, cl, cld, csl, ho, hcd, hcode, hvs, hfile, hcell, hev⟩ := T.fn
  obtain ⟨nm, q, N, bs, bm, sn, sub, ab, col, dd, k0, k1, k2, k3, k5, hC, hT⟩ := T.cls
  obtain ⟨cdD, hD⟩ := T.clD
  obtain ⟨hg, mb, hb, hmb⟩ := G
  obtain ⟨hh, g, d, t, os⟩ := s
  have hcl : clsIn K C = some { name := nm, bases := bs, mro := .ref C :: bm, ns := N, qualname := q, hasDict := true, slotNames := sn, subclasses := sub, abstract := ab, collection := col, hasDel := false } := by unfold clsIn; rw [hC] <;> rfl
  have l1 : (iS n).names.lookup ("self" : Str) = some .local := rfl
  refine ks_codeAny_call_defAt (fd := ksFn "__init__" qual (iA n p1 p2) (sB n q1 q2 q3 q4 q5 q6 :: rest) (iS n) .none .none doc pm an (.ref cda) ct cc) (body := sB n q1 q2 q3 q4 q5 q6 :: rest) (binds := [("self", .ref e), (n, v)]) hroom (X _ _ ho) rfl hlim (codeRec_of X hcd) rfl
    (BindsTo.of_eq (hbd _ _ _ _ _ _ _ _ _ _ _ _)) ?_ ?_ (fun h₁ hn1 hk₁ => ?_) rfl rfl rfl
  · intro y hy
    simp only [iS, List.mem_cons, List.not_mem_nil, or_false] at hy
    rcases hy with rfl | rfl | rfl | rfl <;> exact fun z => nomatch z
  · intro y hy
    simp only [List.mem_cons, List.not_mem_nil, or_false] at hy
    rcases hy with rfl | rfl
    · exact l1
    · exact l2
  have hk₁' : ∀ b o, hh.get? b = some o → h₁.get? b = some o := hk₁
  have X1 : K.In h₁ := X.keeps hk₁'
  have hx1 := hk₁' _ _ hx
  have eL : hh.objs.size ≠ e := Nat.ne_of_gt (Heap.lt_size hx)
  have mself : ([("self", Value.ref e), (n, v)] : List (Str × Value)).reverse.lookup ("self" : Str) = some (.ref e) := by
    show (match ("self" : Str) == n with | true => _ | false => _) = _
    have : (("self" : Str) == n) = false := by
      simp only [beq_eq_false_iff_ne, ne_eq] at hns ⊢
      exact fun z => hns z.symm
    rw [this]
    rfl
  have mn : ([("self", Value.ref e), (n, v)] : List (Str × Value)).reverse.lookup n = some v := by
    show (match n == n with | true => _ | false => _) = _
    simp
  have ICe : InstAt h₁ e (excO C t0) C none := ⟨hx1, rfl, rfl, trivial⟩
  obtain ⟨pl, hev⟩ := hev (callEnv (ksFn "__init__" qual (iA n p1 p2) (sB n q1 q2 q3 q4 q5 q6 :: rest) (iS n) .none .none doc pm an (.ref cda) ct cc) hh.objs.size fI)
  refine ks_wpAt_execs_cons (ks_wpAt_Expr_any (ks_wpAt_MethodCall (pl := pl) ?_ hev))
  refine ks_wpAt_super_base (env := ksEnv qual (iS n) hh.objs.size fI (.ref cda) cc) l4 l3 (by decide +kernel) rfl (X1 _ _ ho) rfl (ar := { arg := "self", annotation := none, pos := p1 }) rfl rfl (X1 _ _ hcode) rfl hvs hfile T.topS ?_
  refine ks_loadName_global rfl l4 (loadGlobal_builtin (env := ksEnv qual (iS n) hh.objs.size fI (.ref cda) cc) (hg.keeps hk₁') T.noS (hb.keeps hk₁') ((hmb _ (by decide +kernel)).trans (by decide +kernel)) ⟨rfl, ?_⟩)
  refine wpAny_loadName_free rfl l3 rfl ⟨_, X1 _ _ hcell, rfl⟩ ?_
  refine wpAny_loadName_local rfl l1 hn1 mself ?_
  obtain ⟨oD, hD1, hD2⟩ : ∃ oD, h₁.get? D = some oD ∧ oD.data = .cls cdD := by
    unfold clsIn at hD
    split at hD
    · rename_i c d cd' sl ho
      cases hD
      exact ⟨_, X1 _ _ ho, rfl⟩
    · cases hD
  refine ks_wpAny_isType_cls hD1 hD2 ⟨rfl, ?_⟩
  refine ks_wpAny_call_super hD1 hD2 hx1 rfl (fun c z => nomatch z) (looks_mroIn X1 T.inD) (fun h2 e2 k2 => ?_)
  -- the bound __init__
  have X2 : K.In h2 := X1.keeps k2
  have hsup := T.sup
  unfold ks_superIn at hsup
  rw [hcl] at hsup
  have ICe2 : InstAt h2 e (excO C t0) C none := ⟨k2 _ _ hx1, rfl, rfl, trivial⟩
  refine kxs_getMethod KF e2 (looks_opaque X2 T.opq) (l₀ := .ref C :: bm) ?_ rfl X2 hsup (ICe2.type.andThen (looks_subIn X2 T.suB)) (ks_ne X2 ICe2 hcl) (by decide +kernel) ?_
  · exact fun A Q E s k q => wpAny_bind ((looks_clsIn X2 hcl) A _ E s k (wpAny_pure q))
  have k3 : ∀ b o, h2.get? b = some o → (h2.push (kxs_mw initId e)).get? b = some o := fun b o z => Heap.get?_push_of_some _ z
  have hu : (h2.push (kxs_mw initId e)).get? h2.objs.size = some (kxs_mw initId e) := Heap.get?_push_at rfl rfl
  refine kxs_callWith (i := initId) (x := e) rfl ?_
  refine evalArgs_plain (spliced_cons ?_)
  have hn3 : (h2.push (kxs_mw initId e)).Ns hh.objs.size (fun y => ([("self", Value.ref e), (n, v)] : List (Str × Value)).reverse.lookup y) := hn1.keeps fun b o z => k3 b o (k2 b o z)
  refine wpAny_Name (wpAny_loadName_local rfl l2 hn3 mn (spliced_nil ⟨hu, ?_⟩)) hnd
  refine bw_call FB (k3 _ _ (k2 _ _ (X1 _ _ hC))) (k3 _ _ (k2 _ _ hx1)) hu (by show 1 ≤ sizeLine; rw [sizeLine_eq]; omega) fun h4 t1 k4 e4 => ?_
  refine hq (ksEnv qual (iS n) hh.objs.size fI (.ref cda) cc) h4 _ t1 (fun y => ([("self", Value.ref e), (n, v)] : List (Str × Value)).reverse.lookup y) _ (fun b o hb z => k4 b o hb (k3 b o (k2 b o (hk₁' b o z)))) e4 ?_ mself mn rfl (Nat.le_refl _)
  obtain ⟨oL, es, ep, hL, r⟩ := hn3
  exact ⟨oL, es, ep, k4 _ _ eL hL, r⟩
/-- C(v), nothing behind super().__init__ -/
theorem sup_made (KF : KxsFacts B initId) (FB : PySem.TfKE.InitF B initId) (FN : ExcBaseFacts Bn newId initN bmN) (T : SupTxt prog K mg Bn newId B initId x n qual [] C D fI) (l2 : (iS n).names.lookup n = some .local) (l3 : (iS n).names.lookup ("__class__" : Str) = some .free) (l4 : (iS n).names.lookup ("super" : Str) = some .globalImplicit) (hnd : (n == ("__debug__" : Str)) = false) (hns : (n == ("self" : Str)) = false)
    (hbd : ∀ (q : Str) (p1 p2 : Pos) (b : List Stmt) (doc pm : Value) (an : Option Addr) (cdv ct : Value) (cc : Addr) (e v : Value), bindArgs (ksFn "__init__" q (iA n p1 p2) b (iS n) .none .none doc pm an cdv ct cc) ⟨[e, v], []⟩ = pure [(("self" : Str), e), (n, v)])
    {v : Value} (X : K.In s.heap) (G : Glb mg s.heap) (hlim : s.heap.NoLimit) (hroom : A.depth + 1 < recursionLimit)
    (hq : ∀ h' tk e t1, (∀ b o, s.heap.get? b = some o → h'.get? b = some o) → s.heap.objs.size ≤ e → h'.get? e = some (excO C t1) → R (.ok (.ret (.ref e))) { s with heap := h', toks := tk }) :
    codeAny (model prog w) A (.call (.ref C) ⟨[v], []⟩) R s := by
  obtain ⟨nm, q, N, bs, bm, sn, sub, ab, col, dd, k0, k1, k2, k3, k5, hC, hT⟩ := T.cls
  obtain ⟨hp, g, dr, tk, os⟩ := s
  have k : ∀ b o, hp.get? b = some o → ((hp.push (kdv_tup [v])).push (excO C hp.objs.size)).get? b = some o := fun b o e => Heap.get?_push_of_some _ (Heap.get?_push_of_some _ e)
  have hget : ((hp.push (kdv_tup [v])).push (excO C hp.objs.size)).get? (hp.objs.size + 1) = some (excO C hp.objs.size) := by heap_get
  have hnx : K.lookup (hp.objs.size + 1) = none := by
    cases e : K.lookup (hp.objs.size + 1) with
    | none => rfl
    | some o =>
      have z : hp.get? (hp.objs.size + 1) = some o := X _ _ e
      exact absurd (Nat.lt_of_succ_lt (Heap.lt_size z)) (Nat.lt_irrefl _)
  refine PySem.TfKE.call_any FN hT (X _ _ hC) (looks_findIn X T.iC) (fun self => bind_fn X self T.tC) (by show 1 ≤ sizeLine; rw [sizeLine_eq]; omega) ?_
  obtain ⟨hg, mb, hb, hmb⟩ := G
  refine sup_init (s := ⟨(hp.push (kdv_tup [v])).push (excO C hp.objs.size), g, dr, tk, os⟩) KF FB T l2 l3 l4 hnd hns hbd (X.keeps k) ⟨hg.keeps k, mb, hb.keeps k, hmb⟩ (hlim.keeps k) hget hnx ?_ fun env h' tk' t1 m c k' hx hn' ms mn es le => ?_
  · show A.depth + 1 < recursionLimit
    exact hroom
  · refine wpAt_of_wpAny (wpAny_execs_nil ?_)
    have old : ∀ b o, hp.get? b = some o → h'.get? b = some o := fun b o e => k' b o (Nat.ne_of_lt (Nat.lt_succ_of_lt (Heap.lt_size e))) (k b o e)
    exact ⟨rfl, hq h' tk' (hp.objs.size + 1) t1 old (Nat.le_succ _) hx⟩
end
end TfS
end PySem
namespace L2
open PySem PySem.Spec PyProof.Rows
section
variable {X : Cx} {Bn newId B initId initN : String} {bmN : List Value} {x n qual : Str} {C D fI : Addr}
theorem Inv.glb {pins : List (Addr × Obj)} {σ : St} {H : Hp} {s : Shared} (I : Inv X pins σ H s) : PySem.TfS.Glb X.mg s.heap := by
  obtain ⟨mb, hb, hm⟩ := I.ok.mod.blt
  exact ⟨I.ok.mod.glob.keeps I.bk, mb, hb.keeps I.bk, hm⟩
/-- x(a): a new error of the class at C, without a dict of its own -/
def tMkS (C : Addr) (ta : TA) : St → Hp → XK → Prop := fun σ H Q => ta σ H fun vs H1 => ∃ v, vs = [v] ∧ Q (.ref C) none H1
theorem pmk_sup {a : Expr} {ta : TA} {p pos : Pos} {k : Nat} (KF : PySem.W.KxsFacts B initId) (FB : PySem.TfKE.InitF B initId) (FN : ExcBaseFacts Bn newId initN bmN) (T : PySem.TfS.SupTxt X.prog X.K X.mg Bn newId B initId x n qual [] C D fI) (hr : Room k X.A) (ha : PA X [a] ta)
    (l2 : (PySem.TfS.iS n).names.lookup n = some .local) (l3 : (PySem.TfS.iS n).names.lookup ("__class__" : Str) = some .free) (l4 : (PySem.TfS.iS n).names.lookup ("super" : Str) = some .globalImplicit) (hnd : (n == ("__debug__" : Str)) = false) (hns : (n == ("self" : Str)) = false)
    (hbd : ∀ (q : Str) (p1 p2 : Pos) (b : List Stmt) (doc pm : Value) (an : Option Addr) (cdv ct : Value) (cc : Addr) (e v : Value), bindArgs (PySem.W.ksFn "__init__" q (PySem.TfS.iA n p1 p2) b (PySem.TfS.iS n) .none .none doc pm an cdv ct cc) ⟨[e, v], []⟩ = pure [(("self" : Str), e), (n, v)])
    (hg : Gl X x := by rfl) (hdb : (x == ("__debug__" : Str)) = false := by decide)
    (he : starEach (a :: []) X.env = (false, eval a X.env) :: starEach [] X.env := by rfl) (hpl : (backTo pos (starEach [] X.env)).any (·.1) = false := by rfl) :
    PMk X (.Call (.Name x p) [a] [] pos) (tMkS C ta) := by
  intro pins s σ H Q I h
  refine wpAny_Call_Name_kw (ld_glob I hg T.gC ?_ hdb)
  refine PySem.W.callWith_K (h₀ := X.base) I.ok.mod.kin T.kC (thn (ha.run pos pins s σ H _ I h) fun us s1 hh => ?_) he hpl
  obtain ⟨vs, H1, I1, r1, v, ev, q1⟩ := hh
  subst ev
  refine ⟨I1.kIn, ?_⟩
  cases r1 with
  | cons rv rn =>
    rename_i v' us'
    cases rn
    show wpAny _ _ (call (.ref C) [v']) _ _ _
    have hlim := I1.nolimit
    refine wpAny_call (PySem.TfS.sup_made KF FB FN T l2 l3 l4 hnd hns hbd I1.kIn I1.glb hlim (by have := hr.dp; omega) fun h' tk' e t1 kp new he' => ?_)
    show MkP X pins σ Q (.ref e) _
    exact ⟨e, _, _, s1, H1, .ref C, none, rfl, I1, kp, Heap.get?_none_of_le new, he', ⟨rfl, rfl⟩, rfl, rfl, I1.hok.fresh new, rfl, I1.bare, raises_own T.exC T.tyC, q1⟩
end
end L2

/-! errors whose context is known to be None (L2N) -/
namespace L2N
open PySem PySem.Spec PyProof.Rows L2
theorem takes0 {X : Cx} : L2N.Takes X (fun _ _ _ _ => False) := fun _ _ x => by
  obtain ⟨_, _, _, _, _, _, _, _, _, _, _, _, _, _, _, _, z⟩ := x
  exact z.elim
end L2N
namespace L2
open PySem PySem.Spec PyProof.Rows
theorem cxUpN {P : Program} {w : World} : StX.CXUp (L2N.CX P w) := by
  intro outer s H s2 H2 E e s' un kp ho c
  obtain ⟨a, B, H', cls, d, ea, fl, hok, ub, r⟩ := c
  obtain ⟨c1, c2, c3, c4⟩ := r
  refine ⟨a, B, H', cls, d, ea, fl, hok, ?_, c1, c2.trans ho, c3, c4⟩
  constructor
  · exact fun b o q n hb => ub.keep b o (kp b o q) (un.free b o q n List.not_mem_nil) hb
  · exact fun b o q hb => ub.slot b o (kp b o q) hb
  · exact fun b o q n => ub.free b o (kp b o q) (un.free b o q n List.not_mem_nil)
  · exact fun b o q hb => ub.there b o (kp b o q) hb
  · exact fun b xs q => ub.tups b xs (un.tups b xs q)
  · exact fun b o xs q => ub.frzs b o xs (un.frzs b o xs q)
  · intro b ps q
    obtain ⟨m1, e1⟩ := un.tbls b ps q
    obtain ⟨m2, e2⟩ := ub.tbls b _ e1
    exact ⟨m1 ++ m2, by rw [e2, Array.append_assoc]⟩
theorem Fun.okN {P : Program} {w : World} {K : PySem.W.Frag} {mg : Str → Option Value} {base : Heap} {x qual : Str} {st : Stmt} {f : Addr} {fd : FuncData} {N ps : List Str} {k : Nat} {sp : Sp} (F : Fun K x qual st f fd) (S : FnScope N ps (defScope st)) (len : ∀ vs H Q E, sp vs H Q E → vs.length = ps.length)
    (body : ∀ (cdv : Value) (A : Around) (outer : List Env) (s : Shared) (H : Hp) (vs : List V) (Q : VK) (E : XK), Room k (A.deeper (envOfC qual (defScope st) s.heap.objs.size f cdv)) → sp vs H Q E → ∃ t, PSs (cxOf (L2N.CX P w) P w K mg base N qual (defScope st) f cdv A outer s H E) (defBody st) t ∧ t { nx := fun _ H' => Q .non H', rt := Q } (start N vs) H) : FnOk P w K mg base (L2N.CX P w) (k + 1) f fd ps sp := by
  obtain ⟨oc, od, kV, doc, pm, an, cdv, ct, osl, rfl, lk, hcd⟩ := F.ex
  exact fn_of lk hcd S len (body cdv)
section
variable {X : Cx} {Bn newId B initId initN : String} {bmN : List Value} {x n qual : Str} {C D fI : Addr}
theorem pmk_supN {a : Expr} {ta : TA} {p pos : Pos} {k : Nat} (KF : PySem.W.KxsFacts B initId) (FB : PySem.TfKE.InitF B initId) (FN : ExcBaseFacts Bn newId initN bmN) (T : PySem.TfS.SupTxt X.prog X.K X.mg Bn newId B initId x n qual [] C D fI) (hr : Room k X.A) (ha : PA X [a] ta)
    (l2 : (PySem.TfS.iS n).names.lookup n = some .local) (l3 : (PySem.TfS.iS n).names.lookup ("__class__" : Str) = some .free) (l4 : (PySem.TfS.iS n).names.lookup ("super" : Str) = some .globalImplicit) (hnd : (n == ("__debug__" : Str)) = false) (hns : (n == ("self" : Str)) = false)
    (hbd : ∀ (q : Str) (p1 p2 : Pos) (b : List Stmt) (doc pm : Value) (an : Option Addr) (cdv ct : Value) (cc : Addr) (e v : Value), bindArgs (PySem.W.ksFn "__init__" q (PySem.TfS.iA n p1 p2) b (PySem.TfS.iS n) .none .none doc pm an cdv ct cc) ⟨[e, v], []⟩ = pure [(("self" : Str), e), (n, v)])
    (hg : Gl X x := by rfl) (hdb : (x == ("__debug__" : Str)) = false := by decide)
    (he : starEach (a :: []) X.env = (false, eval a X.env) :: starEach [] X.env := by rfl) (hpl : (backTo pos (starEach [] X.env)).any (·.1) = false := by rfl) :
    L2N.PMk X (.Call (.Name x p) [a] [] pos) (tMkS C ta) := by
  intro pins s σ H Q I h
  refine wpAny_Call_Name_kw (ld_glob I hg T.gC ?_ hdb)
  refine PySem.W.callWith_K (h₀ := X.base) I.ok.mod.kin T.kC (thn (ha.run pos pins s σ H _ I h) fun us s1 hh => ?_) he hpl
  obtain ⟨vs, H1, I1, r1, v, ev, q1⟩ := hh
  subst ev
  refine ⟨I1.kIn, ?_⟩
  cases r1 with
  | cons rv rn =>
    rename_i v' us'
    cases rn
    show wpAny _ _ (call (.ref C) [v']) _ _ _
    have hlim := I1.nolimit
    refine wpAny_call (PySem.TfS.sup_made KF FB FN T l2 l3 l4 hnd hns hbd I1.kIn I1.glb hlim (by have := hr.dp; omega) fun h' tk' e t1 kp new he' => ?_)
    show L2N.MkP X pins σ Q (.ref e) _
    refine ⟨e, _, _, s1, H1, .ref C, none, rfl, I1, kp, Heap.get?_none_of_le new, he', ⟨rfl, rfl, fun vs e => ?_⟩, rfl, rfl, I1.hok.fresh new, rfl, I1.bare, raises_own T.exC T.tyC, q1⟩
    cases e
    rfl
end
end L2

/-! self.f = v on a new error of any line of classes -/
namespace PySem
namespace TfSF
open PySem.W PySem.Calls PyProof.Rows PySem.HandSPX Builtin Builtin.ObjectAttr
/-- what __init__ leaves of a fresh error at x -/
structure InitEnd (h h' : Heap) (x C dx : Addr) (f : Str) (v : Value) : Prop where
  keep : ∀ b o, b ≠ x → h.get? b = some o → h'.get? b = some o
  obj : ∃ t1 : Addr, h'.get? x = some { cls := .ref C, dict := some dx, data := .fields #[.ref t1, .none, .none, .none, .bool false, .none] }
  dbig : h.objs.size ≤ dx
  dne : dx ≠ x
  ns : h'.Ns1 dx (fun y => if y = f then some v else none)
section
variable {prog : Program} {w : World} {A : Around} {R : Result → Shared → Prop} {hp : Heap} {g : Array GenState} {d : Drawn} {t : Nat} {os : OsState} {K : Frag} {name : Str} {tk : Tok} {v : Value} {x C : Addr} {fv : Array Value} {cd : ClassData} {l : List Value}
theorem osa_line (X : K.In hp) (hx : hp.get? x = some { cls := .ref C, data := .fields fv }) (hcd : clsIn K C = some cd) (hm : cd.mro = .ref C :: l) (hp0 : ∀ self : Value, refuseLoop self "__setattr__" l = pure ()) (ho : mroIn K C (.type "object") = some true) (hh : cd.hasDict = true) (ha : findIn K (.ref C) name = some none)
    (hq : ∀ h' tk' dx, (∀ b o, b ≠ x → hp.get? b = some o → h'.get? b = some o) → hp.objs.size ≤ dx → dx ≠ x → h'.get? x = some { cls := .ref C, dict := some dx, data := .fields fv } →
      h'.Ns1 dx (fun y => if y = name then some v else none) → R (.ok (.ret .none)) ⟨h', g, d, tk', os⟩) :
    codeAny (model prog w) A (.call (.builtin "object.__setattr__") ⟨[.ref x, .str name tk, v], []⟩) R ⟨hp, g, d, t, os⟩ := by
  have I : InstAt hp x { cls := .ref C, data := .fields fv } C none := ⟨hx, rfl, rfl, trivial⟩
  have far : x ≠ hp.objs.size := Nat.ne_of_lt (Heap.lt_size hx)
  have SF := PySem.F.store_object
  have isObj : Looks (model prog w) hp (isInstance (.ref x) (.type "object")) true := I.type.andThen (looks_mroIn X ho)
  have line : Looks (model prog w) hp (mroOf (.ref C)) cd.mro := (looks_clsIn X hcd).andThen .now
  have pass : refuseLoop (.ref x) "__setattr__" cd.mro = pure () := by
    rw [hm, refuseLoop_ref]
    exact hp0 _
  have none3 : Looks (model prog w) hp (storeTaker? none) none := .now
  have data : Looks (model prog w) hp (classData C) cd := looks_clsIn X hcd
  refine codeAny_call_builtin SF.slot.plain SF.entry (@check_slot (model prog w) _ _ ⟨hp, g, d, t, os⟩ "object.__setattr__" "object" "__setattr__" (.ref x) [.str name tk, v] [] _ SF.kind SF.split isObj (SF.args (.ref x) (.str name tk) v) ?_)
  rw [osa_eq, refuse_eq]
  refine wpAny_bind (wpAny_bind (I.type.at (wpAny_bind (line.at ?_))))
  rw [pass]
  refine wpAny_pure (wpAny_bind (I.type.at (wpAny_bind ((looks_findIn X ha).at (wpAny_bind (none3.at ?_))))))
  obtain ⟨nm, bs, mro, ns, qn, hd, sn, sb, ab, col, del⟩ := cd
  dsimp only at hh
  subst hh
  unfold storeInOwnDict ownDictForStores
  repeat first | (with_reducible refine store_in_new ?_ ?_) | (with_reducible refine wpAny_loadPart_at hx ?_) | (with_reducible refine data.at ?_) | wp_step
  · exact ⟨_, #[], _, (Heap.get?_update_ne _ _ _ _ far.symm).trans (Heap.get?_push_at rfl rfl), rfl, fun e he => absurd he (by simp), fun _ => rfl⟩
  · intro h' tk' hn' hs
    have hx1 : (hp.push { cls := .type "dict", data := .dict #[] }).get? x = some { cls := .ref C, data := .fields fv } := Heap.get?_push_of_some _ hx
    refine hq h' tk' hp.objs.size (fun b o hb z => ?_) (Nat.le_refl _) far.symm ?_ hn'
    · exact (hs.2 b (Nat.ne_of_lt (Heap.lt_size z))).trans ((Heap.get?_update_ne _ _ _ _ hb).trans (Heap.get?_push_of_some _ z))
    · exact (hs.2 x far).trans (Heap.get?_update_self _ hx1 rfl)
end
end TfSF
end PySem

/-! an error whose __init__ says super().__init__(n) and self.f = n -/
namespace PySem
namespace TfSF
open PySem.W PySem.Calls PyProof.Rows PySem.HandSPX PySem.TfS
def fB (n f : Str) (r1 r2 r3 r4 : Pos) : Stmt := .Assign [.Attribute (.Name "self" r1) f r2] (.Name n r3) r4
/-- what besides is asked of the class at C -/
structure FldTxt (K : Frag) (C : Addr) (f : Str) : Prop where
  sa : findIn K (.ref C) "__setattr__" = some (some (.builtin "object.__setattr__"))
  noF : findIn K (.ref C) f = some none
  ob : mroIn K C (.type "object") = some true
  ln : ∃ cd l, clsIn K C = some cd ∧ cd.mro = .ref C :: l ∧ (∀ self : Value, refuseLoop self "__setattr__" l = pure ()) ∧ cd.hasDict = true
/-- a made one -/
structure FldMade (h h' : Heap) (e C d : Addr) (f : Str) (v : Value) : Prop where
  keep : ∀ b o, h.get? b = some o → h'.get? b = some o
  new : h.objs.size ≤ e
  obj : ∃ oe vs, h'.get? e = some oe ∧ oe.cls = .ref C ∧ oe.dict = some d ∧ oe.data = .fields vs ∧ vs[1]? = some .none
  dbig : h.objs.size ≤ d
  dne : d ≠ e
  ns : h'.Ns1 d (fun y => if y = f then some v else none)
section
variable {prog : Program} {w : World} {A : Around} {R : Result → Shared → Prop} {s : Shared} {K : Frag} {mg : Str → Option Value} {Bn newId B initId initN : String} {bmN : List Value} {x n qual f : Str} {C D fI : Addr} {r1 r2 r3 r4 : Pos}
theorem made_field (KF : KxsFacts B initId) (FB : PySem.TfKE.InitF B initId) (FN : ExcBaseFacts Bn newId initN bmN) (T : SupTxt prog K mg Bn newId B initId x n qual [fB n f r1 r2 r3 r4] C D fI) (U : FldTxt K C f)
    (l2 : (iS n).names.lookup n = some .local) (l3 : (iS n).names.lookup ("__class__" : Str) = some .free) (l4 : (iS n).names.lookup ("super" : Str) = some .globalImplicit) (hnd : (n == ("__debug__" : Str)) = false) (hns : (n == ("self" : Str)) = false)
    (hbd : ∀ (q : Str) (p1 p2 : Pos) (b : List Stmt) (doc pm : Value) (an : Option Addr) (cdv ct : Value) (cc : Addr) (e v : Value), bindArgs (ksFn "__init__" q (iA n p1 p2) b (iS n) .none .none doc pm an cdv ct cc) ⟨[e, v], []⟩ = pure [(("self" : Str), e), (n, v)])
    {v : Value} (X : K.In s.heap) (G : Glb mg s.heap) (hlim : s.heap.NoLimit) (hroom : A.depth + 1 < recursionLimit)
    (hq : ∀ h' tk e d, FldMade s.heap h' e C d f v → R (.ok (.ret (.ref e))) { s with heap := h', toks := tk }) :
    codeAny (model prog w) A (.call (.ref C) ⟨[v], []⟩) R s := by
  obtain ⟨nm, q, N, bs, bm, sn, sub, ab, col, dd, k0, k1, k2, k3, k5, hC, hT⟩ := T.cls
  obtain ⟨hp, g, dr, tk, os⟩ := s
  have k : ∀ b o, hp.get? b = some o → ((hp.push (kdv_tup [v])).push (excO C hp.objs.size)).get? b = some o := fun b o e => Heap.get?_push_of_some _ (Heap.get?_push_of_some _ e)
  have hget : ((hp.push (kdv_tup [v])).push (excO C hp.objs.size)).get? (hp.objs.size + 1) = some (excO C hp.objs.size) := by heap_get
  have hnx : K.lookup (hp.objs.size + 1) = none := by
    cases e : K.lookup (hp.objs.size + 1) with
    | none => rfl
    | some o =>
      have z : hp.get? (hp.objs.size + 1) = some o := X _ _ e
      exact absurd (Nat.lt_of_succ_lt (Heap.lt_size z)) (Nat.lt_irrefl _)
  refine PySem.TfKE.call_any FN hT (X _ _ hC) (looks_findIn X T.iC) (fun self => bind_fn X self T.tC) (by show 1 ≤ sizeLine; rw [sizeLine_eq]; omega) ?_
  obtain ⟨hg, mb, hb, hmb⟩ := G
  refine sup_init (s := ⟨(hp.push (kdv_tup [v])).push (excO C hp.objs.size), g, dr, tk, os⟩) KF FB T l2 l3 l4 hnd hns hbd (X.keeps k) ⟨hg.keeps k, mb, hb.keeps k, hmb⟩ (hlim.keeps k) hget hnx ?_ fun env h' tk' t1 m c k' hx hn' ms mn es le => ?_
  · show A.depth + 1 < recursionLimit
    exact hroom
  · obtain ⟨cd, l, hcd, hm, pass, hh⟩ := U.ln
    have X1 : K.In h' := fun a o z => k' a o (fun y => by rw [y, hnx] at z; cases z) (X.keeps k a o z)
    have hk : env.scope.kind = .function := by rw [es]; rfl
    have hln : env.kindOf n = some .local := by unfold Env.kindOf; rw [es]; exact l2
    have hls : env.kindOf ("self" : Str) = some .local := by unfold Env.kindOf; rw [es]; rfl
    refine wpAt_of_wpAny (wpAny_execs_cons (plainObj_wpAny_Assign_Attribute ?_))
    refine wpAny_Name (wpAny_loadName_local hk hln hn' mn (wpAny_Name (wpAny_loadName_local hk hls hn' ms ?_) (by decide))) hnd
    refine set_plain X1 (ox := excO C t1) (od := none) ⟨hx, rfl, rfl, trivial⟩ U.sa ?_
    refine osa_line X1 hx hcd hm pass U.ob hh U.noF (fun h3 tk3 dx k3 dn dne hx3 hn3 => ?_)
    show wpAny _ _ (execs _ _) _ _ _
    have big : hp.objs.size ≤ h'.objs.size := by
      have z := hn'.lt
      have z2 : ((hp.push (kdv_tup [v])).push (excO C hp.objs.size)).objs.size ≤ env.locals := le
      rw [Heap.size_push, Heap.size_push] at z2
      exact Nat.le_of_lt (Nat.lt_of_le_of_lt (Nat.le_trans (Nat.le_trans (Nat.le_succ _) (Nat.le_succ _)) z2) z)
    have old : ∀ b o, hp.get? b = some o → h3.get? b = some o := fun b o z => k3 b o (Nat.ne_of_lt (Nat.lt_succ_of_lt (Heap.lt_size z))) (k' b o (Nat.ne_of_lt (Nat.lt_succ_of_lt (Heap.lt_size z))) (k b o z))
    exact wpAny_execs_nil ⟨rfl, hq h3 tk3 (hp.objs.size + 1) dx ⟨old, Nat.le_succ _, ⟨_, _, hx3, rfl, rfl, rfl, rfl⟩, Nat.le_trans big dn, dne, hn3⟩⟩
end
end TfSF
end PySem

/-! the rules for such an error: made, and its field read in an except suite -/
namespace L2
open PySem PySem.Spec PyProof.Rows
theorem relO_one {v : V} {v' : Value} (r : RelV v v') (g f : Str) : RelO (List.lookup f [(g, v)]) (if f = g then some v' else none) := by
  by_cases hw : f = g
  · subst hw
    rw [if_pos rfl]
    have q : List.lookup f [(f, v)] = some v := by simp [List.lookup]
    rw [q]
    exact r
  · rw [if_neg hw]
    have qw : (f == g) = false := by simpa using hw
    have q2 : List.lookup f [(g, v)] = none := by simp [List.lookup, qw]
    rw [q2]
    trivial
section
variable {X : Cx} {Bn newId B initId initN : String} {bmN : List Value} {x n qual f : Str} {C D fI : Addr} {r1 r2 r3 r4 : Pos}
/-- x(a): a new error of the class at C with the dict {f: a} -/
def tMkF (C : Addr) (f : Str) (ta : TA) : St → Hp → XK → Prop := fun σ H Q => ta σ H fun vs H1 => ∃ v, vs = [v] ∧ ∀ d, H1 d = none → Q (.ref C) (some d) (upd H1 d (.xd [(f, v)]))
theorem pmk_field {a : Expr} {ta : TA} {p pos : Pos} {k : Nat} (KF : PySem.W.KxsFacts B initId) (FB : PySem.TfKE.InitF B initId) (FN : ExcBaseFacts Bn newId initN bmN) (T : PySem.TfS.SupTxt X.prog X.K X.mg Bn newId B initId x n qual [PySem.TfSF.fB n f r1 r2 r3 r4] C D fI) (U : PySem.TfSF.FldTxt X.K C f) (hr : Room k X.A) (ha : PA X [a] ta)
    (l2 : (PySem.TfS.iS n).names.lookup n = some .local) (l3 : (PySem.TfS.iS n).names.lookup ("__class__" : Str) = some .free) (l4 : (PySem.TfS.iS n).names.lookup ("super" : Str) = some .globalImplicit) (hnd : (n == ("__debug__" : Str)) = false) (hns : (n == ("self" : Str)) = false)
    (hbd : ∀ (q : Str) (p1 p2 : Pos) (b : List Stmt) (doc pm : Value) (an : Option Addr) (cdv ct : Value) (cc : Addr) (e v : Value), bindArgs (PySem.W.ksFn "__init__" q (PySem.TfS.iA n p1 p2) b (PySem.TfS.iS n) .none .none doc pm an cdv ct cc) ⟨[e, v], []⟩ = pure [(("self" : Str), e), (n, v)])
    (hg : Gl X x := by rfl) (hdb : (x == ("__debug__" : Str)) = false := by decide)
    (he : starEach (a :: []) X.env = (false, eval a X.env) :: starEach [] X.env := by rfl) (hpl : (backTo pos (starEach [] X.env)).any (·.1) = false := by rfl) :
    PMk X (.Call (.Name x p) [a] [] pos) (tMkF C f ta) := by
  intro pins s σ H Q I h
  refine wpAny_Call_Name_kw (ld_glob I hg T.gC ?_ hdb)
  refine PySem.W.callWith_K (h₀ := X.base) I.ok.mod.kin T.kC (thn (ha.run pos pins s σ H _ I h) fun us s1 hh => ?_) he hpl
  obtain ⟨vs, H1, I1, r1, v, ev, q1⟩ := hh
  subst ev
  refine ⟨I1.kIn, ?_⟩
  cases r1 with
  | cons rv rn =>
    rename_i v' us'
    cases rn
    show wpAny _ _ (call (.ref C) [v']) _ _ _
    have hlim := I1.nolimit
    have G := I1.glb
    obtain ⟨hp, g, dr, tk, os⟩ := s1
    refine wpAny_call (PySem.TfSF.made_field KF FB FN T U l2 l3 l4 hnd hns hbd I1.kIn G hlim (by have := hr.dp; omega) fun h' tk' e d M => ?_)
    show MkP X pins σ Q (.ref e) ⟨h', g, dr, tk', os⟩
    obtain ⟨oe, fv, hoe, hc, hd, hdat, h1⟩ := M.obj
    have hns := M.ns
    obtain ⟨G', g1, g2⟩ := restrict h' fun b => decide (b ≠ e)
    have gk : ∀ b, b ≠ e → G'.get? b = h'.get? b := fun b hb => g1 b (decide_eq_true hb)
    have ge : G'.get? e = none := g2 e (by simp)
    have old : ∀ b o, hp.get? b = some o → G'.get? b = some o := fun b o q => (gk b (Nat.ne_of_lt (Nat.lt_of_lt_of_le (Heap.lt_size q) M.new))).trans (M.keep b o q)
    have ob : ObjOk X.prog X.w (upd H1 d (.xd [(f, v)])) G' d (.xd [(f, v)]) := ⟨_, hns.at (fun o q => (gk d M.dne).trans q), fun y => relO_one rv f y⟩
    have J : Inv X pins σ (upd H1 d (.xd [(f, v)])) ⟨G', g, dr, tk', os⟩ := I1.laid (t' := tk') old M.dbig ob
    refine ⟨e, oe, fv, ⟨G', g, dr, tk', os⟩, _, .ref C, some d, rfl, J, fun b o q => ?_, ge, hoe, ⟨hc, hd⟩, hdat, h1, ?_, rfl, I1.bare, raises_own T.exC T.tyC, q1 d (I1.hok.fresh M.dbig)⟩
    · by_cases hb : b = e
      · have q' : G'.get? b = some o := q
        rw [hb, ge] at q'; cases q'
      · exact (gk b hb).symm.trans q
    · rw [upd_ne (Ne.symm M.dne)]
      exact I1.hok.fresh M.new
/-- what reading the field asks of the class -/
structure FldGet (K : PySem.W.Frag) (C : Addr) (f : Str) : Prop where
  ga : PySem.W.findIn K (.ref C) "__getattribute__" = some (some (.builtin "BaseException.__getattribute__"))
  gg : PySem.W.findIn K (.ref C) "__getattr__" = some none
  ex : PySem.W.subIn K (.ref C) (.type "BaseException") = some true
  hd : PySem.W.hasDictIn K C = true
  noF : PySem.W.findIn K (.ref C) f = some none
/-- e.f, e the error that the suite holds (at a; its class cls, its dict d) -/
def tErrF (C : Addr) (f : Str) (a : Addr) (cls : Value) (d : Option Addr) (te : TE) : TE := fun σ H Q => te σ H fun x H1 => x = .ref a ∧ cls = .ref C ∧ ∃ (dd : Addr) (v : V), d = some dd ∧ H1 dd = some (.xd [(f, v)]) ∧ Q v H1
theorem pe_errF {a : Addr} {oe : Obj} {cls : Value} {d : Option Addr} {pn : List (Addr × Obj)} {e : Expr} {te : TE} {pos : Pos} (T : FldGet X.K C f) (hz : Zc cls d oe) (hf : ∃ vs, oe.data = .fields vs) (he : PE (X.suite a ((a, oe) :: pn)) e te)
    (hb : attributeBase e f X.env (eval e X.env) = eval e X.env := by rfl) : PE (X.suite a ((a, oe) :: pn)) (.Attribute e f pos) (tErrF C f a cls d te) := by
  refine ⟨fun pins s σ H Q I h => ?_⟩
  refine attr_of hb (thn (he.run pins s σ H _ I h) fun u s1 hh => ?_)
  obtain ⟨x, H1, I1, rx, ex, ec, dd, v, ed, ea, q⟩ := hh
  subst ex
  obtain rfl : u = Value.ref a := rx
  subst ec
  subst ed
  obtain ⟨ha, _⟩ := I1.pin (a, oe) (List.mem_append_left _ List.mem_cons_self)
  obtain ⟨vs, hd⟩ := hf
  have hx : ObjOk X.prog X.w H1 s1.heap dd (.xd [(f, v)]) := I1.hok dd _ ea
  obtain ⟨mA, hns, hr⟩ := hx
  obtain ⟨od, ho, hl⟩ := lookIn_ns hns
  have l : List.lookup f [(f, v)] = some v := by simp [List.lookup]
  obtain ⟨u, hu, ru⟩ := RelO.some_of (v := v) (o := mA f) (by rw [← l]; exact hr f)
  have J : PySem.W.InstAt s1.heap a oe C (some od) := ⟨ha, hz.1, by unfold PySem.W.notCls; rw [hd] <;> rfl, by rw [hz.2]; exact ho⟩
  exact HandSPX.exc_get I1.kIn J T.ga T.gg T.ex (PySem.W.findObj_own T.hd T.noF rfl (by rw [hl, hu])) (handed_of ru) ⟨v, H1, I1.tok _, ru, q⟩
end
end L2

/-! own special methods: len(o), x in o, o == x, o != x, str(o) -/
namespace PySem
namespace TfO
open PySem.W PySem.Calls PyProof.Rows
section
variable {prog : Program} {w : World} {M : Model} {A : Around} {E : Value → Shared → Prop} {s : Shared} {K : Frag} {x C f : Addr} {ox : Obj} {od : Option Obj} {b tb : Value}
theorem ifBound_B {name : Str} {id : String} {args : List Value} {Q : Option Value → Shared → Prop} (X : K.In s.heap) (I : InstAt s.heap x ox C od) (hs : findIn K (.ref C) name = some (some (.builtin id)))
    (hb : ∀ self, bindSpecial (.builtin id) self = pure (.builtin id, [self])) (h : wpAny M A (call (.builtin id) (.ref x :: args)) (fun v => Q (some v)) E s) : wpAny M A (callSpecialIfBound? (.ref x) name args) Q E s := by
  simp only [callSpecialIfBound?, bindSpecialIfBound?]
  refine wpAny_holding (wpAny_bind (wpAny_bind (wpAny_bind (I.type.here ((looks_findIn X hs).here ?_)))))
  refine wpAny_bind (wpAny_askSetting (wpAny_ite ?_))
  have fin : wpAny M A (call (.builtin id) ([.ref x] ++ args) >>= fun v => pure (some v)) Q E s := wpAny_bind (wpAny_mono h (fun v s' h' => wpAny_pure h') fun _ _ h' => h')
  split
  · exact wpAny_bind ((Looks.of_pure (hb _)).here (wpAny_pure (by exact fin)))
  · exact wpAny_tryCatch (wpAny_bind ((Looks.of_pure (hb _)).here (wpAny_pure (by exact fin))))
theorem slot_one : Slot "object" "__ne__" "object.__ne__" := .of (owner := "object") (n := "__ne__") (by rw [typeLookup_type, builtinLookup_eq_fast]; kernel_rfl) (by decide +kernel) (by decide +kernel) (by decide +kernel) (by first | exact .inl (by decide +kernel) | exact .inr (by decide +kernel)) (by rw [isSubtype_type]; kernel_rfl)
/-- o != b: no own __ne__, an own __eq__ that answers with a bool -/
theorem ne_K {Q : Value → Shared → Prop} (hu : A.units + 1 < cLine) (X : K.In s.heap) (I : InstAt s.heap x ox C od) (hb : Looks (model prog w) s.heap (typeOf b) tb) (hn : notFirst K C tb = true)
    (hs : findIn K (.ref C) "__eq__" = some (some (.ref f))) (hf : isFn K (.ref f) = true) (hne : findIn K (.ref C) "__ne__" = some (some (.builtin "object.__ne__"))) (hm : mroIn K C (.type "object") = some true)
    (h : wpAny (model prog w) A.in1 (call (.ref f) [.ref x, b]) (fun v s' => ∃ r, v = .bool r ∧ Q (.bool (!r)) s') E s) : wpAny (model prog w) A (richCompare .NotEq (.ref x) b) Q E s := by
  have one : wpAny (model prog w) A (tryCompare (.ref x) (cmpInfo .NotEq).2.1 b) (fun r s' => ∃ v, r = some v ∧ Q v s') E s := by
    unfold tryCompare
    refine wpAny_bind (ifBound_B (name := "__ne__") X I hne slot_one.bind ?_)
    refine wpAny_call (codeAny_call_builtin slot_one.plain F.cmpEntry_ne (check_slot (i := "object.__ne__") (owner := "object") (n := "__ne__") F.cmpKind_ne F.cmpSplit_ne (I.type.andThen (looks_mroIn X hm)) (F.cmpArgs_ne _ _) ?_))
    unfold Builtin.«object.__ne__»
    refine wpAny_bind (m := slotArgs "__ne__" 1 _) (wpAny_pure ?_)
    refine wpAny_bind (m := cRoomFor _ _) (wpAny_cRoomFor hu ?_)
    refine wpAny_bind (m := callSpecialIfBound? (.ref x) (Str.ofString "__eq__") _) (ifBound_K X I hs hf (wpAny_mono h (fun r s' hq => ?_) fun _ _ y => y))
    obtain ⟨r, rfl, hq⟩ := hq
    refine wpAny_bind (m := truthy (.bool r)) (wpAny_truthy_bool ?_)
    exact wpAny_pure (wpAny_pure ⟨_, rfl, hq⟩)
  unfold richCompare
  simp only [oneThing_ref]
  refine wpAny_holding (wpAny_bind (wpAny_cRoomFor (Nat.lt_of_succ_lt hu) ?_))
  refine wpAny_bind (I.type.here (wpAny_bind (hb.here ?_)))
  split
  · rename_i q
    have e : subIn K tb (.ref C) = some false := by
      rcases Bool.or_eq_true_iff.mp hn with e | e
      · rw [beq_iff_eq.mp e] at q; simp at q
      · exact beq_iff_eq.mp e
    refine wpAny_bind ((looks_subIn X e).here ?_)
    simp only [Bool.false_eq_true, if_false]
    refine wpAny_bind (wpAny_mono one (fun r s' z => ?_) fun _ _ e => e)
    obtain ⟨v, rfl, hq⟩ := z
    exact wpAny_pure hq
  · refine wpAny_bind (wpAny_pure ?_)
    simp only [Bool.false_eq_true, if_false]
    refine wpAny_bind (wpAny_mono one (fun r s' z => ?_) fun _ _ e => e)
    obtain ⟨v, rfl, hq⟩ := z
    exact wpAny_pure hq
end
end TfO
end PySem
namespace L2
open PySem PySem.Spec PyProof.Rows
section
variable {X : Cx} {CX : CXT} {k : Nat} {f C : Addr} {sp : Sp} {E : XK}
theorem run_sub {pins : List (Addr × Obj)} {σ : St} {H : Hp} {s : Shared} {Q : VK} {A : Around} {us : List Value} {vs : List V} (F : FnR X.prog X.w X.K X.mg X.base CX k f sp) (sb : Sub X k A) (hx : Passes CX X E) (I : Inv X pins σ H s) (r : Vals vs us) (h : sp vs H Q E) :
    wpAny (model X.prog X.w) A (call (.ref f) us) (EP X pins σ Q) X.xe s := by
  have e0 : Env0 X.prog X.w X.K X.mg X.base A X.stack s H := by
    have e := I.env0
    exact ⟨by rw [sb.fr]; exact e.frames, e.mod, e.bs, e.bsz, e.funs, e.frf, e.hok, e.bare⟩
  refine wpAny_call (codeAny_mono (F A X.stack s H us vs Q E sb.room e0 r h) fun r s' hq => ?_)
  cases r with
  | error e => exact hx pins σ H s e s' I hq
  | ok fl =>
    cases fl with
    | ret w => exact I.after hq
    | next => exact False.elim hq
    | brk => exact False.elim hq
    | cont => exact False.elim hq
theorem sub0 (hr : Room k X.A) : Sub X k X.A := ⟨hr, rfl⟩
theorem sub1 (hr : Room (k + 1) X.A) : Sub X k X.A.in1 := ⟨hr.in1, rfl⟩
theorem sub2 (hr : Room (k + 2) X.A) : Sub X k X.A.in1.in1 := ⟨hr.in1.in1, rfl⟩
/-- an instance as the library sees it -/
theorem ins_at {pins : List (Addr × Obj)} {σ : St} {H : Hp} {s : Shared} {a dx : Addr} {fs : List (Str × V)} (I : Inv X pins σ H s) (h : H a = some (.ins C dx fs)) : ∃ ox od, PySem.W.InstAt s.heap a ox C od := by
  obtain ⟨mA, O, _⟩ := ins_get I.hok h
  obtain ⟨od, J, _⟩ := O.look
  exact ⟨_, _, J⟩
/-- C's special method named m is the def at f -/
structure OwnM (K : PySem.W.Frag) (C : Addr) (m : Str) (f : Addr) : Prop where
  at_ : PySem.W.findIn K (.ref C) m = some (some (.ref f))
  fn : PySem.W.isFn K (.ref f) = true
def bk (Q : VK) : VK := fun v H' => ∃ b, v = .bl b ∧ Q (.bl b) H'
/-- len(o) -/
def rLenO (C : Addr) (sp : Sp) (E : XK) : List V → Hp → VK → Prop := fun xs H Q => ∃ a dx fs, xs = [.ref a] ∧ H a = some (.ins C dx fs) ∧ sp [.ref a] H (fun v H' => ∃ n : Int, v = .int n ∧ 0 ≤ n ∧ n < 2 ^ 63 ∧ Q (.int n) H') E
theorem call_lenO (o : OwnM X.K C "__len__" f) (F : FnR X.prog X.w X.K X.mg X.base CX k f sp) (hr : Room (k + 1) X.A) (hx : Passes CX X E) : CallR X (.builtin "len") (rLenO C sp E) := by
  intro pins s σ H xs us Q I r h
  obtain ⟨a, dx, fs, rfl, ha, h⟩ := h
  cases r with
  | cons ra rn =>
    cases rn
    cases ra
    obtain ⟨ox, od, J⟩ := ins_at I ha
    obtain ⟨m, hF⟩ := I.fr
    refine PySem.W.len_K hF I.ok.mod.kin J o.at_ o.fn (wpAny_mono (run_sub F (sub1 hr) hx I (vs := [.ref a]) (.cons rfl .nil) h) (fun v s' q => ?_) fun _ _ z => z)
    obtain ⟨v', H', I', rv, n, rfl, h0, h1, q⟩ := q
    obtain ⟨t, rfl⟩ := rv
    exact ⟨⟨h0, h1⟩, .int n, H', I'.tok _, ⟨_, rfl⟩, q⟩
/-- x in o, x not in o -/
def rInO (C : Addr) (sp : Sp) (E : XK) (neg : Bool) : R2 := fun x y H Q => ∃ a dx fs, y = .ref a ∧ H a = some (.ins C dx fs) ∧ sp [.ref a, x] H (fun v H' => ∃ b, v = .bl b ∧ Q (.bl (if neg then !b else b)) H') E
theorem op_inO (o : OwnM X.K C "__contains__" f) (F : FnR X.prog X.w X.K X.mg X.base CX k f sp) (hr : Room k X.A) (hx : Passes CX X E) : OpR X (compareOp .In) (rInO C sp E false) := by
  intro pins s σ H x y u v Q I rx ry h
  obtain ⟨a, dx, fs, rfl, ha, h⟩ := h
  cases ry
  obtain ⟨ox, od, J⟩ := ins_at I ha
  obtain ⟨m, hF⟩ := I.fr
  refine PySem.W.in_K hF I.ok.mod.kin J o.at_ o.fn (wpAny_mono (run_sub F (sub0 hr) hx I (vs := [.ref a, x]) (.cons rfl (.cons rx .nil)) h) (fun v s' q => ?_) fun _ _ z => z)
  obtain ⟨v', H', I', rv, b, rfl, q⟩ := q
  cases rv
  exact wpAny_truthy_bool ⟨.bl b, H', I', rfl, q⟩
theorem op_notInO (o : OwnM X.K C "__contains__" f) (F : FnR X.prog X.w X.K X.mg X.base CX k f sp) (hr : Room k X.A) (hx : Passes CX X E) : OpR X (compareOp .NotIn) (rInO C sp E true) := by
  intro pins s σ H x y u v Q I rx ry h
  obtain ⟨a, dx, fs, rfl, ha, h⟩ := h
  cases ry
  obtain ⟨ox, od, J⟩ := ins_at I ha
  obtain ⟨m, hF⟩ := I.fr
  refine PySem.W.notIn_K hF I.ok.mod.kin J o.at_ o.fn (wpAny_mono (run_sub F (sub0 hr) hx I (vs := [.ref a, x]) (.cons rfl (.cons rx .nil)) h) (fun v s' q => ?_) fun _ _ z => z)
  obtain ⟨v', H', I', rv, b, rfl, q⟩ := q
  cases rv
  exact wpAny_truthy_bool ⟨.bl (!b), H', I', rfl, q⟩
/-- the type of y, seen in the heap -/
def TyL (X : Cx) (H : Hp) (y : V) (tb : Value) : Prop := ∀ (pins : List (Addr × Obj)) (σ : St) (s : Shared) (u : Value), Inv X pins σ H s → RelV y u → PySem.W.Looks (model X.prog X.w) s.heap (typeOf u) tb
theorem TyL.ins {H : Hp} {b dx : Addr} {fs : List (Str × V)} (h : H b = some (.ins C dx fs)) : TyL X H (.ref b) (.ref C) := fun pins σ s u I r => by
  cases r
  obtain ⟨ox, od, J⟩ := ins_at I h
  exact J.type
/-- o == y, o != y -/
def rEqO (X : Cx) (C : Addr) (sp : Sp) (E : XK) (neg : Bool) : R2 := fun x y H Q => ∃ a dx fs tb, x = .ref a ∧ H a = some (.ins C dx fs) ∧ TyL X H y tb ∧ PySem.W.notFirst X.K C tb = true ∧ sp [.ref a, y] H (fun v H' => ∃ b, v = .bl b ∧ Q (.bl (if neg then !b else b)) H') E
theorem op_eqO (o : OwnM X.K C "__eq__" f) (F : FnR X.prog X.w X.K X.mg X.base CX k f sp) (hr : Room k X.A) (hx : Passes CX X E) : OpR X (compareOp .Eq) (rEqO X C sp E false) := by
  intro pins s σ H x y u v Q I rx ry h
  obtain ⟨a, dx, fs, tb, rfl, ha, ht, hn, h⟩ := h
  cases rx
  obtain ⟨ox, od, J⟩ := ins_at I ha
  obtain ⟨m, hF⟩ := I.fr
  show wpAny (model X.prog X.w) X.A (richCompare .Eq (.ref a) v) (EP X pins σ Q) X.xe s
  refine PySem.W.cmp_K (op := .Eq) (tb := tb) (by have := hr.un; omega) hF I.ok.mod.kin J (ht _ _ _ _ I ry) hn o.at_ o.fn (wpAny_mono (run_sub F (sub0 hr) hx I (vs := [.ref a, y]) (.cons rfl (.cons ry .nil)) h) (fun v s' q => ?_) fun _ _ z => z)
  obtain ⟨v', H', I', rv, b, rfl, q⟩ := q
  cases rv
  exact ⟨.bl b, H', I', rfl, q⟩
theorem op_neO (o : OwnM X.K C "__eq__" f) (hne : PySem.W.findIn X.K (.ref C) "__ne__" = some (some (.builtin "object.__ne__"))) (hm : PySem.W.mroIn X.K C (.type "object") = some true) (F : FnR X.prog X.w X.K X.mg X.base CX k f sp) (hr : Room (k + 1) X.A) (hx : Passes CX X E) : OpR X (compareOp .NotEq) (rEqO X C sp E true) := by
  intro pins s σ H x y u v Q I rx ry h
  obtain ⟨a, dx, fs, tb, rfl, ha, ht, hn, h⟩ := h
  cases rx
  obtain ⟨ox, od, J⟩ := ins_at I ha
  show wpAny (model X.prog X.w) X.A (richCompare .NotEq (.ref a) v) (EP X pins σ Q) X.xe s
  refine PySem.TfO.ne_K (tb := tb) (by have := hr.un; omega) I.kIn J (ht _ _ _ _ I ry) hn o.at_ o.fn hne hm (wpAny_mono (run_sub F (sub1 hr) hx I (vs := [.ref a, y]) (.cons rfl (.cons ry .nil)) h) (fun v s' q => ?_) fun _ _ z => z)
  obtain ⟨v', H', I', rv, b, rfl, q⟩ := q
  cases rv
  exact ⟨b, rfl, .bl (!b), H', I', rfl, q⟩
/-- str(o) -/
def rStrO (C : Addr) (sp : Sp) (E : XK) : List V → Hp → VK → Prop := fun xs H Q => ∃ a dx fs, xs = [.ref a] ∧ H a = some (.ins C dx fs) ∧ sp [.ref a] H (fun v H' => ∃ z, v = .str z ∧ Q (.str z) H') E
theorem call_strO (o : OwnM X.K C "__str__" f) (F : FnR X.prog X.w X.K X.mg X.base CX k f sp) (hr : Room (k + 2) X.A) (hx : Passes CX X E) : CallR X (.type "str") (rStrO C sp E) := by
  intro pins s σ H xs us Q I r h
  obtain ⟨a, dx, fs, rfl, ha, h⟩ := h
  cases r with
  | cons ra rn =>
    cases rn
    cases ra
    obtain ⟨ox, od, J⟩ := ins_at I ha
    refine PySem.W.kso_call (by have := hr.un; show X.A.units + 1 + 1 < _; omega) I.kIn J o.at_ o.fn (wpAny_mono (run_sub F (sub2 hr) hx I (vs := [.ref a]) (.cons rfl .nil) h) (fun v s' q => ?_) fun _ _ z => z)
    obtain ⟨v', H', I', rv, z, rfl, q⟩ := q
    obtain ⟨t, rfl⟩ := rv
    exact ⟨.str z, H', I', ⟨_, rfl⟩, q⟩
end
end L2

/-! C(*xs, k = v): one starred argument and keywords; a def with *v and keyword-only parameters -/
namespace PySem
namespace TfM
open PySem.W PySem.Calls PyProof.Rows
section
variable {M : Model} {A : Around} {E : Value → Shared → Prop} {s : Shared}
theorem lone_kw {f : Value} {x : Sem Value} {pos : Pos} {kws : List (Option Str × Sem Value)} {Q : Args → Shared → Prop} (hall : kws.all (·.1.isSome) = true)
    (h : wpAny M A x (fun v s₁ => wpAny M A (evalAll (kws.map (·.2))) (fun ks s₂ => StarOf M A E v (fun vs s₃ => Q ⟨vs, (kws.filterMap (·.1)).zip ks⟩ s₃) s₂) E s₁) E s) :
    wpAny M A (evalArgs f true [(true, (do let v ← x; standAt pos; pure v))] kws) Q E s := by
  unfold evalArgs
  first
    | refine wpAny_bind (wpAny_bind (wpAny_mono h (fun v s₁ h₁ => wpAny_bind (wpAny_standAt (wpAny_pure ?_))) fun _ _ x => x))
    | refine wpAny_bind (wpAny_bind (wpAny_bind (wpAny_mono h (fun v s₁ h₁ => wpAny_bind (wpAny_standAt (wpAny_pure (wpAny_pure ?_)))) fun _ _ x => x)))
  refine wpAny_holding ?_
  simp only [hall, if_true]
  refine wpAny_bind (wpAny_mono h₁ (fun ks s₂ h₂ => ?_) fun _ _ x => x)
  unfold StarOf at h₂
  refine wpAny_bind (wpAny_bind (wpAny_mono h₂ (fun b s₃ h₃ => ?_) fun _ _ x => x))
  obtain ⟨rfl, h₃⟩ := h₃
  have z := wpAny_holding (vs := ((kws.filterMap (·.1)).zip ks).map (·.2)) (wpAny_mono h₃ (fun vs s₃ h₃ => (wpAny_pure h₃ : wpAny M A (pure (⟨vs, (kws.filterMap (·.1)).zip ks⟩ : Args)) Q E s₃)) fun _ _ x => x)
  try simp only [Bool.false_eq_true, if_false]
  first
    | exact z
    | exact wpAny_bind z
    | exact wpAny_bind (wpAny_pure z)
theorem call_kw {f : Value} {first : List Value} {pos : Pos} {Q : Value → Shared → Prop} {P : Heap → Prop} {args : List (Bool × Sem Value)} {kws : List (Option Str × Sem Value)} (hst : args.any (·.1) = true)
    (hk : ∀ h, P h → ∃ k, (k = Keeper.frame ∨ k = Keeper.machine ∨ k = Keeper.boundFrame) ∧ Looks M h (keeperOf f) k)
    (h : wpAny M A (evalArgs f true args kws) (fun a s₁ => P s₁.heap ∧ wpAny M A (call f (first ++ a.pos) a.kw) Q E s₁) E s) : wpAny M A (callWith pos f first args kws) Q E s := by
  unfold callWith
  refine wpAny_bind (wpAny_holding (wpAny_mono h (fun a s₁ h₁ => wpAny_bind (wpAny_standAt ?_)) fun _ _ x => x))
  obtain ⟨k, hk', L⟩ := hk _ h₁.1
  simp only [hst, Bool.true_or]
  refine wpAny_bind (L.here ?_)
  have tail : ∀ {t : Sem Value}, wpAny M A t Q E s₁ → wpAny M A (t >>= fun r => holding [r] point >>= fun _ => pure r) Q E s₁ :=
    fun ht => wpAny_bind (wpAny_mono ht (fun r s₂ hr => wpAny_bind (wpAny_holding (wpAny_point (wpAny_pure hr)))) fun _ _ x => x)
  have marked (mk : Value) : wpAny M A (callMarked mk f (first ++ a.pos) a.kw) Q E s₁ := by unfold callMarked; exact Calls.wpAny_keep h₁.2
  rcases hk' with rfl | rfl | rfl <;> dsimp only <;> first | exact tail (marked _) | exact tail (wpAny_operateT h₁.2) | exact tail (wpAny_operating h₁.2)
end
end TfM
end PySem
namespace L2
open PySem PySem.Spec PyProof.Rows
/-- the promise of a def called with values vs and keywords ks = zs -/
abbrev SpK := List V → List V → Hp → VK → XK → Prop
def FnA (P : Program) (w : World) (K : PySem.W.Frag) (mg : Str → Option Value) (base : Heap) (CX : CXT) (k : Nat) (f : Addr) (ks : List Str) (sp : SpK) : Prop :=
  ∀ (A : Around) (outer : List Env) (s : Shared) (H : Hp) (us ws : List Value) (vs zs : List V) (Q : VK) (E : XK), Room k A → Env0 P w K mg base A outer s H → Vals vs us → Vals zs ws → sp vs zs H Q E →
    codeAny (model P w) A (.call (.ref f) ⟨us, ks.zip ws⟩) (CR CX outer P w H s Q E) s
section
variable {CX : CXT} {P : Program} {w : World} {K : PySem.W.Frag} {mg : Str → Option Value} {base : Heap} {k : Nat} {f : Addr} {name qual : Str} {params : Arguments} {body : List Stmt} {scope : Scope} {dV kV doc pm cdv ct oc : Value} {an od : Option Addr}
  {osl : Array (Option Value)} {N : List Str} {sp : Sp}
/-- def f(a, *v, k): the values of a, k, then a new tuple of the rest -/
theorem fn_starK {pa pk pv : Str} (lk : K.lookup f = some ⟨oc, od, .func (PySem.W.fnOf name qual params body scope dV kV doc pm an cdv ct), osl⟩) (hcd : PySem.W.codeIn K cdv qual = true) (S : FnScope N [pa, pk, pv] scope) (hCX : StX.CXUp CX)
    (hb : ∀ (a : Value) (rest : List Value) (b : Value), bindArgs (PySem.W.fnOf name qual params body scope dV kV doc pm an cdv ct) ⟨a :: rest, [(pk, b)]⟩ = (newTuple rest >>= fun t => pure [(pa, a), (pk, b), (pv, t)]))
    (hbody : ∀ (A : Around) (outer : List Env) (s : Shared) (H : Hp) (vs : List V) (Q : VK) (E : XK), Room k (A.deeper (envOfC qual scope s.heap.objs.size f cdv)) → sp vs H Q E →
      ∃ t, PSs (cxOf CX P w K mg base N qual scope f cdv A outer s H E) body t ∧ t { nx := fun _ H' => Q .non H', rt := Q } (start N vs) H) :
    FnA P w K mg base CX (k + 1) f [pk] (fun vs zs H Q E => ∃ a rest b, vs = a :: rest ∧ zs = [b] ∧ rest.length ≤ sizeLine ∧ ∀ p, H p = Option.none → sp [a, b, V.ref p] (upd H p (.tup rest)) Q E) := by
  intro A outer s H us ws vs zs Q E hr e0 r rz hsp
  obtain ⟨a, rest, b, rfl, rfl, hz, hq⟩ := hsp
  cases r with
  | cons ra r2 =>
  cases rz with
  | cons rb rn =>
  cases rn
  rename_i ua u2 ub
  have hn : H s.heap.objs.size = Option.none := e0.hok.fresh (Nat.le_refl _)
  have hl2 : u2.length ≤ sizeLine := by rw [← r2.length]; exact hz
  refine StX.run_bnd lk hcd S hr e0 (G := fun xs H2 => ∃ p, H p = Option.none ∧ xs = [a, b, V.ref p] ∧ H2 = upd H p (.tup rest)) (fun A' Ex Q' h => ?_) fun s2 H2 xs ⟨p, hp, ex, eH⟩ hr' => ?_
  · show wpAny _ _ (bindArgs _ ⟨ua :: u2, [(pk, ub)]⟩) _ _ _
    rw [hb ua u2 ub]
    refine wpAny_bind (wpAny_newTuple (wpAny_pure ?_) hl2)
    have new : ObjOk P w (upd H s.heap.objs.size (.tup rest)) (s.heap.push ({ cls := .type "tuple", data := .seq u2.toArray } : Obj)) s.heap.objs.size (.tup rest) := ⟨hz, u2, r2, ⟨_, Heap.get?_push_size _ rfl, rfl, _, rfl⟩⟩
    have un := StX.un_laid (fs := frs outer) (s := s) (o := ({ cls := .type "tuple", data := .seq u2.toArray } : Obj)) (u := .tup rest) hn
    exact h _ _ [a, b, V.ref s.heap.objs.size] [ua, ub, Value.ref s.heap.objs.size] (StX.env0_laid e0 new) un rfl (fun e s' => hCX outer s H _ _ E e s' un (fun b o q => Heap.get?_push_of_some _ q) rfl) (.cons ra (.cons rb (.cons rfl .nil))) rfl ⟨_, hn, rfl, rfl⟩
  · subst ex eH
    exact hbody A outer s2 _ _ Q E hr' (hq p hp)
end
/-- C(*e, k = v): a new instance and its dict, then __init__ -/
def tMakeSK (K : PySem.W.Frag) (C : Addr) (sp : SpK) (E : XK) (tf te : TE) (tk : TA) : TE := fun σ H Q => tf σ H fun c H0 => c = .ref C ∧ te σ H0 fun y H1 => tk σ H1 fun zs H2 => ∃ a xs, y = V.ref a ∧ (SqT K H2 a xs ∨ SqL K H2 a xs) ∧ zs.length = 1 ∧ ∀ x dx, H2 x = none → H2 dx = none → dx ≠ x →
  sp (.ref x :: xs) zs (upd (upd H2 dx (.own x)) x (.ins C dx [])) (fun v H3 => v = .non ∧ Q (.ref x) H3) E
/-- C(e, .., k = v) -/
def tMakeAK (C : Addr) (sp : SpK) (E : XK) (t : TA) (tk : TA) : TE := fun σ H Q => t σ H fun xs H1 => tk σ H1 fun zs H2 => zs.length = 1 ∧ ∀ x dx, H2 x = none → H2 dx = none → dx ≠ x →
  sp (.ref x :: xs) zs (upd (upd H2 dx (.own x)) x (.ins C dx [])) (fun v H3 => v = .non ∧ Q (.ref x) H3) E
section
variable {X : Cx} {CX : CXT} {k : Nat} {f C : Addr} {ks : List Str} {sp : SpK} {E : XK} {x : Str} {p sp_ pos : Pos} {e fe : Expr} {es : List Expr} {kws : List Keyword} {t tk : TA} {te tf : TE}
theorem run_makeA {pins : List (Addr × Obj)} {σ : St} {H : Hp} {s : Shared} {Q : VK} {us ws : List Value} {vs zs : List V} (M : Mk X.K C f) (F : FnA X.prog X.w X.K X.mg X.base CX k f ks sp) (hr : Room (k + 1) X.A) (hx : Passes CX X E)
    (I : Inv X pins σ H s) (r : Vals vs us) (rz : Vals zs ws)
    (h : ∀ x dx, H x = none → H dx = none → dx ≠ x → sp (.ref x :: vs) zs (upd (upd H dx (.own x)) x (.ins C dx [])) (fun v H2 => v = .non ∧ Q (.ref x) H2) E) :
    wpAny (model X.prog X.w) X.A (call (.ref C) us (ks.zip ws)) (EP X pins σ Q) X.xe s := by
  have hq := h (s.heap.objs.size + 1) s.heap.objs.size (I.hok.fresh (Nat.le_succ _)) (I.hok.fresh (Nat.le_refl _)) (Nat.ne_of_lt (Nat.lt_succ_self _))
  have I2 := Inv.made (C := C) I
  have r1 : Vals (V.ref (s.heap.objs.size + 1) :: vs) (Value.ref (s.heap.objs.size + 1) :: us) := .cons rfl r
  refine wpAny_call (make_map (f := f) I.kIn M.makes M.init (beq_iff_eq.mp M.fn) (codeAny_mono (F _ X.stack _ _ (Value.ref (s.heap.objs.size + 1) :: us) ws _ _ _ E (hr.make C us (ks.zip ws))
    (I2.env0.make C us (ks.zip ws)) r1 rz hq) fun r s' hq' => ?_))
  cases r with
  | error e => exact hx pins σ _ _ e s' I2 hq'
  | ok fl =>
    cases fl with
    | ret u =>
      obtain ⟨v, H', I3, rv, ev, q3⟩ := I2.after hq'
      subst ev
      exact ⟨rv, ⟨V.ref (s.heap.objs.size + 1), H', I3, rfl, q3⟩⟩
    | next => exact False.elim hq'
    | brk => exact False.elim hq'
    | cont => exact False.elim hq'
theorem pe_makeSK (M : Mk X.K C f) (F : FnA X.prog X.w X.K X.mg X.base CX k f ks sp) (hr : Room (k + 1) X.A) (hx : Passes CX X E) (hf : PE X fe tf) (he : PE X e te) (hkw : PK X kws tk)
    (ht : eval (.Call fe [.Starred e sp_] kws pos) X.env = (do callWith pos (← eval fe X.env) [] (backTo pos (starEach [.Starred e sp_] X.env)) (backToKw pos (keywordEach kws X.env))) := by rfl)
    (hall : (backToKw pos (keywordEach kws X.env)).all (·.1.isSome) = true := by rfl) (hks : (backToKw pos (keywordEach kws X.env)).filterMap (·.1) = ks := by rfl)
    (hst : starEach [.Starred e sp_] X.env = [(true, eval e X.env)] := by rfl) :
    PE X (.Call fe [.Starred e sp_] kws pos) (tMakeSK X.K C sp E tf te tk) := by
  refine ⟨fun pins s σ H Q I h => ?_⟩
  rw [ht]
  refine wpAny_bind (thn (hf.run pins s σ H _ I h) fun u s0 ⟨y0, H0, I0, ry, ey0, q0⟩ => ?_)
  subst ey0
  obtain rfl : u = Value.ref C := ry
  rw [hst]
  refine PySem.TfM.call_kw (P := fun h => X.K.In h) rfl (PySem.W.keeps_K M.kp) (PySem.TfM.lone_kw hall ?_)
  refine thn (he.run pins s0 σ H0 _ I0 q0) fun v s1 ⟨y, H1, I1, rv, q1⟩ => ?_
  refine thn (hkw.run pos pins s1 σ H1 _ I1 q1) fun ws s2 ⟨zs, H2, I2, rz, a, xs, ey, hxs, hl, q2⟩ => ?_
  subst ey
  obtain rfl : v = Value.ref a := rv
  refine StX.star_any I2 hxs fun us s3 I3 r => ⟨I3.kIn, ?_⟩
  show wpAny _ _ (call (.ref C) us _) _ _ _
  rw [hks]
  exact run_makeA M F hr hx I3 r rz q2
theorem pe_makeAK (M : Mk X.K C f) (F : FnA X.prog X.w X.K X.mg X.base CX k f ks sp) (hr : Room (k + 1) X.A) (hg : Gl X x) (hm : X.mg x = some (.ref C)) (hx : Passes CX X E) (ha : PA X (e :: es) t) (hkw : PK X kws tk)
    (hall : (backToKw pos (keywordEach kws X.env)).all (·.1.isSome) = true := by rfl) (hks : (backToKw pos (keywordEach kws X.env)).filterMap (·.1) = ks := by rfl) (hdb : (x == ("__debug__" : Str)) = false := by decide)
    (he : starEach (e :: es) X.env = (false, eval e X.env) :: starEach es X.env := by rfl) (hpl : ((backTo pos (starEach (e :: es) X.env)).any (·.1) || (backToKw pos (keywordEach kws X.env)).any (·.1.isNone)) = false := by rfl) :
    PE X (.Call (.Name x p) (e :: es) kws pos) (tMakeAK C sp E t tk) := by
  refine ⟨fun pins s σ H Q I h => ?_⟩
  refine wpAny_Call_Name_kw (ld_glob I hg hm ?_ hdb)
  refine PySem.W.callWith_KW (h₀ := X.base) I.ok.mod.kin M.kp hall (thn (ha.run pos pins s σ H _ I h) fun us s1 ⟨vs, H1, I1, r, q⟩ => ?_) hpl he
  refine thn (hkw.run pos pins s1 σ H1 _ I1 q) fun ws s2 ⟨zs, H2, I2, rz, l1, q2⟩ => ⟨I2.kIn, ?_⟩
  rw [hks]
  exact run_makeA M F hr hx I2 r rz q2
end
end L2

/-! small rules and words -/
namespace L2
open PySem PySem.Spec PyProof.Rows
section
variable {X : Cx}
theorem call_repr_bl : CallR X (.builtin "repr") (fun xs H Q => ∃ b, xs = [.bl b] ∧ Q (.str (if b then "True" else "False")) H) := by
  intro pins s σ H xs us Q I r h
  obtain ⟨b, rfl, q⟩ := h
  cases r with
  | cons rb rn =>
    cases rn
    cases rb
    exact PySem.P.repr_of_bool ⟨.str _, H, I.tok _, ⟨_, rfl⟩, q⟩
theorem op_powW : OpR X (binaryOp .Pow) (rI (fun i j => 0 ≤ j ∧ (Builtin.Int.intBits i : Int) * j ≤ 2 ^ 27) fun i j => .int (i ^ j.toNat)) := opI fun _ _ _ _ _ _ _ hc q => pow_int hc.1 hc.2 q
end
/-- all but what stands at d stays -/
def Nr (d : Addr) (H H' : Hp) : Prop := ∀ b o, b ≠ d → H b = some o → H' b = some o
theorem Nr.refl (d : Addr) (H : Hp) : Nr d H H := fun _ _ _ h => h
theorem Nr.trans {d : Addr} {H H1 H2 : Hp} (a : Nr d H H1) (b : Nr d H1 H2) : Nr d H H2 := fun c o n h => b c o n (a c o n h)
theorem Same.nr {d : Addr} {H H' : Hp} (a : Same H H') : Nr d H H' := fun c o _ h => a c o h
theorem Nr.upd {d : Addr} {H : Hp} {o : HO} : Nr d H (upd H d o) := fun b u n h => by rw [upd_ne n]; exact h
theorem same_new {H : Hp} {p : Addr} {o : HO} (h : H p = none) : Same H (upd H p o) := fun b u e => by
  rw [upd_ne (ne_of_none e h)]
  exact e
theorem Same.new {H H1 : Hp} {p : Addr} {o : HO} (s : Same H H1) (h : H1 p = none) : Same H (upd H1 p o) := s.trans (same_new h)
/-- a new object may change -/
theorem Same.mut {H H1 : Hp} {p : Addr} {o : HO} (s : Same H H1) (h : H p = none) : Same H (L2.upd H1 p o) := fun b u e => by
  rw [upd_ne (ne_of_none e h)]
  exact s b u e
theorem Same.tup {K : PySem.W.Frag} {H H' : Hp} {a : Addr} {xs : List V} (e : Same H H') (h : SqT K H a xs) : SqT K H' a xs := by
  rcases h with (h | ⟨o, h⟩) | h
  · exact .inl (.inl (e _ _ h))
  · exact .inl (.inr ⟨o, e _ _ h⟩)
  · exact .inr h
/-- the dice: three numbers, the first one not below nought -/
def Dice (H : Hp) (d : Addr) : Prop := ∃ a b c : Int, 0 ≤ a ∧ H d = some (.lst [.int a, .int b, .int c])
theorem Dice.same {H H' : Hp} {d : Addr} (x : Dice H d) (s : Same H H') : Dice H' d := by
  obtain ⟨a, b, c, h, e⟩ := x
  exact ⟨a, b, c, h, s _ _ e⟩
theorem lst_of {K : PySem.W.Frag} {H : Hp} {a : Addr} {xs : List V} (h : H a = some (.lst xs)) : SqL K H a xs := .inl (.inl h)
theorem tup_of {K : PySem.W.Frag} {H : Hp} {a : Addr} {xs : List V} (h : H a = some (.tup xs)) : SqT K H a xs := .inl (.inl h)
end L2

/-! texts that are names; lists of texts as data -/
namespace L2
open PySem PySem.Spec PyProof.Rows
def signs : Str := "abcdefghijklmnopqrstuvwxyz"
/-- a name: one to eight letters a to z -/
def nameB (z : Str) : Bool := (decide (1 ≤ z.length) && decide (z.length ≤ 8)) && z.cps.toList.all fun c => decide (c ∈ signs.cps.toList)
theorem nameB_len {z : Str} (h : nameB z = true) : 1 ≤ z.length ∧ z.length ≤ 8 := by
  unfold nameB at h
  rw [Bool.and_eq_true, Bool.and_eq_true] at h
  exact ⟨of_decide_eq_true h.1.1, of_decide_eq_true h.1.2⟩
theorem signs_ok : (signs.cps.toList.all fun c => decide (c < 128)) = true := by decide +kernel
theorem nameB_code {z : Str} (h : nameB z = true) {c : Nat} (hc : c ∈ z.cps.toList) : c < 128 := by
  unfold nameB at h
  rw [Bool.and_eq_true] at h
  have h2 := List.all_eq_true.mp h.2 c hc
  exact of_decide_eq_true (List.all_eq_true.mp signs_ok c (of_decide_eq_true h2))
theorem nameB_ok {z : Str} (h : nameB z = true) : PyData.strOk z = true := by
  unfold PyData.strOk
  rw [Array.all_eq_true']
  intro c hc
  have h1 := nameB_code h (Array.mem_def.mp hc)
  exact decide_eq_true (Nat.lt_trans h1 (by decide))
abbrev dS (zs : List Str) : List PyData := zs.map PyData.str
theorem dpAll_strs {K : PySem.W.Frag} {H : Hp} : ∀ zs : List Str, DpAll K H (zs.map V.str) (dS zs)
  | [] => .nil
  | z :: zs => .cons (.str z) (dpAll_strs zs)
theorem dp_list {K : PySem.W.Frag} {H : Hp} {a : Addr} {zs : List Str} (h : SqL K H a (zs.map V.str)) : Dp K H (.ref a) (.list (dS zs)) := .lst h (dpAll_strs zs)
theorem dp_tuple {K : PySem.W.Frag} {H : Hp} {a : Addr} {zs : List Str} (h : SqT K H a (zs.map V.str)) : Dp K H (.ref a) (.tuple (dS zs)) := .tup h (dpAll_strs zs)
theorem lay_strs : ∀ {zs : List Str}, (∀ z ∈ zs, nameB z = true) → PyData.canLayAll0 (dS zs) = true
  | [], _ => by simp [PyData.canLayAll0, dS]
  | z :: zs, h => by
    have h1 := lay_strs (zs := zs) fun y hy => h y (List.mem_cons_of_mem _ hy)
    have h2 := nameB_ok (h z List.mem_cons_self)
    show PyData.canLayAll0 (PyData.str z :: dS zs) = true
    simp only [PyData.canLayAll0, PyData.canLay0, h1, h2, Bool.and_self]
theorem depth_strs : ∀ zs : List Str, PyData.depthAll (dS zs) = 0
  | [] => by simp [PyData.depthAll, dS]
  | z :: zs => by
    show PyData.depthAll (PyData.str z :: dS zs) = 0
    simp only [PyData.depthAll, PyData.depth, depth_strs zs]
    rfl
theorem shaped_list {zs : List Str} (h : ∀ z ∈ zs, nameB z = true) : SeqAt.shaped (.list (dS zs)) = true := by
  show (PyData.canLay0 (.list (dS zs)) && decide (PyData.depth (.list (dS zs)) ≤ 64)) = true
  rw [Bool.and_eq_true]
  refine ⟨by simp only [PyData.canLay0]; exact lay_strs h, decide_eq_true ?_⟩
  simp only [PyData.depth, depth_strs]
  decide
theorem shaped_tuple {zs : List Str} (h : ∀ z ∈ zs, nameB z = true) : SeqAt.shaped (.tuple (dS zs)) = true := by
  show (PyData.canLay0 (.tuple (dS zs)) && decide (PyData.depth (.tuple (dS zs)) ≤ 64)) = true
  rw [Bool.and_eq_true]
  refine ⟨by simp only [PyData.canLay0]; exact lay_strs h, decide_eq_true ?_⟩
  simp only [PyData.depth, depth_strs]
  decide
theorem eqvAll_strs : ∀ xs ys : List Str, PyData.eqvAll (dS xs) (dS ys) = decide (xs = ys)
  | [], [] => by simp [PyData.eqvAll, dS]
  | [], y :: ys => by simp [PyData.eqvAll, dS]
  | x :: xs, [] => by simp [PyData.eqvAll, dS]
  | x :: xs, y :: ys => by
    have ih := eqvAll_strs xs ys
    show PyData.eqvAll (PyData.str x :: dS xs) (PyData.str y :: dS ys) = _
    simp only [PyData.eqvAll, PyData.eqv, ih]
    by_cases h : x = y
    · subst h
      simp
    · have h1 : (x == y) = false := by simpa using h
      have h2 : ¬ (x :: xs = y :: ys) := fun z => h (List.cons.inj z).1
      rw [h1, decide_eq_false h2]
      rfl
theorem eqv_lists (xs ys : List Str) : PyData.eqv (.list (dS xs)) (.list (dS ys)) = decide (xs = ys) := by
  simp only [PyData.eqv]
  exact eqvAll_strs xs ys
theorem eqv_tuples (xs ys : List Str) : PyData.eqv (.tuple (dS xs)) (.tuple (dS ys)) = decide (xs = ys) := by
  simp only [PyData.eqv]
  exact eqvAll_strs xs ys
end L2

/-! comprehensions whose element and test only make objects -/
namespace L2
open PySem PySem.Spec PyProof.Rows
/-- the test answers b, the expression gives v; what was tracked stays -/
def TTo (tt : TT) (σ : St) (H : Hp) (b : Bool) : Prop := ∀ Q : Bool → Hp → Prop, (∀ H', Same H H' → Q b H') → tt σ H Q
def TEo (te : TE) (σ : St) (H : Hp) (v : V) : Prop := ∀ Q : VK, (∀ H', Same H H' → Q v H') → te σ H Q
theorem tto_yes {σ : St} {H : Hp} : TTo tYes σ H true := fun _ q => q H (Same.refl H)
theorem lc_on {α : Type} {J : It} {n : Nat} {G : Hp → Prop} {xs : List α} {h : α → V} (w : Walk J n G (YAt (xs.map h))) (hn : n = xs.length) {tt : TT} {te : TE} {i : Nat} {σ : St} {H1 : Hp} {D : Addr} {Qd : Hp → Prop} (keep : α → Bool) (F : α → V) (nD : H1 D = none)
    (hG : ∀ H, Same H1 H → G H) (hlen : xs.length < 100000)
    (ht : ∀ a ∈ xs, ∀ H, Same H1 H → TTo tt ((wipe σ [i]).set i (some (h a))) H (keep a))
    (he : ∀ a ∈ xs, keep a = true → ∀ H, Same H1 H → TEo te ((wipe σ [i]).set i (some (h a))) H (F a))
    (hd : ∀ H, Same H1 H → H D = some (.lst ((xs.filter keep).map F)) → Qd H) :
    ∃ W : Nat → Nat → Hp → Prop, (∃ m, W 0 m (upd H1 D (.lst []))) ∧ ∀ j m H, W j m H →
      (J.stop j H ∧ Qd H) ∨ (J.go j H ∧ ∃ Nx : Hp → Prop, (∀ H', Nx H' → ∃ m', m' < m ∧ W (j + 1) m' H') ∧ ∀ x H', J.yld j H x H' → gName i x (wipe σ [i]) H' fun σ2 H2 => wipe σ2 [i] = wipe σ [i] ∧ tt σ2 H2 fun b H3 =>
        if b = true then te σ2 H3 fun y H4 => ∃ acc, H4 D = some (.lst acc) ∧ acc.length < sizeLine ∧ Nx (upd H4 D (.lst (acc ++ [y]))) else Nx H3) := by
  subst hn
  refine lc_it w (fun j H => Same H1 H ∧ H D = some (.lst (((xs.take j).filter keep).map F))) ⟨same_new nD, by rw [upd_same]; rfl⟩ (fun j H _ p => hG H p.1) (fun j x H H' hj p y => ?_) fun H p => hd H p.1 (by rw [p.2, List.take_length])
  obtain ⟨s, eD⟩ := p
  obtain ⟨rfl, ex⟩ := y
  rw [List.getElem?_map, List.getElem?_eq_getElem hj] at ex
  have ex' : h xs[j] = x := Option.some.inj ex
  subst ex'
  have mem : xs[j] ∈ xs := List.getElem_mem hj
  have tk : xs.take (j + 1) = xs.take j ++ [xs[j]] := by rw [List.take_add_one, List.getElem?_eq_getElem hj]; rfl
  refine ⟨?_, ht _ mem H' s _ fun H3 s3 => ?_⟩
  · simp [wipe]
  · cases hk : keep xs[j] with
    | false =>
      refine iteF ⟨s.trans s3, ?_⟩
      rw [s3 _ _ eD, tk, List.filter_append, List.filter_cons_of_neg (by rw [hk]; exact Bool.false_ne_true), List.filter_nil, List.append_nil]
    | true =>
      refine iteT (he _ mem hk H3 (s.trans s3) _ fun H4 s4 => ⟨_, s4 _ _ (s3 _ _ eD), ?_, ?_, ?_⟩)
      · have l1 := List.length_filter_le keep (xs.take j)
        rw [List.length_map]
        rw [List.length_take] at l1
        exact Nat.lt_of_le_of_lt (show _ ≤ 100000 by omega) (by decide)
      · exact (s.trans (s3.trans s4)).mut nD
      · rw [upd_same, tk, List.filter_append, List.filter_cons_of_pos hk, List.filter_nil, List.map_append]
        rfl
theorem walk_txt {z : Str} : Walk (Its z) z.cps.toList.length (fun _ => True) (YAt (z.cps.toList.map fun c => V.str ⟨#[c]⟩)) := by
  refine ⟨fun i H hi _ => ?_, fun H _ => ?_, fun i H x H' hi _ y => ?_⟩
  · rw [Array.length_toList] at hi
    exact hi
  · show z.cps.size ≤ z.cps.toList.length
    rw [Array.length_toList]
    exact Nat.le_refl _
  · obtain ⟨e, c, hc, ex⟩ := y
    refine ⟨e, ?_⟩
    rw [List.getElem?_map, Array.getElem?_toList, hc, ex]
    rfl
theorem fil_true {α : Type} (xs : List α) : xs.filter (fun _ => true) = xs := List.filter_eq_self.mpr fun _ _ => rfl
/-- without a test -/
theorem lc_map {α : Type} {J : It} {n : Nat} {G : Hp → Prop} {xs : List α} {h : α → V} (w : Walk J n G (YAt (xs.map h))) (hn : n = xs.length) {te : TE} {i : Nat} {σ : St} {H1 : Hp} {D : Addr} {Qd : Hp → Prop} (F : α → V) (nD : H1 D = none)
    (hG : ∀ H, Same H1 H → G H) (hlen : xs.length < 100000)
    (he : ∀ a ∈ xs, ∀ H, Same H1 H → TEo te ((wipe σ [i]).set i (some (h a))) H (F a))
    (hd : ∀ H, Same H1 H → H D = some (.lst (xs.map F)) → Qd H) :
    ∃ W : Nat → Nat → Hp → Prop, (∃ m, W 0 m (upd H1 D (.lst []))) ∧ ∀ j m H, W j m H →
      (J.stop j H ∧ Qd H) ∨ (J.go j H ∧ ∃ Nx : Hp → Prop, (∀ H', Nx H' → ∃ m', m' < m ∧ W (j + 1) m' H') ∧ ∀ x H', J.yld j H x H' → gName i x (wipe σ [i]) H' fun σ2 H2 => wipe σ2 [i] = wipe σ [i] ∧ tYes σ2 H2 fun b H3 =>
        if b = true then te σ2 H3 fun y H4 => ∃ acc, H4 D = some (.lst acc) ∧ acc.length < sizeLine ∧ Nx (upd H4 D (.lst (acc ++ [y]))) else Nx H3) :=
  lc_on w hn (fun _ => true) F nD hG hlen (fun _ _ _ _ => tto_yes) (fun a ha _ H s => he a ha H s) fun H s e => hd H s (by rw [e, fil_true])
end L2

/-! the ways of a statement meet again; slices of texts -/
namespace L2
open PySem PySem.Spec PyProof.Rows
theorem ps_mid {X : Cx} {st : Stmt} {t : TS} (h : PS X st t) : PS X st (fun D σ H => ∃ J : L2.St → Hp → Prop, t { D with nx := J } σ H ∧ ∀ σ' H', J σ' H' → D.nx σ' H') := by
  refine ⟨fun pins s σ H D I ⟨J, h1, h2⟩ => thn (h.run pins s σ H { D with nx := J } I h1) fun f s1 q => ?_⟩
  cases f with
  | next =>
    obtain ⟨σ', H', I', q⟩ := q
    exact ⟨σ', H', I', h2 _ _ q⟩
  | _ => exact q
theorem cut_txt (zs : List Str) (lo hi : Option Int) : ∃ ys : List Str, cutV (zs.map V.str) lo hi = ys.map V.str ∧ (∀ y ∈ ys, y ∈ zs) ∧ ys.length ≤ zs.length := by
  unfold cutV
  refine ⟨(zs.drop (HT.sIx (zs.map V.str).length 0 lo)).take (HT.sIx (zs.map V.str).length (zs.map V.str).length hi - HT.sIx (zs.map V.str).length 0 lo), by rw [List.map_take, List.map_drop], fun y hy => List.mem_of_mem_drop (List.mem_of_mem_take hy), ?_⟩
  rw [List.length_take, List.length_drop]
  omega
theorem cut_tail (xs : List V) : cutV xs (some 1) none = xs.drop 1 := by
  unfold cutV
  have e : HT.sIx xs.length 0 (some 1) = min 1 xs.length := HT.sIx_nat xs.length 0 1
  rw [e, HT.sIx_none]
  cases xs with
  | nil => rfl
  | cons x xs =>
    have e1 : min 1 (x :: xs).length = 1 := by rw [List.length_cons]; omega
    rw [e1]
    refine List.take_of_length_le ?_
    rw [List.length_drop]
    exact Nat.le_refl _
theorem Same.sql {K : PySem.W.Frag} {H H' : Hp} {a : Addr} {xs : List V} (e : Same H H') (h : SqL K H a xs) : SqL K H' a xs := by
  rcases h with (h | ⟨o, h⟩) | h
  · exact .inl (.inl (e _ _ h))
  · exact .inl (.inr ⟨o, e _ _ h⟩)
  · exact .inr h
/-- a list of names != [] -/
theorem ne_nil {K : PySem.W.Frag} {H : Hp} {p : Addr} {zs : List Str} {R : VK} (hp : SqL K H p (zs.map V.str)) (nz : ∀ z ∈ zs, nameB z = true) (h : ∀ H', Same H H' → R (.bl (!decide (zs = []))) H') :
    0 ≤ sizeLine ∧ ∀ t, H t = none → rNeD K (.ref p) (.ref t) (upd H t (.lst [])) R := by
  refine ⟨Nat.zero_le _, fun t nt => ⟨.list (dS zs), .list (dS []), dp_list ((same_new nt).sql hp), dp_list (zs := []) (lst_of upd_same), shaped_list nz, shaped_list (zs := []) (by intro z hz; cases hz), ?_⟩⟩
  rw [eqv_lists]
  exact h _ (same_new nt)
theorem eq_nil {K : PySem.W.Frag} {H : Hp} {p : Addr} {zs : List Str} {R : VK} (hp : SqL K H p (zs.map V.str)) (nz : ∀ z ∈ zs, nameB z = true) (h : ∀ H', Same H H' → R (.bl (decide (zs = []))) H') :
    0 ≤ sizeLine ∧ ∀ t, H t = none → rEqD K (.ref p) (.ref t) (upd H t (.lst [])) R := by
  refine ⟨Nat.zero_le _, fun t nt => ⟨.list (dS zs), .list (dS []), dp_list ((same_new nt).sql hp), dp_list (zs := []) (lst_of upd_same), shaped_list nz, shaped_list (zs := []) (by intro z hz; cases hz), ?_⟩⟩
  rw [eqv_lists]
  exact h _ (same_new nt)
end L2

/-! own binary operators, o.m() by a raw promise, a statement that is not reached -/
namespace L2
open PySem PySem.Spec PyProof.Rows
section
variable {X : Cx} {CX : CXT} {k : Nat} {f C : Addr} {sp : Sp} {E : XK}
/-- a | b, a & b of two instances of one class -/
def rBinO (C : Addr) (sp : Sp) (E : XK) : R2 := fun x y H Q => ∃ a dx fs b dy fy, x = .ref a ∧ y = .ref b ∧ H a = some (.ins C dx fs) ∧ H b = some (.ins C dy fy) ∧ sp [.ref a, .ref b] H (fun v H' => ∃ z, v = .ref z ∧ Q (.ref z) H') E
theorem op_binO {op : Operator} (hs : PySem.W.findIn X.K (.ref C) (PySem.dunder op.info.2) = some (some (.ref f))) (hf : PySem.W.isFn X.K (.ref f) = true) (hc : PySem.W.selfFirst X.K C = true) (F : FnR X.prog X.w X.K X.mg X.base CX k f sp) (hr : Room k X.A) (hx : Passes CX X E) : OpR X (binaryOp op) (rBinO C sp E) := by
  intro pins s σ H x y u v Q I rx ry h
  obtain ⟨a, dx, fs, b, dy, fy, rfl, rfl, ha, hb, h⟩ := h
  cases rx
  cases ry
  obtain ⟨ox, od, J⟩ := ins_at I ha
  obtain ⟨oy, od', J'⟩ := ins_at I hb
  obtain ⟨m, hF⟩ := I.fr
  refine PySem.W.binop_K hF I.ok.mod.kin J J'.type hc hs hf (wpAny_mono (run_sub F (sub0 hr) hx I (vs := [.ref a, .ref b]) (.cons rfl (.cons rfl .nil)) h) (fun v s' q => ?_) fun _ _ z => z)
  obtain ⟨v', H', I', rv, z, rfl, q⟩ := q
  cases rv
  exact ⟨.ref z, H', I', rfl, q⟩
theorem pe_methR0 {m : Str} {o : Expr} {ta : TE} {apos pos : Pos} {pl : Sem Bool} (he : PE X o ta) (c : Cls X.K C) (hm : Meth X.K C m f)
    (F : FnR X.prog X.w X.K X.mg X.base CX k f sp) (hr : Room k X.A) (hx : Passes CX X E)
    (ht : eval (.Call (.Attribute o m apos) [] [] pos) X.env = (do
      let ov ← eval o X.env
      standAt apos.atName
      let (f, first) ← holding [ov] (getMethod ov m pl)
      callWith pos f first (backTo pos (starEach [] X.env)) (backToKw pos (keywordEach [] X.env))) := by rfl) :
    PE X (.Call (.Attribute o m apos) [] [] pos) (tMethR C m sp E ta tNil) := by
  refine ⟨fun pins s σ H Q I h => ?_⟩
  refine PySem.W.methodCall_KW (pl := pl) (thn (he.run pins s σ H _ I h) fun u s1 ⟨x, H1, I1, rx, a, dx, fs, ex, ea, l, q⟩ => ?_) ht
  subst ex
  obtain rfl : u = Value.ref a := rx
  refine getmeth_ok I1 ea c hm l ?_
  exact PySem.W.callWith_K0 (first := [.ref a]) I1.kIn hm.kp (wpAny_call (run_fnR (us := [.ref a]) (vs := [.ref a]) F hr hx I1 (.cons rfl .nil) q))
theorem ps_off {st : Stmt} : PS X st (fun _ _ _ => False) := ⟨fun _ _ _ _ _ _ h => h.elim⟩
end
end L2

/-! x in a tuple of texts, whatever x is -/
namespace PySem
namespace TfI
open SeqAt MeetsSeq
section
variable {A : Around} {s : Shared}
theorem str_eq_dict (b : Str) (u : Tok) (l : Addr) (o : Obj) (es : Array DictEntry) (ep : Nat) (hc : o.cls = .type "dict") (hd : o.data = .dict es ep) :
    Meets (Builtin.«str.__eq__» ⟨[.str b u, .ref l], []⟩) (fun _ R s => s.heap.get? l = some o ∧ R (.ok (.ret .notImplemented)) s) :=
  .of_wp fun prog w A R s h => by
    obtain ⟨hp, g, d, tk, os⟩ := s
    obtain ⟨hl, h⟩ := h
    obtain ⟨oc, od, dt, sl⟩ := o
    simp only at hc hd
    subst hc
    subst hd
    have hsd := F.sub_str_dict
    wp_walk using wpAny_loadPart' hl, wpAny_load hl
    exact ⟨_, rfl, h⟩
theorem dict_eq_str (b : Str) (u : Tok) (l : Addr) (o : Obj) (es : Array DictEntry) (ep : Nat) (hc : o.cls = .type "dict") (hd : o.data = .dict es ep) :
    Meets (Builtin.«dict.__eq__» ⟨[.ref l, .str b u], []⟩) (fun _ R s => s.heap.get? l = some o ∧ R (.ok (.ret .notImplemented)) s) :=
  .of_wp fun prog w A R s h => by
    obtain ⟨hp, g, d, tk, os⟩ := s
    obtain ⟨hl, h⟩ := h
    obtain ⟨oc, od, dt, sl⟩ := o
    simp only at hc hd
    subst hc
    subst hd
    have hsd := F.sub_str_dict
    wp_walk using wpAny_loadPart' hl, wpAny_load hl
    exact ⟨_, rfl, h⟩
theorem eq_str_dict {l : Addr} {o : Obj} (b : Str) (u : Tok) {es : Array DictEntry} {ep : Nat} (ho : s.heap.get? l = some o) (hc : o.cls = .type "dict") (hd : o.data = .dict es ep) (hu : A.units < cLine) : EqAt A s (.str b u) (.ref l) false := fun prog w E Q h => by
  unfold eqBool
  refine wpAny_holding ?_
  refine wpAny_ite_split (fun hab => absurd (eq_of_beq hab) nofun) (fun _ => ?_)
  refine wpAny_bind ?_
  exact rc_eq_decline_or (k := false) (typeIs_str s b u) ⟨_, ho, hc⟩ (by decide) F.sub_dict_str F.slot_str_eq F.slot_dict_eq_refl
    (fun _ hq => call_meets F.slot_str_eq (typeIs_str s b u) F.entry_str_eq (F.args_str_eq_2 _ _) (str_eq_dict b u l o es ep hc hd) ⟨ho, hq⟩)
    (fun _ hq => call_meets F.slot_dict_eq_refl ⟨_, ho, hc⟩ F.entry_dict_eq (F.args_dict_eq_2 _ _) (dict_eq_str b u l o es ep hc hd) ⟨ho, hq⟩)
    (fun _ hq => wpAny_of_eq (rfl : isSame (.str b u) (.ref l) = pure false) hq) (.inr hu) (wpAny_truthy_bool h)
end
end TfI
end PySem
namespace L2
open PySem PySem.Spec PyProof.Rows
/-- a list, a tuple, a dict -/
def Box (K : PySem.W.Frag) (H : Hp) (x : V) : Prop := ∃ a : Addr, x = .ref a ∧ ((∃ xs, SqL K H a xs) ∨ (∃ xs, SqT K H a xs) ∨ ∃ kvs, H a = some (.dK kvs))
section
variable {X : Cx}
theorem eq_str_box {pins : List (Addr × Obj)} {σ : St} {H : Hp} {s : Shared} {x : V} {v : Value} {b : Str} {u : Tok} {A : Around} (I : Inv X pins σ H s) (h : Box X.K H x) (r : RelV x v) (hu : A.units < cLine) : SeqAt.EqAt A s (.str b u) v false := by
  obtain ⟨a, rfl, h⟩ := h
  cases r
  rcases h with ⟨xs, h⟩ | ⟨xs, h⟩ | ⟨kvs, h⟩
  · obtain ⟨its, _, pl, _⟩ := I.list h
    exact SeqAt.EqAt.str_list b u pl.isList hu
  · obtain ⟨its, _, pl, _⟩ := I.tuple h
    exact SeqAt.EqAt.str_tuple b u pl hu
  · obtain ⟨_, _, vs, _, o, es, ep, h1, h2, h3, _⟩ := (show ObjOk X.prog X.w H s.heap a (.dK kvs) from I.hok a _ h)
    exact PySem.TfI.eq_str_dict b u h1 h2.1 h3 hu
/-- x in (texts): x a list, a tuple, a dict -/
def rInB (K : PySem.W.Frag) (neg : Bool) : R2 := fun x y H Q => ∃ (p : Addr) (zs : List Str), y = .ref p ∧ (SqL K H p (zs.map V.str) ∨ SqT K H p (zs.map V.str)) ∧ Box K H x ∧ Q (.bl neg) H
/-- .. x anything of these -/
def rInX (K : PySem.W.Frag) (neg : Bool) : R2 := fun x y H Q => rIn K neg x y H Q ∨ rInB K neg x y H Q
theorem box_items {pins : List (Addr × Obj)} {σ : St} {H : Hp} {s : Shared} {x : V} {v : Value} {A : Around} (I : Inv X pins σ H s) (h : Box X.K H x) (r : RelV x v) (hu : A.units < cLine) : ∀ {zs : List Str} {its : List Value}, Vals (zs.map V.str) its → ∀ y ∈ its, SeqAt.EqAt A s y v false
  | [], _, .nil, y, hy => by cases hy
  | z :: zs, _, .cons rz rs, y, hy => by
    rcases List.mem_cons.mp hy with rfl | hy
    · obtain ⟨t, rfl⟩ := rz
      exact eq_str_box I h r hu
    · exact box_items I h r hu rs y hy
theorem op_inX (hu : X.A.units + 1 < cLine) : OpR X (compareOp .In) (rInX X.K false) := by
  intro pins s σ H x y v u Q I rx ry h
  rcases h with h | h
  · exact op_in_seq pins s σ H x y v u Q I rx ry h
  · obtain ⟨p, zs, rfl, hq, hb, q⟩ := h
    cases ry
    rcases hq with hq | hq
    · obtain ⟨its, r, pl, hz⟩ := I.list hq
      refine SeqAt.in_listAt (fun _ => false) pl.isList (fun w hw => box_items I hb rx hu r w (by simpa using hw)) ⟨.bl _, H, I, rfl, ?_⟩
      rw [show its.toArray.any (fun _ => false) = false by simp]
      exact q
    · obtain ⟨its, r, pl, hz⟩ := I.tuple hq
      refine SeqAt.in_tupleAt (fun _ => false) pl (fun w hw => box_items I hb rx hu r w (by simpa using hw)) ⟨.bl _, H, I, rfl, ?_⟩
      rw [show its.toArray.any (fun _ => false) = false by simp]
      exact q
end
end L2

/-! sets of texts: set(xs), sorted(set(xs)), len(set(xs)) -/
namespace L2
open PySem PySem.Spec PyProof.Rows
abbrev newSetO (w : World) : Obj := { cls := .type "set", dict := none, data := .set #[] 0 (.fresh 0 0 (!w.params.followText "set-order")) }
def txtOf (e : Int × Value) : Str := match e.2 with | .str x _ => x | _ => Str.empty
def TxtE (w : World) (e : Int × Value) : Prop := ∃ x tk, e.2 = Value.str x tk ∧ e.1 = hashStr w x
/-- the set of texts at a: its members are L, in some order -/
def SetS (w : World) (h : Heap) (a : Addr) (L : List Str) : Prop :=
  ∃ o es ep t, h.get? a = some o ∧ o.ExactSet ∧ o.data = .set es ep t ∧ (∀ e ∈ es.toList, TxtE w e) ∧ (es.toList.map txtOf).Perm L ∧ L.Nodup ∧
    es.size < scanBound ∧ t.fits es.size = true ∧ Ris t.place.toList ∧ (w.params.followText "set-order" = true ∨ t.led = true)
section
variable {P : Program} {w : World} {h h' : Heap} {a : Addr} {L : List Str}
theorem SetS.at (R : SetS w h a L) (k : ∀ o, h.get? a = some o → h'.get? a = some o) : SetS w h' a L := by
  obtain ⟨o, es, ep, t, ho, r⟩ := R
  exact ⟨o, es, ep, t, k o ho, r⟩
theorem txt_elems {l : List (Int × Value)} (g : ∀ e ∈ l, TxtE w e) : ElemsOf (PySem.strKind P w) l := fun e he => by
  obtain ⟨k, tk, h1, h2⟩ := g e he
  exact ⟨⟨k, by rw [h1]; exact strKind_is P w k tk, h2⟩, by rw [h1] <;> rfl⟩
theorem txt_is {e : Int × Value} (g : TxtE w e) (k : Str) : (PySem.strKind P w).is k e.2 = true ↔ txtOf e = k := by
  obtain ⟨k0, tk, h1, _⟩ := g
  unfold txtOf
  rw [h1]
  constructor
  · intro z
    obtain ⟨t, e⟩ := Value.isStrOf_shape (show Value.isStrOf k (.str k0 tk) = true from z)
    injection e
  · intro z
    show (PySem.strKind P w).is k (.str k0 tk) = true
    have z' : k0 = k := z
    rw [z']
    exact strKind_is P w k tk
theorem setS_fresh (w : World) {h : Heap} (ho : h.get? a = some (newSetO w)) : SetS w h a [] :=
  ⟨_, #[], 0, _, ho, ⟨rfl, rfl, rfl⟩, rfl, (fun e he => by simp at he), List.Perm.nil, List.nodup_nil, (by decide), (by rfl), List.Pairwise.nil, by
    show _ ∨ (!w.params.followText "set-order") = true
    cases w.params.followText "set-order"
    · exact .inr rfl
    · exact .inl rfl⟩
end
section
variable {P : Program} {w : World} {A : Around} {E : Value → Shared → Prop} {s : Shared} {a : Addr} {L : List Str}
theorem setS_tail {g : Bool → Sem Unit} (hg : ∀ (b : Bool) (s₁ : Shared) (Q' : Unit → Shared → Prop), Q' () s₁ → wpAny (model P w) A (g b) Q' E s₁)
    {o : Obj} {es : Array (Int × Value)} {ep : Nat} {t : SetTable} (ho : s.heap.get? a = some o) (hex : o.ExactSet) (hd : o.data = .set es ep t)
    {es1 : Array (Int × Value)} {t2 : SetTable} (g1 : ∀ e ∈ es1.toList, TxtE w e) (p1 : (es1.toList.map txtOf).Perm L) (nd : L.Nodup)
    (hb1 : es1.size < scanBound) (hf2 : t2.fits es1.size = true) (hr : Ris t2.place.toList) (hl : w.params.followText "set-order" = true ∨ t2.led = true) {wasDummy : Bool} {R : Option Bool → Shared → Prop}
    (hR : ∀ h', Heap.SameBut a s.heap h' → SetS w h' a L → R (some true) { s with heap := h' }) :
    wpAny (model P w) A (do
        storeSet a es1 t2
        if (!wasDummy && t2.tooFull) = true then do
            g (relayAll t2 es1 (SetTable.grown es1.size)).2.2
            storeSet a (relayAll t2 es1 (SetTable.grown es1.size)).1 (relayAll t2 es1 (SetTable.grown es1.size)).2.1
            pure (some true)
          else pure (some true)) R E s := by
  refine wpAny_bind (wpAny_storeSet_of ho hd ?_ (fits_of_scanBound hb1))
  have o1 := store_at (es' := es1) (t' := t2) ho hd
  have b1 := Heap.SameBut.update s.heap a (Obj.putSet es1 t2)
  split
  · have q1 := relayAll_perm t2 es1 (SetTable.grown es1.size)
    have q2 := relayAll_fits t2 es1 (SetTable.grown es1.size)
    have q3 := relayAll_ris t2 es1 (SetTable.grown es1.size)
    have q4 := relayAll_led t2 es1 (SetTable.grown es1.size)
    generalize relayAll t2 es1 (SetTable.grown es1.size) = Z at q1 q2 q3 q4 ⊢
    obtain ⟨es2, t3, gave⟩ := Z
    dsimp only at q1 q2 q3 q4 ⊢
    have sz : es2.size = es1.size := by rw [← Array.length_toList, q1.length_eq, Array.length_toList]
    have hb2 : es2.size < scanBound := by rw [sz]; exact hb1
    refine wpAny_bind (hg _ _ _ (wpAny_bind (wpAny_storeSet_of o1 rfl ?_ (fits_of_scanBound hb2))))
    have o2 := store_at (es' := es2) (t' := t3) o1 rfl
    refine wpAny_pure (hR _ (b1.trans (Heap.SameBut.update _ a _)) ⟨_, es2, _, t3, o2, hex, rfl, fun e he => g1 e (q1.mem_iff.mp he), (q1.map txtOf).trans p1, nd, hb2, q2, q3, ?_⟩)
    rcases hl with z | z
    · exact .inl z
    · exact .inr (by rw [q4]; exact z)
  · exact wpAny_pure (hR _ b1 ⟨_, es1, _, t2, o1, hex, rfl, g1, p1, nd, hb1, hf2, hr, hl⟩)
/-- one text more -/
theorem setS_add {x : Str} {tk : Tok} {Q : Bool → Shared → Prop} (R : SetS w s.heap a L) (room : L.length + 1 < scanBound)
    (hQ : ∀ h' b, Heap.SameBut a s.heap h' → SetS w h' a (if x ∈ L then L else L ++ [x]) → Q b { s with heap := h' }) :
    wpAny (model P w) A (setAddHashed a (.str x tk) ((PySem.strKind P w).hash x)) Q E s := by
  obtain ⟨o, es, ep, t, ho, hex, hd, g, pl, nd, hb, hf, hr, hl⟩ := R
  have key : (PySem.strKind P w).is x (.str x tk) = true := strKind_is P w x tk
  have sc : (Value.str x tk).scannable = true := rfl
  have el : ElemsOf (PySem.strKind P w) es.toList := txt_elems g
  have len : es.size = L.length := by
    have z := pl.length_eq
    rw [List.length_map, Array.length_toList] at z
    exact z
  unfold setAddHashed setAddHashedIn
  refine wpAny_holding (wpAny_bind (wpAny_setState_of ho hd hf ?_))
  dsimp only
  rw [byScan_of sc hb el]
  simp only [↓reduceIte]
  unfold setAddByScan
  refine wpAny_bind (wpAny_bind (wpAny_rule (wpAny_bind (wpAny_setScan_of key ho hd hf el ?_))))
  cases fi : List.findIdx? (fun e => (PySem.strKind P w).is x e.2) es.toList with
  | some j =>
    dsimp only
    obtain ⟨hj, pj, _⟩ := List.findIdx?_eq_some_iff_getElem.mp fi
    have mem : x ∈ L := pl.mem_iff.mp (List.mem_map.mpr ⟨es.toList[j], List.getElem_mem hj, (txt_is (P := P) (g _ (List.getElem_mem hj)) x).mp pj⟩)
    refine wpAny_pure (wpAny_pure (hQ s.heap _ (Heap.SameBut.refl a s.heap) ?_))
    rw [if_pos mem]
    exact ⟨o, es, ep, t, ho, hex, hd, g, pl, nd, hb, hf, hr, hl⟩
  | none =>
    dsimp only
    have nmem : x ∉ L := fun z => by
      obtain ⟨e, he, q⟩ := List.mem_map.mp (pl.mem_iff.mpr z)
      have c := List.findIdx?_eq_none_iff.mp fi e he
      rw [(txt_is (P := P) (g e he) x).mpr q] at c
      cases c
    have gw : ∀ (b : Bool) {s₁ : Shared} {Q' : Unit → Shared → Prop}, Q' () s₁ → wpAny (model P w) A (match b with | true => rule "set.scan.the-table-gave-way" | false => pure ()) Q' E s₁ :=
      fun b s₁ Q' q => by cases b <;> first | exact wpAny_pure q | exact wpAny_rule q
    have z1 := layNew_perm t es ((PySem.strKind P w).hash x) (.str x tk)
    have z2 := layNew_fits t es ((PySem.strKind P w).hash x) (.str x tk)
    have z3 := layNew_ris t es ((PySem.strKind P w).hash x) (.str x tk) hr
    have z4 := layNew_led t es ((PySem.strKind P w).hash x) (.str x tk)
    generalize layNew t es ((PySem.strKind P w).hash x) (.str x tk) = Z at z1 z2 z3 z4 ⊢
    obtain ⟨es1, t1, wasDummy, gave⟩ := Z
    dsimp only at z1 z2 z3 z4 ⊢
    rw [Array.toList_push] at z1
    have pk : (es1.toList.map txtOf).Perm (L ++ [x]) := by
      have q := z1.map txtOf
      rw [List.map_append] at q
      exact q.trans (pl.append_right _)
    have g1 : ∀ e ∈ es1.toList, TxtE w e := fun e he => by
      rcases List.mem_append.mp (z1.mem_iff.mp he) with z | z
      · exact g e z
      · rw [List.mem_singleton.mp z]; exact ⟨x, tk, rfl, rfl⟩
    have nd1 : (L ++ [x]).Nodup := List.nodup_append.mpr ⟨nd, List.nodup_cons.mpr ⟨by simp, List.nodup_nil⟩, fun y hy y' hy' e => nmem (by rw [← List.mem_singleton.mp hy', ← e]; exact hy)⟩
    have sz : es1.size = L.length + 1 := by
      have z := pk.length_eq
      rw [List.length_map, Array.length_toList, List.length_append] at z
      exact z
    have hb1 : es1.size < scanBound := by rw [sz]; exact room
    have led : w.params.followText "set-order" = true ∨ t1.led = true := by
      rcases hl with z | z
      · exact .inl z
      · exact .inr (by rw [z4]; exact z)
    have fin : ∀ h', Heap.SameBut a s.heap h' → SetS w h' a (L ++ [x]) → Q true { s with heap := h' } := fun h' sb r => hQ h' true sb (by rw [if_neg nmem]; exact r)
    refine wpAny_bind (gw _ ?_)
    split
    · refine wpAny_bind ?_
      rw [hashByValue_scannable 8 sc]
      refine wpAny_pure (setS_tail ?_ ho hex hd g1 pk nd1 hb1 ?_ ?_ ?_ ?_)
      · intro b s₁ Q' q; cases b <;> first | exact wpAny_pure q | exact wpAny_rule q
      · first | (split <;> first | exact z2 | exact SetTable.fits_plain_off z2) | exact z2
      · first | (split <;> exact z3) | exact z3
      · first | (split <;> exact led) | exact led
      · intro h' sb r; dsimp only; exact wpAny_pure (fin h' sb r)
    · refine wpAny_bind (wpAny_pure ?_)
      simp only [↓reduceIte]
      refine setS_tail ?_ ho hex hd g1 pk nd1 hb1 z2 z3 led ?_
      · intro b s₁ Q' q; cases b <;> first | exact wpAny_pure q | exact wpAny_rule q
      · intro h' sb r; dsimp only; exact wpAny_pure (fin h' sb r)
end
/-- the texts in the order in which they are first met -/
def firsts (xs : List Str) : List Str := xs.foldl (fun L x => if x ∈ L then L else L ++ [x]) []
theorem firsts_snoc (xs : List Str) (x : Str) : firsts (xs ++ [x]) = if x ∈ firsts xs then firsts xs else firsts xs ++ [x] := by
  unfold firsts
  rw [List.foldl_append]
  rfl
theorem firsts_len (xs : List Str) : (firsts xs).length ≤ xs.length := by
  have gen : ∀ (ys : List Str) (L : List Str), (ys.foldl (fun L x => if x ∈ L then L else L ++ [x]) L).length ≤ L.length + ys.length := by
    intro ys
    induction ys with
    | nil => intro L; exact Nat.le_refl _
    | cons y ys ih =>
      intro L
      refine Nat.le_trans (ih _) ?_
      rw [List.length_cons]
      show (if y ∈ L then L else L ++ [y]).length + _ ≤ _
      split
      · omega
      · rw [List.length_append, List.length_singleton]; omega
  exact Nat.le_trans (gen xs []) (by simp)
section
variable {P : Program} {w : World} {A : Around} {E : Value → Shared → Prop} {s : Shared}
/-- the loop of set.update over texts -/
theorem setS_loop {I : Addr} {fp wr : List Addr} {G : Array GenState → Array GenState → Prop} {n : Nat} {Pv : Nat → Value → Prop} {St : Nat → Shared → Prop} {R : Result → Shared → Prop}
    (W : WalksS P w A.in1 I fp wr G n Pv St) (S : Addr) (hSf : S ∉ fp) (xs : List Str) (hn : n = xs.length) (few : xs.length + 1 < scanBound) (hval : ∀ i v, Pv i v → ∃ x t, xs[i]? = some x ∧ v = .str x t) :
    ∀ (k i : Nat) (s : Shared), n - i = k → i ≤ n → St i s → SetS w s.heap S (firsts (xs.take i)) →
      (∀ s', Moved (S :: wr) G s s' → SetS w s'.heap S (firsts xs) → R (.ok (.ret .none)) s') →
      codeAny (model P w) A (.builtin "set.update.loop" ⟨[.ref S, .ref I], []⟩) R s := by
  have hSw : S ∉ wr := fun h => hSf (W.sub _ h)
  have wid : ∀ b ∈ wr, b ∈ S :: wr := fun b hb => List.mem_cons_of_mem _ hb
  intro k
  induction k with
  | zero =>
    intro i s hk hi hst hS hR
    have e : i = n := by omega
    subst e
    rw [hn, List.take_length] at hS
    refine codeAny_builtin F.entry_set_update_loop ?_
    rw [Around.under_plainId F.plain_set_update_loop _]
    show wpAny _ A.in1 (pyNext (.ref I) >>= _) _ _ s
    refine wpAny_bind (W.done s _ _ hst fun s' hm => ?_)
    exact wpAny_pure (hR s' (hm.mono wid) (hS.at fun o e => hm.heap S o hSw e))
  | succ k ih =>
    intro i s hk hi hst hS hR
    have lt : i < n := by omega
    refine codeAny_builtin F.entry_set_update_loop ?_
    rw [Around.under_plainId F.plain_set_update_loop _]
    show wpAny _ A.in1 (pyNext (.ref I) >>= _) _ _ s
    refine wpAny_bind (W.item i s _ _ lt hst fun v s' hP hst' hm => ?_)
    obtain ⟨x, t, hx, rfl⟩ := hval i v hP
    have hS' : SetS w s'.heap S (firsts (xs.take i)) := hS.at fun o e => hm.heap S o hSw e
    have tk : xs.take (i + 1) = xs.take i ++ [x] := by rw [List.take_add_one, hx]; rfl
    show wpAny _ A.in1 (holding [Value.str x t] (setAdd S (.str x t)) >>= _) _ _ s'
    refine wpAny_bind (wpAny_holding ?_)
    unfold setAdd
    refine wpAny_holding (wpAny_bind ((PySem.strKind P w).pyHash (strKind_is P w x t) ?_))
    have fl := firsts_len (xs.take i)
    rw [List.length_take] at fl
    refine setS_add (s := { s' with toks := s'.toks + 1 }) hS' (by omega) fun h' b sb r => ?_
    rw [← firsts_snoc, ← tk] at r
    refine wpAny_pure ⟨plainId_quiet F.plain_set_update_loop _, ih (i + 1) _ (by omega) lt (W.frame _ s' _ _ hst' (Nat.le_succ _) fun b hb o e => ?_) r fun s'' hm'' hS'' => ?_⟩
    · rw [sb.2 b (fun h : b = S => hSf (by rw [← h]; exact hb))]; exact e
    · refine hR s'' (Moved.trans W.gtrans ((hm.mono wid).then_heap (Nat.le_succ _) fun b o hb e => ?_) hm'') hS''
      rw [sb.2 b (fun h : b = S => hb (by rw [h]; exact List.mem_cons_self))]; exact e
end
section
variable {P : Program} {w : World} {A : Around} {E : Value → Shared → Prop} {s : Shared}
set_option maxHeartbeats 8000000 in
/-- set(xs), xs a list of texts -/
theorem setS_list {l : Addr} {items : Array Value} {xs : List Str} {Q : Value → Shared → Prop} (hh : A.handled = none) (hl : s.heap.IsList l items) (hv : ∀ (i : Nat) (v : Value), items[i]? = some v → ∃ x t, xs[i]? = some x ∧ v = .str x t) (hz : items.size = xs.length) (few : xs.length + 1 < scanBound)
    (h : ∀ (h' : Heap) (tk : Nat), SetS w h' s.heap.objs.size (firsts xs) → (∀ b o, s.heap.get? b = some o → h'.get? b = some o) → Q (.ref s.heap.objs.size) { s with heap := h', toks := tk }) :
    wpAny (model P w) A (call (.type "set") [.ref l]) Q E s := by
  obtain ⟨c, tl, hmro⟩ := F.called_set.mro
  have hmade := F.called_set.made
  have hsub := F.called_set.sub
  refine wpAny_call (codeAny_of_tree ?_)
  show wpAny _ _ (callAny (.type "set") _) _ _ _
  refine wpAny_pure ⟨Code.quiet_builtin _ (by decide +kernel), codeAny_builtin F.entry_type_call ?_⟩
  rw [Around.under_plain (weight_type_call_type "set" [.ref l] []) rfl]
  have h1 := F.called_set.notType
  have h2 := F.called_set.canCreate
  have hct := F.typeCall_set_1 (.ref l)
  repeat (any_goals (first | assumption | wp_step))
  refine codeAny_mono (code_set_led1 (.ref l) (E := E) (Q₁ := fun obj s₁ => obj = .ref s.heap.objs.size ∧ s₁ = { s with heap := s.heap.push (newSetO w) }) ⟨rfl, rfl⟩) fun r s₁ hr => ?_
  cases r with
  | error e => exact hr
  | ok fl =>
    cases fl with
    | ret obj =>
      obtain ⟨rfl, rfl⟩ := hr
      have hS : (s.heap.push (newSetO w)).get? s.heap.objs.size = some (newSetO w) := Heap.get?_push_size _ rfl
      have hT : Shared.TypeIs { s with heap := s.heap.push (newSetO w) } (.ref s.heap.objs.size) "set" := ⟨_, hS, rfl⟩
      have hli := F.called_set.init.lookup
      have hbi := F.called_set.init.bind (.ref s.heap.objs.size)
      repeat (any_goals (first | assumption | wp_step))
      refine codeAny_mono (codeAny_call_builtin (R := wants (fun r s₂ => r = .none ∧ ∃ h' tk, s₂ = { s with heap := h', toks := tk } ∧ SetS w h' s.heap.objs.size (firsts xs) ∧ (∀ b o, s.heap.get? b = some o → h'.get? b = some o)) E) F.called_set.init.plain F.entry_set_init (check_set_init_1 hT ?_)) fun r₂ s₂ hr₂ => ?_
      · obtain ⟨ol, hol, hcl, nl, hdl⟩ := hl
        obtain ⟨ocls, odict, odata, oslots⟩ := ol
        simp only at hcl hdl
        subst hcl; subst hdl
        have hol' : (s.heap.push (newSetO w)).get? l = some { cls := .type "list", dict := odict, data := .seq items nl, slots := oslots } := Heap.get?_push_of_some _ hol
        have hsls := F.sub_list_set
        have hslf := F.sub_list_frozenset
        have hne : (Value.type "list" == Value.type "dict") = false := by decide
        have hl1 : (s.heap.push (newSetO w)).IsList l items := ⟨_, hol', rfl, nl, rfl⟩
        unfold Builtin.«set.__init__» noKeywords Builtin.Frozenset.updateFrom
        generalize hPI : pyIter = PI
        wp_walk
        subst hPI
        refine wpAny_pyIter_list hl1 ?_
        refine wpAny_bind (wpAny_runValue ?_)
        have lt : l < s.heap.objs.size := Heap.lt_size hol
        have hh3 : A.in1.in1.in1.handled = none := by simp [hh]
        have sz : (s.heap.push (newSetO w)).objs.size = s.heap.objs.size + 1 := Heap.size_push ..
        have neI : l ≠ (s.heap.push (newSetO w)).objs.size := by
          rw [sz]
          exact Nat.ne_of_lt (Nat.lt_succ_of_lt lt)
        have nf : s.heap.objs.size ∉ [(s.heap.push (newSetO w)).objs.size, l] := by
          rw [sz]
          simp only [List.mem_cons, List.not_mem_nil, or_false, not_or]
          exact ⟨Nat.ne_of_lt (Nat.lt_succ_self _), Nat.ne_of_gt lt⟩
        refine setS_loop ((Walks.list hh3 _ l neI items).toS) s.heap.objs.size nf xs hz few hv (items.size - 0) 0 _ (by omega) (Nat.zero_le _) ⟨⟨_, Heap.get?_push_size _ rfl, rfl, rfl⟩, (hl1.push _)⟩ (setS_fresh w (Heap.get?_push_of_some _ hS)) ?hR
        case hR =>
          intro s' hm hS'
          obtain ⟨h', g2, d', tk', os'⟩ := s'
          have eg : g2 = s.gens := hm.gens
          have ed : d' = s.drawn := hm.drawn
          have eo : os' = s.os := hm.os
          subst eg; subst ed; subst eo
          show wpAny _ _ _ _ _ _
          refine wpAny_pure ?_
          show wpAny _ _ (ret Value.none) _ _ _
          refine wpAny_pure ⟨rfl, h', tk', rfl, hS', fun b o e => ?_⟩
          have lb := Heap.lt_size e
          refine hm.heap b o (fun z => ?_) (Heap.get?_push_of_some _ (Heap.get?_push_of_some _ e))
          rw [sz] at z
          simp only [List.mem_cons, List.not_mem_nil, or_false] at z
          rcases z with z | z
          · exact absurd z (Nat.ne_of_lt lb)
          · exact absurd z (Nat.ne_of_lt (Nat.lt_succ_of_lt lb))
      · cases r₂ with
        | error e => exact hr₂
        | ok fl₂ =>
          cases fl₂ with
          | ret r =>
            obtain ⟨rfl, h', tk, rfl, hS', hk'⟩ := hr₂
            repeat (any_goals (first | assumption | wp_step))
            exact h _ _ hS' hk'
          | _ => exact hr₂.elim
    | _ => exact hr.elim
set_option maxHeartbeats 8000000 in
/-- set(xs), xs a tuple of texts -/
theorem setS_tuple {l : Addr} {items : Array Value} {xs : List Str} {Q : Value → Shared → Prop} (hh : A.handled = none) (hl : s.heap.IsTuple l items) (hv : ∀ (i : Nat) (v : Value), items[i]? = some v → ∃ x t, xs[i]? = some x ∧ v = .str x t) (hz : items.size = xs.length) (few : xs.length + 1 < scanBound)
    (h : ∀ (h' : Heap) (tk : Nat), SetS w h' s.heap.objs.size (firsts xs) → (∀ b o, s.heap.get? b = some o → h'.get? b = some o) → Q (.ref s.heap.objs.size) { s with heap := h', toks := tk }) :
    wpAny (model P w) A (call (.type "set") [.ref l]) Q E s := by
  obtain ⟨c, tl, hmro⟩ := F.called_set.mro
  have hmade := F.called_set.made
  have hsub := F.called_set.sub
  refine wpAny_call (codeAny_of_tree ?_)
  show wpAny _ _ (callAny (.type "set") _) _ _ _
  refine wpAny_pure ⟨Code.quiet_builtin _ (by decide +kernel), codeAny_builtin F.entry_type_call ?_⟩
  rw [Around.under_plain (weight_type_call_type "set" [.ref l] []) rfl]
  have h1 := F.called_set.notType
  have h2 := F.called_set.canCreate
  have hct := F.typeCall_set_1 (.ref l)
  repeat (any_goals (first | assumption | wp_step))
  refine codeAny_mono (code_set_led1 (.ref l) (E := E) (Q₁ := fun obj s₁ => obj = .ref s.heap.objs.size ∧ s₁ = { s with heap := s.heap.push (newSetO w) }) ⟨rfl, rfl⟩) fun r s₁ hr => ?_
  cases r with
  | error e => exact hr
  | ok fl =>
    cases fl with
    | ret obj =>
      obtain ⟨rfl, rfl⟩ := hr
      have hS : (s.heap.push (newSetO w)).get? s.heap.objs.size = some (newSetO w) := Heap.get?_push_size _ rfl
      have hT : Shared.TypeIs { s with heap := s.heap.push (newSetO w) } (.ref s.heap.objs.size) "set" := ⟨_, hS, rfl⟩
      have hli := F.called_set.init.lookup
      have hbi := F.called_set.init.bind (.ref s.heap.objs.size)
      repeat (any_goals (first | assumption | wp_step))
      refine codeAny_mono (codeAny_call_builtin (R := wants (fun r s₂ => r = .none ∧ ∃ h' tk, s₂ = { s with heap := h', toks := tk } ∧ SetS w h' s.heap.objs.size (firsts xs) ∧ (∀ b o, s.heap.get? b = some o → h'.get? b = some o)) E) F.called_set.init.plain F.entry_set_init (check_set_init_1 hT ?_)) fun r₂ s₂ hr₂ => ?_
      · obtain ⟨ol, hol, hcl, nl, hdl⟩ := hl
        obtain ⟨ocls, odict, odata, oslots⟩ := ol
        simp only at hcl hdl
        subst hcl; subst hdl
        have hol' : (s.heap.push (newSetO w)).get? l = some { cls := .type "tuple", dict := odict, data := .seq items nl, slots := oslots } := Heap.get?_push_of_some _ hol
        have hsls := F.sub_tuple_set
        have hslf := F.sub_tuple_frozenset
        have hne : (Value.type "tuple" == Value.type "dict") = false := by decide
        have hl1 : (s.heap.push (newSetO w)).IsTuple l items := ⟨_, hol', rfl, nl, rfl⟩
        unfold Builtin.«set.__init__» noKeywords Builtin.Frozenset.updateFrom
        generalize hPI : pyIter = PI
        wp_walk
        subst hPI
        refine wpAny_pyIter_tuple hl1 ?_
        refine wpAny_bind (wpAny_runValue ?_)
        have lt : l < s.heap.objs.size := Heap.lt_size hol
        have hh3 : A.in1.in1.in1.handled = none := by simp [hh]
        have sz : (s.heap.push (newSetO w)).objs.size = s.heap.objs.size + 1 := Heap.size_push ..
        have neI : l ≠ (s.heap.push (newSetO w)).objs.size := by
          rw [sz]
          exact Nat.ne_of_lt (Nat.lt_succ_of_lt lt)
        have nf : s.heap.objs.size ∉ [(s.heap.push (newSetO w)).objs.size, l] := by
          rw [sz]
          simp only [List.mem_cons, List.not_mem_nil, or_false, not_or]
          exact ⟨Nat.ne_of_lt (Nat.lt_succ_self _), Nat.ne_of_gt lt⟩
        refine setS_loop ((Walks.tuple hh3 _ l neI items).toS) s.heap.objs.size nf xs hz few hv (items.size - 0) 0 _ (by omega) (Nat.zero_le _) ⟨⟨_, Heap.get?_push_size _ rfl, rfl, rfl⟩, (hl1.push _)⟩ (setS_fresh w (Heap.get?_push_of_some _ hS)) ?hR
        case hR =>
          intro s' hm hS'
          obtain ⟨h', g2, d', tk', os'⟩ := s'
          have eg : g2 = s.gens := hm.gens
          have ed : d' = s.drawn := hm.drawn
          have eo : os' = s.os := hm.os
          subst eg; subst ed; subst eo
          show wpAny _ _ _ _ _ _
          refine wpAny_pure ?_
          show wpAny _ _ (ret Value.none) _ _ _
          refine wpAny_pure ⟨rfl, h', tk', rfl, hS', fun b o e => ?_⟩
          have lb := Heap.lt_size e
          refine hm.heap b o (fun z => ?_) (Heap.get?_push_of_some _ (Heap.get?_push_of_some _ e))
          rw [sz] at z
          simp only [List.mem_cons, List.not_mem_nil, or_false] at z
          rcases z with z | z
          · exact absurd z (Nat.ne_of_lt lb)
          · exact absurd z (Nat.ne_of_lt (Nat.lt_succ_of_lt lb))
      · cases r₂ with
        | error e => exact hr₂
        | ok fl₂ =>
          cases fl₂ with
          | ret r =>
            obtain ⟨rfl, h', tk, rfl, hS', hk'⟩ := hr₂
            repeat (any_goals (first | assumption | wp_step))
            exact h _ _ hS' hk'
          | _ => exact hr₂.elim
    | _ => exact hr.elim
/-- sorted(the set) -/
theorem sortedS_set {a : Addr} {L : List Str} {Q : Value → Shared → Prop} (R : SetS w s.heap a L) (hh : A.handled = none) (h64 : L.length < 64)
    (hQ : ∀ s' p (out : Array Value) (c : Nat) (ys : List Str), (∀ b o, s.heap.get? b = some o → s'.heap.get? b = some o) → s'.gens = s.gens → s'.os = s.os → s.heap.objs.size ≤ p →
      s'.heap.get? p = some (seqObj "list" out c) → StrsAre out.toList ys → ys.Perm L → sortedS ys = true → Q (.ref p) s') :
    wpAny (model P w) A (call (.builtin "sorted") [.ref a]) Q E s := by
  obtain ⟨o, es, ep, t, ho, hex, hd, g, pl, nd, hb, hf, hr, hl⟩ := R
  refine Calls.call_function_entry kind_sorted plain_sorted entry_sorted (args_sorted1 _) ?_
  unfold Builtin.«sorted»
  refine wpAny_bind (m := checkCount "sorted" 1 1 _) (wpAny_pure ?_)
  refine wpAny_bind (collect_set (A := A.in1) hh ⟨o, ho, hex.1, hd⟩ hf hb hr hl fun s1 vs k1 hz g1 o1 pm => ?_)
  have txs : ∀ us : List Value, (∀ u ∈ us, ∃ x tk, u = Value.str x tk) → StrsAre us (us.map fun u => txtOf (0, u)) := by
    intro us
    induction us with
    | nil => intro _; exact .nil
    | cons u us ih =>
      intro hu
      obtain ⟨x, tk, rfl⟩ := hu u List.mem_cons_self
      exact .cons x tk (ih fun v hv => hu v (List.mem_cons_of_mem _ hv))
  have hS : StrsAre vs (vs.map fun u => txtOf (0, u)) := txs vs fun v hv => by
    obtain ⟨e, he, q⟩ := List.mem_map.mp (pm.mem_iff.mp hv)
    obtain ⟨x, tk, e1, _⟩ := g e he
    exact ⟨x, tk, by rw [← q]; exact e1⟩
  have pk : (vs.map fun u => txtOf (0, u)).Perm L := by
    have q := pm.map fun u => txtOf (0, u)
    rw [List.map_map] at q
    exact q.trans pl
  have vl : vs.length = L.length := by
    have z := pk.length_eq
    rw [List.length_map] at z
    exact z
  refine wpAny_bind (wpAny_newList ?_ (by rw [sizeLine_eq]; omega))
  have oL : (s1.heap.push (seqObj "list" vs.toArray 0)).get? s1.heap.objs.size = some (seqObj "list" vs.toArray 0) := Heap.get?_push_size _ rfl
  refine wpAny_bind (wpAny_holding (wpAny_call_entry slot_list_sort ⟨_, oL, rfl⟩ entry_list_sort
    (list_sort_treeK strKind_oneLt oL hS.keysOf (fun v₁ v₂ rest e => keyKind_strs (by rw [← e]; exact hS)) (by rw [vl]; exact h64) fun st' hp hs => ?_) (args_list_sort _)))
  obtain ⟨ys, f1, f2, f3⟩ := sorted_out_str hS hp hs
  obtain ⟨c, hc⟩ := sortedHeap_at (vs := vs) (out := (arrOf st').map (·.2)) oL
  refine ⟨_, rfl, wpAny_pure ⟨_, rfl, hQ _ s1.heap.objs.size _ c ys (fun b u e => ?_) g1 o1 hz hc f1 (f2.trans pk) f3⟩⟩
  have q := k1 b u e
  have lt := Heap.lt_size q
  show (sortedHeap (s1.heap.push (seqObj "list" vs.toArray 0)) s1.heap.objs.size vs _).get? b = some u
  rw [sortedHeap_old (Nat.ne_of_lt lt) (by rw [size_push']; exact Nat.lt_succ_of_lt lt)]
  exact Heap.get?_push_of_some _ q
end
/-- a set of texts, tracked -/
def SetX (w : World) (a : Addr) (L : List Str) : HO := .ext fun h => SetS w h a L
theorem setX_new {P : Program} {w : World} {H : Hp} {h : Heap} {a : Addr} {L : List Str} (R : SetS w h a L) : ObjOk P w H h a (SetX w a L) := by
  have ⟨o, es, ep, t, ho, r⟩ := R
  exact ⟨R, ⟨o, ho⟩, fun h1 h2 p k => SetS.at p k⟩
theorem vals_txs : ∀ {xs : List Str} {us : List Value}, Vals (xs.map V.str) us → ∀ (i : Nat) (v : Value), us[i]? = some v → ∃ x t, xs[i]? = some x ∧ v = .str x t
  | [], _, .nil, i, v, h => by simp at h
  | x :: xs, _, .cons r t, 0, v, h => by
    obtain ⟨tk, rfl⟩ := r
    have e := Option.some.inj h
    exact ⟨x, tk, rfl, e.symm⟩
  | x :: xs, _, .cons r t, i + 1, v, h => vals_txs t i v h
section
variable {X : Cx}
def rSetX (K : PySem.W.Frag) (w : World) : List V → Hp → VK → Prop := fun vs H Q => ∃ (l : Addr) (xs : List Str), vs = [.ref l] ∧ (SqL K H l (xs.map V.str) ∨ SqT K H l (xs.map V.str)) ∧ xs.length ≤ 60 ∧ ∀ p, H p = none → Q (.ref p) (upd H p (SetX w p (firsts xs)))
theorem cr_setX (hc : X.calm = true) : CallR X (.type "set") (rSetX X.K X.w) := by
  intro pins s σ H vs us Q I r h
  obtain ⟨l, xs, rfl, hl, hf, q⟩ := h
  rw [Vals.ref1 r]
  have fin : ∀ (h' : Heap) (tk : Nat), SetS X.w h' s.heap.objs.size (firsts xs) → (∀ b o, s.heap.get? b = some o → h'.get? b = some o) → EP X pins σ Q (.ref s.heap.objs.size) { s with heap := h', toks := tk } := fun h' tk R k =>
    ⟨.ref s.heap.objs.size, _, I.laid (t' := tk) k (Nat.le_refl _) (setX_new R), rfl, q _ (I.hok.fresh (Nat.le_refl _))⟩
  have sb : xs.length + 1 < scanBound := by unfold scanBound; omega
  rcases hl with hl | hl
  · obtain ⟨its, rv, pl, hz⟩ := I.list hl
    exact setS_list (I.ok.hd hc) pl.isList (fun i v e => vals_txs rv i v (by simpa using e)) (by rw [List.size_toArray, ← rv.length, List.length_map]) sb fin
  · obtain ⟨its, rv, pl, hz⟩ := I.tuple hl
    exact setS_tuple (I.ok.hd hc) pl (fun i v e => vals_txs rv i v (by simpa using e)) (by rw [List.size_toArray, ← rv.length, List.length_map]) sb fin
def rSortX (w : World) : List V → Hp → VK → Prop := fun vs H Q => ∃ (a : Addr) (L : List Str), vs = [.ref a] ∧ H a = some (SetX w a L) ∧ L.length < 64 ∧ ∀ (ys : List Str) (p : Addr), ys.Perm L → sortedS ys = true → H p = none → Q (.ref p) (upd H p (.lst (ys.map V.str)))
theorem cr_sortX (hc : X.calm = true) : CallR X (.builtin "sorted") (rSortX X.w) := by
  intro pins s σ H vs us Q I r h
  obtain ⟨a, L, rfl, ha, h64, q⟩ := h
  have R : SetS X.w s.heap a L := (I.hok a _ ha).1
  rw [Vals.ref1 r]
  refine sortedS_set R (I.ok.hd hc) h64 fun s' p out c ys k g o hp hg hst pm so => ?_
  have hlen : (ys.map V.str).length ≤ sizeLine := by rw [List.length_map, pm.length_eq, sizeLine_eq]; omega
  have hn : H p = none := I.hok.fresh hp
  have J : Inv X pins σ (upd H p (.lst (ys.map V.str))) { s with heap := s'.heap, gens := s'.gens, drawn := s'.drawn, toks := s'.toks } :=
    I.call (ch := []) (Un.laid k hp hn) (I.hok.laid k hp ⟨hlen, out.toList, c, vals_of_strs hst, hg⟩) (by rw [g]; exact I.bare) (fun _ z => nomatch z)
  have e : s' = { s with heap := s'.heap, gens := s'.gens, drawn := s'.drawn, toks := s'.toks } := by
    cases s'
    cases s
    cases o
    rfl
  rw [e]
  exact ⟨.ref p, _, J, rfl, q ys p pm so hn⟩
def rLenX (w : World) : List V → Hp → VK → Prop := fun vs H Q => ∃ (a : Addr) (L : List Str), vs = [.ref a] ∧ H a = some (SetX w a L) ∧ Q (.int L.length) H
theorem cr_lenX : CallR X (.builtin "len") (rLenX X.w) := by
  intro pins s σ H vs us Q I r h
  obtain ⟨a, L, rfl, ha, q⟩ := h
  obtain ⟨o, es, ep, t, ho, hex, hd, g, pl, nd, hb, hf, hr, hl⟩ : SetS X.w s.heap a L := (I.hok a _ ha).1
  rw [Vals.ref1 r]
  have len : es.size = L.length := by
    have z := pl.length_eq
    rw [List.length_map, Array.length_toList] at z
    exact z
  refine call_len_set ho hex hd hf (by unfold scanBound at hb; omega) ⟨.int L.length, H, I.tok _, ⟨_, by rw [len]⟩, q⟩
end
end L2

/-! the order of texts; the sorted list of different texts is one -/
namespace L2
open PySem PySem.Spec PyProof.Rows
def leS (a b : Str) : Bool := !ltCps b.cps.toList a.cps.toList
theorem leS_iff {a b : Str} : leS a b = true ↔ a.cps.toList ≤ b.cps.toList := by
  unfold leS
  rw [ltCps_eq]
  simp [List.not_lt]
theorem leS_trans {a b c : Str} (h : leS a b = true) (k : leS b c = true) : leS a c = true := leS_iff.mpr (List.le_trans (leS_iff.mp h) (leS_iff.mp k))
theorem leS_total (a b : Str) : (leS a b || leS b a) = true := by
  rw [Bool.or_eq_true, leS_iff, leS_iff]
  exact List.le_total _ _
theorem str_ext {a b : Str} (h : a.cps.toList = b.cps.toList) : a = b := by
  obtain ⟨x⟩ := a
  obtain ⟨y⟩ := b
  congr 1
  exact Array.toList_inj.mp h
theorem leS_anti {a b : Str} (h : leS a b = true) (k : leS b a = true) : a = b := str_ext (List.le_antisymm (leS_iff.mp h) (leS_iff.mp k))
theorem rising_pw : ∀ (l : List Str) (x : Str), risingS x l = true → (x :: l).Pairwise (fun a b => leS a b = true)
  | [], x, _ => List.pairwise_singleton _ _
  | y :: l, x, h => by
    have h2 : (leS x y && risingS y l) = true := h
    rw [Bool.and_eq_true] at h2
    have ih := rising_pw l y h2.2
    refine List.pairwise_cons.mpr ⟨fun z hz => ?_, ih⟩
    rcases List.mem_cons.mp hz with rfl | hz
    · exact h2.1
    · exact leS_trans h2.1 ((List.pairwise_cons.mp ih).1 z hz)
theorem pw_rising : ∀ (l : List Str) (x : Str), (x :: l).Pairwise (fun a b => leS a b = true) → risingS x l = true
  | [], x, _ => rfl
  | y :: l, x, h => by
    obtain ⟨h1, h2⟩ := List.pairwise_cons.mp h
    show (leS x y && risingS y l) = true
    rw [Bool.and_eq_true]
    exact ⟨h1 y List.mem_cons_self, pw_rising l y h2⟩
theorem sortedS_pw {l : List Str} (h : sortedS l = true) : l.Pairwise (fun a b => leS a b = true) := by
  cases l with
  | nil => exact List.Pairwise.nil
  | cons x l => exact rising_pw l x h
theorem pw_sortedS {l : List Str} (h : l.Pairwise (fun a b => leS a b = true)) : sortedS l = true := by
  cases l with
  | nil => rfl
  | cons x l => exact pw_rising l x h
theorem sorted_one : ∀ {l l' : List Str}, l.Perm l' → l.Pairwise (fun a b => leS a b = true) → l'.Pairwise (fun a b => leS a b = true) → l = l'
  | [], l', p, _, _ => (List.nil_perm.mp p).symm
  | x :: l, [], p, _, _ => by have := p.length_eq; simp at this
  | x :: l, y :: l', p, h, h' => by
    obtain ⟨h1, h2⟩ := List.pairwise_cons.mp h
    obtain ⟨k1, k2⟩ := List.pairwise_cons.mp h'
    have e : x = y := by
      rcases List.mem_cons.mp (p.mem_iff.mp (List.mem_cons_self (a := x) (l := l))) with e | m
      · exact e
      · rcases List.mem_cons.mp (p.mem_iff.mpr (List.mem_cons_self (a := y) (l := l'))) with e | m'
        · exact e.symm
        · exact leS_anti (h1 y m') (k1 x m)
    subst e
    rw [sorted_one (List.Perm.cons_inv p) h2 k2]
theorem mem_firsts {z : Str} {xs : List Str} : z ∈ firsts xs ↔ z ∈ xs := by
  have gen : ∀ (ys L : List Str), z ∈ ys.foldl (fun L x => if x ∈ L then L else L ++ [x]) L ↔ z ∈ L ∨ z ∈ ys := by
    intro ys
    induction ys with
    | nil => intro L; simp
    | cons y ys ih =>
      intro L
      rw [List.foldl_cons, ih]
      split
      · rename_i hy
        rw [List.mem_cons]
        constructor
        · rintro (h | h)
          · exact .inl h
          · exact .inr (.inr h)
        · rintro (h | rfl | h)
          · exact .inl h
          · exact .inl hy
          · exact .inr h
      · rw [List.mem_append, List.mem_singleton, List.mem_cons, or_assoc]
  rw [firsts, gen]
  simp
theorem nodup_firsts (xs : List Str) : (firsts xs).Nodup := by
  have gen : ∀ (ys L : List Str), L.Nodup → (ys.foldl (fun L x => if x ∈ L then L else L ++ [x]) L).Nodup := by
    intro ys
    induction ys with
    | nil => intro L h; exact h
    | cons y ys ih =>
      intro L h
      refine ih _ ?_
      show (if y ∈ L then L else L ++ [y]).Nodup
      split
      · exact h
      · rename_i hy
        exact List.nodup_append.mpr ⟨h, List.nodup_cons.mpr ⟨by simp, List.nodup_nil⟩, fun a ha b hb e => hy (by rw [← List.mem_singleton.mp hb, ← e]; exact ha)⟩
  exact gen xs [] List.nodup_nil
/-- the different ones, ascending -/
def canon (zs : List Str) : List Str := (firsts zs).mergeSort leS
theorem canon_perm (zs : List Str) : (canon zs).Perm (firsts zs) := List.mergeSort_perm _ _
theorem canon_pw (zs : List Str) : (canon zs).Pairwise (fun a b => leS a b = true) := List.pairwise_mergeSort (le := leS) (fun _ _ _ h k => leS_trans h k) leS_total _
theorem canon_is {zs ys : List Str} (p : ys.Perm (firsts zs)) (s : sortedS ys = true) : ys = canon zs := sorted_one (p.trans (canon_perm zs).symm) (sortedS_pw s) (canon_pw zs)
theorem mem_canon {z : Str} {zs : List Str} : z ∈ canon zs ↔ z ∈ zs := (canon_perm zs).mem_iff.trans mem_firsts
theorem nodup_canon (zs : List Str) : (canon zs).Nodup := (canon_perm zs).nodup_iff.mpr (nodup_firsts zs)
theorem canon_len (zs : List Str) : (canon zs).length ≤ zs.length := by rw [(canon_perm zs).length_eq]; exact firsts_len zs
theorem canon_congr {xs ys : List Str} (h : ∀ z, z ∈ xs ↔ z ∈ ys) : canon xs = canon ys := by
  refine sorted_one ((List.perm_ext_iff_of_nodup (nodup_canon xs) (nodup_canon ys)).mpr fun z => ?_) (canon_pw xs) (canon_pw ys)
  rw [mem_canon, mem_canon, h]
/-- what is sorted and has no repeats is its own -/
theorem canon_self {ys : List Str} (nd : ys.Nodup) (pw : ys.Pairwise (fun a b => leS a b = true)) : canon ys = ys := by
  refine sorted_one ((List.perm_ext_iff_of_nodup (nodup_canon ys) nd).mpr fun z => mem_canon) (canon_pw ys) pw
theorem canon_canon (zs : List Str) : canon (canon zs) = canon zs := canon_self (nodup_canon zs) (canon_pw zs)
/-- a dict with the keys L -/
abbrev keyT (z : Str) : Key × V := (Sum.inr z, .bl true)
theorem put_keyT (L : List Str) (x : Str) : putK (L.map keyT) (Sum.inr x) (.bl true) = (if x ∈ L then L else L ++ [x]).map keyT := by
  unfold putK
  by_cases h : x ∈ L
  · have e : ((L.map keyT).any fun kv => decide (kv.1 = Sum.inr x)) = true := List.any_eq_true.mpr ⟨keyT x, List.mem_map.mpr ⟨x, h, rfl⟩, decide_eq_true rfl⟩
    rw [if_pos e, if_pos h, List.map_map]
    refine List.map_congr_left fun z _ => ?_
    show (if (Sum.inr z : Key) = Sum.inr x then ((Sum.inr z : Key), V.bl true) else keyT z) = keyT z
    split <;> rfl
  · have e : ¬ (((L.map keyT).any fun kv => decide (kv.1 = Sum.inr x)) = true) := fun z => by
      obtain ⟨kv, hm, hk⟩ := List.any_eq_true.mp z
      obtain ⟨y, hy, rfl⟩ := List.mem_map.mp hm
      have ey : (Sum.inr y : Key) = Sum.inr x := of_decide_eq_true hk
      exact h (by rw [← Sum.inr.inj ey]; exact hy)
    rw [if_neg e, if_neg h, List.map_append]
    rfl
end L2

/-! def f(a, b, **d), called without keywords -/
namespace TfW
open PySem PySem.Spec PyProof.Rows L2 StX
section
variable {CX : CXT} {P : Program} {w : World} {K : PySem.W.Frag} {mg : Str → Option Value} {base : Heap} {k : Nat} {f : Addr} {name qual : Str} {params : Arguments} {body : List Stmt} {scope : Scope} {dV kV doc pm cdv ct oc : Value} {an od : Option Addr}
  {osl : Array (Option Value)} {N : List Str} {sp : Sp}
theorem fn_kw0 {p1 p2 pd : Str} (lk : K.lookup f = some ⟨oc, od, .func (PySem.W.fnOf name qual params body scope dV kV doc pm an cdv ct), osl⟩) (hcd : PySem.W.codeIn K cdv qual = true) (S : FnScope N [p1, p2, pd] scope) (hCX : CXUp CX)
    (hb : ∀ a b : Value, bindArgs (PySem.W.fnOf name qual params body scope dV kV doc pm an cdv ct) ⟨[a, b], []⟩ = ((alloc ({ cls := .type "dict", data := .dict #[] } : Obj) : Sem Addr) >>= fun d => pure [(p1, a), (p2, b), (pd, Value.ref d)]))
    (hbody : ∀ (A : Around) (outer : List Env) (s : Shared) (H : Hp) (vs : List V) (Q : VK) (E : XK), Room k (A.deeper (envOfC qual scope s.heap.objs.size f cdv)) → sp vs H Q E →
      ∃ t, PSs (cxOf CX P w K mg base N qual scope f cdv A outer s H E) body t ∧ t { nx := fun _ H' => Q .non H', rt := Q } (start N vs) H) :
    FnR P w K mg base CX (k + 1) f (fun vs H Q E => ∃ a b, vs = [a, b] ∧ ∀ d, H d = Option.none → sp [a, b, V.ref d] (upd H d (.dK [])) Q E) := by
  intro A outer s H us vs Q E hr e0 r hsp
  obtain ⟨a, b, rfl, hq⟩ := hsp
  obtain ⟨u1, u2, rfl, r1, r2⟩ := vals2 r
  have hn : H s.heap.objs.size = Option.none := e0.hok.fresh (Nat.le_refl _)
  refine run_bnd lk hcd S hr e0 (G := fun xs H2 => ∃ d, H d = Option.none ∧ xs = [a, b, V.ref d] ∧ H2 = upd H d (.dK [])) (fun A' Ex Q' h => ?_) fun s2 H2 xs ⟨d, hd, ex, eH⟩ hr' => ?_
  · rw [hb u1 u2]
    refine wpAny_bind (wpAny_alloc (wpAny_pure ?_))
    have e2 := env0_laid (u := .dK []) (o := ({ cls := .type "dict", data := .dict #[] } : Obj)) e0 (dk_empty _ (env0_big e0))
    have un := un_laid (fs := frs outer) (s := s) (o := ({ cls := .type "dict", data := .dict #[] } : Obj)) (u := .dK []) hn
    exact h _ _ [a, b, V.ref s.heap.objs.size] [u1, u2, Value.ref s.heap.objs.size] e2 un rfl (fun e s' => hCX outer s H _ _ E e s' un (fun b o q => Heap.get?_push_of_some _ q) rfl) (.cons r1 (.cons r2 (.cons rfl .nil))) rfl ⟨_, hn, rfl, rfl⟩
  · subst ex eH
    exact hbody A outer s2 _ _ Q E hr' (hq d hd)
end
end TfW

/-! what stays: all but tables and dice -/
namespace Tf
open PySem PySem.Spec PyProof.Rows L2 LamX
/-- no table and no dice -/
def Solid (o : HO) : Prop := (∀ ps, o ≠ .tbl ps) ∧ ∀ x y z : Int, o ≠ .lst [.int x, .int y, .int z]
def Kept (H H' : Hp) : Prop := ∀ b o, H b = some o → Solid o → H' b = some o
/-- all but tables and what stands at d -/
def KpD (d : Addr) (H H' : Hp) : Prop := ∀ b o, b ≠ d → H b = some o → (∀ ps, o ≠ .tbl ps) → H' b = some o
theorem Kept.refl (H : Hp) : Kept H H := fun _ _ h _ => h
theorem Kept.trans {H H1 H2 : Hp} (a : Kept H H1) (b : Kept H1 H2) : Kept H H2 := fun c o h s => b c o (a c o h s) s
theorem KpD.refl (d : Addr) (H : Hp) : KpD d H H := fun _ _ _ h _ => h
theorem KpD.trans {d : Addr} {H H1 H2 : Hp} (a : KpD d H H1) (b : KpD d H1 H2) : KpD d H H2 := fun c o n h s => b c o n (a c o n h s) s
theorem dice_is {H : Hp} {d : Addr} (h : Dice H d) : ∃ x y z : Int, H d = some (.lst [.int x, .int y, .int z]) := let ⟨a, b, c, _, e⟩ := h; ⟨a, b, c, e⟩
theorem KpD.kept {d : Addr} {H H' : Hp} (k : KpD d H H') (h : Dice H d) : Kept H H' := fun b o e s => k b o (fun z => by
  subst z
  obtain ⟨x, y, z, e2⟩ := dice_is h
  exact s.2 x y z (Option.some.inj (e.symm.trans e2))) e s.1
end Tf
namespace L2
open PySem PySem.Spec PyProof.Rows LamX Tf
theorem Same.kept {H H' : Hp} (s : Same H H') : Kept H H' := fun b o h _ => s b o h
theorem Same.kpd {d : Addr} {H H' : Hp} (s : Same H H') : KpD d H H' := fun b o _ h _ => s b o h
theorem Nr.kpd {d : Addr} {H H' : Hp} (s : Nr d H H') : KpD d H H' := fun b o n h _ => s b o n h
end L2
namespace LamX
open PySem PySem.Spec PyProof.Rows L2 Tf
theorem ExtN.kept {H H' : Hp} (s : ExtN H H') : Kept H H' := fun b o h n => s b o h n.1
theorem ExtN.kpd {d : Addr} {H H' : Hp} (s : ExtN H H') : KpD d H H' := fun b o _ h n => s b o h n
theorem Tabs.same {T : List (Addr × Str)} {H H' : Hp} (t : Tabs T H) (s : Same H H') : Tabs T H' := t.ext s
/-- the dice may change -/
theorem Tabs.nr {T : List (Addr × Str)} {H H' : Hp} {d : Addr} (t : Tabs T H) (n : Nr d H H') (h : Dice H d) : Tabs T H' := fun p hp => by
  obtain ⟨ps, e1, e2, e3⟩ := t p hp
  obtain ⟨x, y, z, ed⟩ := dice_is h
  refine ⟨ps, n _ _ (fun c => ?_) e1, e2, fun pos cv hc => ?_⟩
  · rw [c, ed] at e1
    cases e1
  · obtain ⟨c, f1, f2⟩ := e3 pos cv hc
    refine ⟨c, f1, n _ _ (fun z => ?_) f2⟩
    rw [z, ed] at f2
    have f3 := Option.some.inj f2
    unfold CodeO at f3
    cases f3
/-- a list may change -/
theorem Tabs.lst {T : List (Addr × Str)} {H : Hp} {l : Addr} {xs : List V} {o : HO} (t : Tabs T H) (h : H l = some (.lst xs)) : Tabs T (upd H l o) := fun p hp => by
  obtain ⟨ps, e1, e2, e3⟩ := t p hp
  refine ⟨ps, ?_, e2, fun pos cv hc => ?_⟩
  · rw [upd_ne (fun c => ?_)]
    · exact e1
    · rw [c, h] at e1
      cases e1
  · obtain ⟨c, f1, f2⟩ := e3 pos cv hc
    refine ⟨c, f1, ?_⟩
    rw [upd_ne (fun z => ?_)]
    · exact f2
    · rw [z, h] at f2
      have f3 := Option.some.inj f2
      unfold CodeO at f3
      cases f3
end LamX

/-! repr of nested data: lists, tuples, dicts -/
namespace TfR
open PySem PySem.Spec PyProof.Rows L2
def keyD : Key → PyData
  | .inl i => .int i
  | .inr x => .str x
mutual
/-- what is tracked at v reads as d -/
inductive Rp (H : Hp) : V → PyData → Prop
  | non : Rp H .non .none
  | bl (b : Bool) : Rp H (.bl b) (.bool b)
  | int (i : Int) : Rp H (.int i) (.int i)
  | str (z : Str) : Rp H (.str z) (.str z)
  | lst {a : Addr} {xs : List V} {ds : List PyData} (h : H a = some (.lst xs)) (r : RpAll H xs ds) : Rp H (.ref a) (.list ds)
  | tup {a : Addr} {xs : List V} {ds : List PyData} (h : H a = some (.tup xs)) (r : RpAll H xs ds) : Rp H (.ref a) (.tuple ds)
  | dct {a : Addr} {kvs : List (Key × V)} {ps : List (PyData × PyData)} (h : H a = some (.dK kvs)) (r : RpKv H kvs ps) : Rp H (.ref a) (.dict ps)
inductive RpAll (H : Hp) : List V → List PyData → Prop
  | nil : RpAll H [] []
  | cons {x : V} {d : PyData} {xs : List V} {ds : List PyData} (h : Rp H x d) (r : RpAll H xs ds) : RpAll H (x :: xs) (d :: ds)
inductive RpKv (H : Hp) : List (Key × V) → List (PyData × PyData) → Prop
  | nil : RpKv H [] []
  | cons {k : Key} {x : V} {d : PyData} {kvs : List (Key × V)} {ps : List (PyData × PyData)} (h : Rp H x d) (r : RpKv H kvs ps) : RpKv H ((k, x) :: kvs) ((keyD k, d) :: ps)
end
/-- all but tables may go on: lists, tuples, dicts -/
def Dat (o : HO) : Prop := (∃ xs, o = .lst xs) ∨ (∃ xs, o = .tup xs) ∨ ∃ kvs, o = .dK kvs
mutual
theorem Rp.ext {H H' : Hp} (e : ∀ b o, H b = some o → Dat o → H' b = some o) : ∀ {v : V} {d : PyData}, Rp H v d → Rp H' v d
  | _, _, .non => .non
  | _, _, .bl b => .bl b
  | _, _, .int i => .int i
  | _, _, .str z => .str z
  | _, _, .lst h r => .lst (e _ _ h (.inl ⟨_, rfl⟩)) (RpAll.ext e r)
  | _, _, .tup h r => .tup (e _ _ h (.inr (.inl ⟨_, rfl⟩))) (RpAll.ext e r)
  | _, _, .dct h r => .dct (e _ _ h (.inr (.inr ⟨_, rfl⟩))) (RpKv.ext e r)
theorem RpAll.ext {H H' : Hp} (e : ∀ b o, H b = some o → Dat o → H' b = some o) : ∀ {xs : List V} {ds : List PyData}, RpAll H xs ds → RpAll H' xs ds
  | _, _, .nil => .nil
  | _, _, .cons h r => .cons (Rp.ext e h) (RpAll.ext e r)
theorem RpKv.ext {H H' : Hp} (e : ∀ b o, H b = some o → Dat o → H' b = some o) : ∀ {xs : List (Key × V)} {ds : List (PyData × PyData)}, RpKv H xs ds → RpKv H' xs ds
  | _, _, .nil => .nil
  | _, _, .cons h r => .cons (Rp.ext e h) (RpKv.ext e r)
end
/-- its text is known -/
def RK (P : Program) (w : World) (h : Heap) (u : Value) (d : PyData) : Prop := (∃ as, Reads h u d as) ∧ ∃ bs, ReadAtMost h d.depth bs ∧ ReprK P w bs h d.depth u d.shown
def RKs (P : Program) (w : World) (h : Heap) (us : List Value) (ds : List PyData) : Prop := (∃ as, ReadsAll h us ds as) ∧ ∃ bs, ReadAtMost h (PyData.depthAll ds) bs ∧ ReprAllK P w bs h (PyData.depthAll ds) us (PyData.shownAll ds)
section
variable {P : Program} {w : World} {h : Heap}
theorem RKs.nil : RKs P w h [] [] := ⟨⟨_, .nil⟩, [], fun _ z => (nomatch z), by simp only [PyData.shownAll]; exact .nil⟩
theorem RKs.cons {u : Value} {d : PyData} {us : List Value} {ds : List PyData} (a : RK P w h u d) (b : RKs P w h us ds) : RKs P w h (u :: us) (d :: ds) := by
  obtain ⟨⟨as, ra⟩, xs, m1, k1⟩ := a
  obtain ⟨⟨bs, rb⟩, ys, m2, k2⟩ := b
  have l1 : d.depth ≤ PyData.depthAll (d :: ds) := by simp only [PyData.depthAll]; exact Nat.le_max_left _ _
  have l2 : PyData.depthAll ds ≤ PyData.depthAll (d :: ds) := by simp only [PyData.depthAll]; exact Nat.le_max_right _ _
  refine ⟨⟨_, .cons ra rb⟩, xs ++ ys, (m1.mono l1).append (m2.mono l2), ?_⟩
  rw [show PyData.shownAll (d :: ds) = d.shown :: PyData.shownAll ds by simp only [PyData.shownAll]]
  exact .cons ((k1.more fun z hz => List.mem_append.mpr (.inl hz)).level_le l1) (k2.more_le (fun z hz => List.mem_append.mpr (.inr hz)) l2)
theorem atom {u : Value} {d : PyData} (r : Reads h u d []) (hs : d.showable = true) (hd : d.hasDict = false) (hz : d.shown.length ≤ sizeLine) : RK P w h u d := ⟨⟨_, r⟩, ReprK.of_reads r hs (fun c => by rw [hd] at c; cases c) hz⟩
theorem len_of {u : List Value} {ds : List PyData} : RKs P w h u ds → (PyData.shownAll ds).length = u.length := fun ⟨_, _, _, k⟩ => k.length_eq
end
section
variable {X : Cx} {pins : List (Addr × Obj)} {σ : L2.St} {H : Hp} {s : Shared}
mutual
theorem Rp.rk (I : Inv X pins σ H s) : ∀ {v : V} {d : PyData}, Rp H v d → ∀ {u : Value}, RelV v u → d.showable = true → d.shown.length ≤ sizeLine → RK X.prog X.w s.heap u d
  | _, _, .non, u, r, hs, hz => by
    obtain rfl : u = Value.none := r
    exact atom .none hs (by simp [PyData.hasDict]) hz
  | _, _, .bl b, u, r, hs, hz => by
    obtain rfl : u = Value.bool b := r
    exact atom (.bool b) hs (by simp [PyData.hasDict]) hz
  | _, _, .int i, u, r, hs, hz => by
    obtain ⟨t, rfl⟩ := r
    exact atom (.int i t) hs (by simp [PyData.hasDict]) hz
  | _, _, .str z, u, r, hs, hz => by
    obtain ⟨t, rfl⟩ := r
    exact atom (.str z t) hs (by simp [PyData.hasDict]) hz
  | _, _, .lst (a := a) (xs := xs) (ds := ds) h al, u, r, hs, hz => by
    obtain rfl : u = Value.ref a := r
    obtain ⟨_, its, n, rv, g⟩ : ObjOk X.prog X.w H s.heap a (.lst xs) := I.hok a _ h
    have hz' : (listText (PyData.shownAll ds)).length ≤ sizeLine := by simpa only [PyData.shown] using hz
    obtain ⟨⟨as, ra⟩, bs, hb, hk⟩ := RpAll.rk I al rv (by simpa [PyData.showable] using hs) fun t ht => Nat.le_trans (listText_mem_le ht) hz'
    have rd : Reads s.heap (.ref a) (.list ds) (a :: as) := .list g rfl rfl (by simpa using ra)
    have dp : PyData.depthAll ds < PyData.depth (.list ds) := by simp only [PyData.depth]; omega
    have na := not_mem_of_deeper rd dp hb
    refine ⟨⟨_, rd⟩, a :: bs, ReadAtMost.cons rd (Nat.le_of_lt dp) hb, ?_⟩
    simp only [PyData.depth, PyData.shown]
    cases its with
    | nil =>
      have e0 : PyData.shownAll ds = [] := List.eq_nil_of_length_eq_zero hk.length_eq
      rw [e0, listText_nil]
      exact .listEmpty g rfl rfl
    | cons y l => exact .list g rfl rfl na (by simpa using hk.length_eq) fun i z e => hk.item i z (by simpa using e)
  | _, _, .tup (a := a) (xs := xs) (ds := ds) h al, u, r, hs, hz => by
    obtain rfl : u = Value.ref a := r
    obtain ⟨_, its, rv, o, g, gc, n, gd⟩ : ObjOk X.prog X.w H s.heap a (.tup xs) := I.hok a _ h
    have hz' : (tupleText (PyData.shownAll ds)).length ≤ sizeLine := by simpa only [PyData.shown] using hz
    obtain ⟨⟨as, ra⟩, bs, hb, hk⟩ := RpAll.rk I al rv (by simpa [PyData.showable] using hs) fun t ht => Nat.le_trans (tupleText_mem_le ht) hz'
    have rd : Reads s.heap (.ref a) (.tuple ds) as := .tuple g gc gd (by simpa using ra)
    have dp : PyData.depthAll ds < PyData.depth (.tuple ds) := by simp only [PyData.depth]; omega
    refine ⟨⟨_, rd⟩, a :: bs, ReadAtMost.cons rd (Nat.le_of_lt dp) hb, ?_⟩
    simp only [PyData.depth, PyData.shown]
    exact .tuple g gc gd (not_mem_of_deeper rd dp hb) (by simpa using hk)
  | _, _, .dct (a := a) (kvs := kvs) (ps := ps) h al, u, r, hs, hz => by
    obtain rfl : u = Value.ref a := r
    obtain ⟨_, sm, vs, rv, o, es, ep, g, gx, gd, gk, gp, gn⟩ : ObjOk X.prog X.w H s.heap a (.dK kvs) := I.hok a _ h
    have hz' : (dictText (PyData.shownKv ps)).length ≤ sizeLine := by simpa only [PyData.shown] using hz
    obtain ⟨s1, s2⟩ := PyData.showableKv_split ps (by simpa [PyData.showable] using hs)
    obtain ⟨⟨⟨as, ra⟩, b1, m1, k1⟩, ⟨bs, rb⟩, b2, m2, k2⟩ := RpKv.rk I al rv gp s1 s2 (fun t ht => let ⟨_, hp, hl⟩ := PyData.shownKv_key_le ps t ht; Nat.le_trans hl (Nat.le_trans (dictText_mem_le hp) hz')) (fun t ht => let ⟨_, hp, hl⟩ := PyData.shownKv_val_le ps t ht; Nat.le_trans hl (Nat.le_trans (dictText_mem_le hp) hz'))
    have rd : Reads s.heap (.ref a) (.dict ps) (a :: as ++ bs) := .dict g gx.1 gd ra rb
    have mb := (m1.mono (PyData.depthAll_keys_le ps)).append (m2.mono (PyData.depthAll_vals_le ps))
    have dp : PyData.depthKv ps < PyData.depth (.dict ps) := by simp only [PyData.depth]; omega
    refine ⟨⟨_, rd⟩, a :: (b1 ++ b2), ReadAtMost.cons rd (Nat.le_of_lt dp) mb, ?_⟩
    simp only [PyData.depth, PyData.shown, PyData.shownKv_eq]
    exact .dict g gx.1 gd sm (not_mem_of_deeper rd dp mb) (.of_two es.toList _ _ (k1.more_le (fun z hz => List.mem_append.mpr (.inl hz)) (PyData.depthAll_keys_le ps)) (k2.more_le (fun z hz => List.mem_append.mpr (.inr hz)) (PyData.depthAll_vals_le ps)))
theorem RpAll.rk (I : Inv X pins σ H s) : ∀ {xs : List V} {ds : List PyData}, RpAll H xs ds → ∀ {us : List Value}, Vals xs us → PyData.showableAll ds = true → (∀ t ∈ PyData.shownAll ds, t.length ≤ sizeLine) → RKs X.prog X.w s.heap us ds
  | _, _, .nil, _, .nil, _, _ => .nil
  | _, _, .cons (d := d) (ds := ds) h r, _, .cons v vs, hs, hz => by
    have hs' : d.showable = true ∧ PyData.showableAll ds = true := by simpa [PyData.showableAll] using hs
    rw [show PyData.shownAll (d :: ds) = d.shown :: PyData.shownAll ds by simp only [PyData.shownAll]] at hz
    exact .cons (Rp.rk I h v hs'.1 (hz _ List.mem_cons_self)) (RpAll.rk I r vs hs'.2 fun t ht => hz t (List.mem_cons_of_mem _ ht))
theorem RpKv.rk (I : Inv X pins σ H s) : ∀ {kvs : List (Key × V)} {ps : List (PyData × PyData)}, RpKv H kvs ps → ∀ {vs : List (Key × Value)} {es : List DictEntry}, KV kvs vs → Pairs (mixKind X.prog X.w) es vs → PyData.showableAll (ps.map (·.1)) = true → PyData.showableAll (ps.map (·.2)) = true →
    (∀ t ∈ PyData.shownAll (ps.map (·.1)), t.length ≤ sizeLine) → (∀ t ∈ PyData.shownAll (ps.map (·.2)), t.length ≤ sizeLine) → RKs X.prog X.w s.heap (es.map (·.key)) (ps.map (·.1)) ∧ RKs X.prog X.w s.heap (es.map (·.val)) (ps.map (·.2))
  | _, _, .nil, _, _, .nil, .nil, _, _, _, _ => ⟨.nil, .nil⟩
  | _, _, .cons (k := k) (d := d) (ps := ps) h r, _, _, .cons v vs, .cons (e := e) ik iv pr, s1, s2, z1, z2 => by
    have s1' : (keyD k).showable = true ∧ PyData.showableAll (ps.map (·.1)) = true := by simpa [PyData.showableAll] using s1
    have s2' : d.showable = true ∧ PyData.showableAll (ps.map (·.2)) = true := by simpa [PyData.showableAll] using s2
    rw [show PyData.shownAll (((keyD k, d) :: ps).map (·.1)) = (keyD k).shown :: PyData.shownAll (ps.map (·.1)) by simp only [List.map_cons, PyData.shownAll]] at z1
    rw [show PyData.shownAll (((keyD k, d) :: ps).map (·.2)) = d.shown :: PyData.shownAll (ps.map (·.2)) by simp only [List.map_cons, PyData.shownAll]] at z2
    obtain ⟨q1, q2⟩ := RpKv.rk I r vs pr s1'.2 s2'.2 (fun t ht => z1 t (List.mem_cons_of_mem _ ht)) (fun t ht => z2 t (List.mem_cons_of_mem _ ht))
    refine ⟨.cons ?_ q1, .cons (Rp.rk I h (by show RelV _ e.val; rw [iv]; exact v.2) s2'.1 (z2 _ List.mem_cons_self)) q2⟩
    have e1 := v.1
    rw [← e1] at ik
    have hz1 := z1 _ List.mem_cons_self
    rcases keyIs_shape ik with ⟨i, t, ek, ev⟩ | ⟨x, t, ek, ev⟩
    · have ek' : k = .inl i := ek
      subst ek'
      show RK _ _ _ e.key (keyD (.inl i))
      rw [ev]
      exact atom (.int i t) s1'.1 (by show PyData.hasDict (.int i) = false; simp [PyData.hasDict]) hz1
    · have ek' : k = .inr x := ek
      subst ek'
      show RK _ _ _ e.key (keyD (.inr x))
      rw [ev]
      exact atom (.str x t) s1'.1 (by show PyData.hasDict (.str x) = false; simp [PyData.hasDict]) hz1
end
/-- repr of a list -/
def rRepr : List V → Hp → VK → Prop := fun xs H Q => ∃ (a : Addr) (ys : List V) (d : PyData) (ds : List PyData), xs = [.ref a] ∧ H a = some (.lst ys) ∧ RpAll H ys (d :: ds) ∧ PyData.showableAll (d :: ds) = true ∧ (PyData.shown (.list (d :: ds))).length ≤ sizeLine ∧ PyData.depth (.list (d :: ds)) ≤ 100 ∧ Q (.str (PyData.shown (.list (d :: ds)))) H
theorem call_repr_lst (hg : X.A.guards = some []) (hu : X.A.units + 110 < cLine) : CallR X (.builtin "repr") rRepr := by
  intro pins s σ H xs us Q I r h
  obtain ⟨a, ys, d, ds, rfl, ha, al, hs, hz, hd, q⟩ := h
  cases r with
  | cons ra rn =>
    cases rn
    obtain rfl := (show _ = Value.ref a from ra)
    obtain ⟨_, its, n, rv, g⟩ : ObjOk X.prog X.w H s.heap a (.lst ys) := I.hok a _ ha
    have hz' : (listText (PyData.shownAll (d :: ds))).length ≤ sizeLine := by simpa only [PyData.shown] using hz
    obtain ⟨⟨as, rs⟩, bs, hb, hk⟩ := RpAll.rk I al rv hs fun t ht => Nat.le_trans (listText_mem_le ht) hz'
    have rd : Reads s.heap (.ref a) (.list (d :: ds)) (a :: as) := .list g rfl rfl (by simpa using rs)
    have dp : PyData.depthAll (d :: ds) + 1 = PyData.depth (.list (d :: ds)) := by simp only [PyData.depth]
    cases its with
    | nil =>
      have z := hk.length_eq
      simp [PyData.shownAll] at z
    | cons y l =>
      refine call_repr_slot (by omega) ⟨_, g, rfl⟩ F.slot_list_repr.toG (call_list_reprK (h₀ := s.heap) g rfl rfl (not_mem_of_deeper rd (by omega) hb) (by simpa using hk.length_eq) (fun i z e => hk.item i z (by simpa using e)) (g := []) hg (fun b _ => Clear.nil b) (by show X.A.units + 1 + _ < _; omega) (fun _ _ e => e) (fun h' u tk hk' => ⟨_, _, rfl, ?_⟩) hz')
      exact ⟨.str _, H, I.kept hk', ⟨u, by simp only [PyData.shown]⟩, q⟩
end
end TfR

/-! defs that want to know that no repr is under way (guards), and the end for them -/
namespace TfG
open PySem PySem.Spec PyProof.Rows L2 LamX
/-- a def's promise, kept where no guard stands -/
structure FnG (P : Program) (w : World) (K : PySem.W.Frag) (mg : Str → Option Value) (base : Heap) (CX : CXT) (k : Nat) (f : Addr) (fd : FuncData) (ps : List Str) (sp : Sp) : Prop where
  len : ∀ vs H Q E, sp vs H Q E → vs.length = ps.length
  run : ∀ (A : Around) (outer : List Env) (s : Shared) (H : Hp) (args : Args) (us : List Value) (vs : List V) (Q : VK) (E : XK), A.guards = some [] → Room k A → Env0 P w K mg base A outer s H → BindsTo s fd args (ps.zip us) → Vals vs us → sp vs H Q E → codeAny (model P w) A (.call (.ref f) args) (CR CX outer P w H s Q E) s
/-- a def by its text, its code object at c -/
structure FunC (K : PySem.W.Frag) (x qual : Str) (st : Stmt) (f : Addr) (fd : FuncData) (c : Addr) : Prop where
  ex : ∃ (oc : Value) (od : Option Addr) (kV doc pm : Value) (an : Option Addr) (ct : Value) (osl : Array (Option Value)), fd = PySem.W.fnOf x qual (defArgs st) (defBody st) (defScope st) .none kV doc pm an (.ref c) ct ∧ K.lookup f = some ⟨oc, od, .func fd, osl⟩ ∧ PySem.W.codeIn K (.ref c) qual = true
  kp : PySem.W.keepIn K (.ref f) = true
section
variable {P : Program} {w : World} {K : PySem.W.Frag} {mg : Str → Option Value} {base : Heap}
theorem FunC.okG {x qual : Str} {st : Stmt} {f c : Addr} {fd : FuncData} {N ps : List Str} {k : Nat} {sp : Sp} (F : FunC K x qual st f fd c) (S : FnScope N ps (defScope st)) (len : ∀ vs H Q E, sp vs H Q E → vs.length = ps.length)
    (hbody : ∀ (A : Around) (outer : List Env) (s : Shared) (H : Hp) (vs : List V) (Q : VK) (E : XK), A.guards = some [] → Room k (A.deeper (envOfC qual (defScope st) s.heap.objs.size f (.ref c))) → sp vs H Q E →
      ∃ t, PSs (cxOf L2.CX0 P w K mg base N qual (defScope st) f (.ref c) A outer s H E).nox (defBody st) t ∧ t { nx := fun _ H' => Q .non H', rt := Q } (L2.start N vs) H) : FnG P w K mg base L2.CX0 (k + 1) f fd ps sp := by
  obtain ⟨oc, od, kV, doc, pm, an, ct, osl, rfl, lk, hcd⟩ := F.ex
  refine ⟨len, fun A outer s H args us vs Q E hg hr e0 hb r h => LamX.run_ofS lk hcd S hr e0 hb r (len _ _ _ _ h) fun hr' => ?_⟩
  obtain ⟨t, ht, q⟩ := hbody A outer s H vs Q E hg hr' h
  exact ⟨t, ht.nox, q⟩
theorem FunC.binds {x qual : Str} {st : Stmt} {f c : Addr} {fd : FuncData} {ps : List Str} (F : FunC K x qual st f fd c)
    (h : ∀ (kV doc pm : Value) (an : Option Addr) (cdv ct : Value) (us : List Value), us.length = ps.length → bindArgs (PySem.W.fnOf x qual (defArgs st) (defBody st) (defScope st) .none kV doc pm an cdv ct) ⟨us, []⟩ = pure (ps.zip us)) : Binds K fd ps [] := by
  obtain ⟨oc, od, kV, doc, pm, an, ct, osl, rfl, lk, hcd⟩ := F.ex
  exact .all (h kV doc pm an _ ct)
end
section
variable {X : Cx} {k : Nat} {f : Addr} {fd : FuncData} {ps : List Str} {sp : Sp} {CX : CXT} {E : XK} {x : Str} {p pos : Pos} {e : Expr} {es : List Expr} {t : TA}
/-- x(e, ..) of such a def -/
theorem pe_callG (F : FnG X.prog X.w X.K X.mg X.base CX k f fd ps sp) (gu : X.A.guards = some []) (hr : Room k X.A) (hg : Gl X x) (hm : X.mg x = some (.ref f)) (hk : PySem.W.keepIn X.K (.ref f) = true) (hb : Binds X.K fd ps []) (hx : Passes CX X E) (ha : PA X (e :: es) t)
    (hdb : (x == ("__debug__" : Str)) = false := by decide) (he : starEach (e :: es) X.env = (false, eval e X.env) :: starEach es X.env := by rfl) (hpl : (backTo pos (starEach es X.env)).any (·.1) = false := by rfl) : PE X (.Call (.Name x p) (e :: es) [] pos) (tCall sp [] E t) := by
  refine ⟨fun pins s σ H Q I h => wpAny_Call_Name_kw (ld_glob I hg hm ?_ hdb)⟩
  refine PySem.W.callWith_K (h₀ := X.base) I.ok.mod.kin hk (thn (ha.run pos pins s σ H _ I h) fun us s1 ⟨vs, H1, I1, r, q⟩ => ⟨I1.kIn, ?_⟩) he hpl
  have q : sp vs H1 Q E := by
    have q0 : sp (vs ++ []) H1 Q E := q
    rw [List.append_nil] at q0
    exact q0
  have l : (us ++ []).length = ps.length := by rw [List.append_nil, ← r.length]; exact F.len _ _ _ _ q
  have b := hb s1 us I1.kIn l
  rw [List.append_nil] at b
  refine wpAny_call (codeAny_mono (F.run X.A X.stack s1 H1 ⟨us, []⟩ us vs Q E gu hr I1.env0 b r q) fun r' s' z => ?_)
  match r', z with
  | .error e', z => exact hx pins σ H1 s1 e' s' I1 z
  | .ok (.ret u), z => exact I1.after z
  | .ok .next, z => exact False.elim z
  | .ok .brk, z => exact False.elim z
  | .ok .cont, z => exact False.elim z
end
section
variable {P : Program} {w : World} {K : PySem.W.Frag} {mg mb : Str → Option Value} {CX : CXT} {k : Nat} {fa a : Addr} {cs : List (Addr × Addr)} {fd : FuncData} {x : Str} {sp : Sp} {s₁ : Shared} {vs : List Value} {ns : List Int}
/-- the abstract heap of the call: the tables, and the script where the written part does not tell it -/
def H0 (K : PySem.W.Frag) (ts : List Addr) (a : Addr) (o : Obj) (xs : List V) : Hp := fun b => if b ∈ ts then some (.tbl #[]) else if b = a ∧ K.lookup a = none then some (.frz o (.lst xs)) else none
theorem H0_cases (K : PySem.W.Frag) (ts : List Addr) (a : Addr) (o : Obj) (xs : List V) (b : Addr) : (H0 K ts a o xs b = none) ∨ (b ∈ ts ∧ H0 K ts a o xs b = some (.tbl #[])) ∨ (b = a ∧ b ∉ ts ∧ K.lookup a = none ∧ H0 K ts a o xs b = some (.frz o (.lst xs))) := by
  unfold H0
  by_cases h1 : b ∈ ts
  · exact .inr (.inl ⟨h1, if_pos h1⟩)
  · by_cases h2 : b = a ∧ K.lookup a = none
    · exact .inr (.inr ⟨h2.1, h1, h2.2, by rw [if_neg h1, if_pos h2]⟩)
    · exact .inl (by rw [if_neg h1, if_neg h2])
theorem law_callG (KX : K.In s₁.heap) (hns : s₁.heap.Ns mainGlobals mg) (hb : s₁.heap.Ns builtinsNs mb) (hbb : ∀ x : Str, x ≠ "__name__" → mb x = bootBuiltins x) (hlim : s₁.heap.NoLimit) (hg : s₁.gens = #[])
    (hT : ∀ p ∈ cs, s₁.heap.get? p.2 = some { cls := .none, data := .fields #[] }) (nT : ∀ p ∈ cs, K.lookup p.2 = none) (C : ∀ p ∈ cs, PySem.W.CodeHd s₁.heap p.1 p.2)
    (hbm : ∃ (bm : Addr) (ob : Obj), mg "__builtins__" = some (.ref bm) ∧ bm ≠ builtinsNs ∧ s₁.heap.get? bm = some ob ∧ ob.cls = .type "module" ∧ ob.dict = some builtinsNs ∧ ob.data = .plain)
    (ha : s₁.heap.get? a = some { cls := .type "list", data := .seq vs.toArray }) (hi : IntsAre vs ns) (hl : ns.length ≤ sizeLine) (hr : Room k callerA)
    (F : ∀ base : Heap, K.In base → base.Ns mainGlobals mg → (∀ p ∈ cs, TabB base mg p.1 p.2) → FnG P w K mg base CX k fa fd [x] sp) (hbind : ∀ (s : Shared) (u : Value), BindsTo s fd ⟨[u], []⟩ [(x, u)])
    (hsp : ∀ H : Hp, (∀ p ∈ cs, H p.2 = some (.tbl #[])) → SqL K H a (ns.map V.int) → sp [.ref a] H (fun v _ => v = .bl true) fun _ _ _ => False)
    (hCX : ∀ H e s', CX [] H s₁ (fun _ _ _ => False) e s' → False) :
    codeAny (model P w) callerA (.call (.ref fa) ⟨[.ref a], []⟩) (fun r s' => r = .ok (.ret (.bool true)) ∧ OldK s₁.heap s'.heap ∧ s'.os = s₁.os ∧ AllBare s'.gens) s₁ := by
  obtain ⟨ts, ets⟩ : ∃ ts, ts = cs.map (·.2) := ⟨_, rfl⟩
  have mem : ∀ p ∈ cs, p.2 ∈ ts := fun p hp => by rw [ets]; exact List.mem_map.mpr ⟨p, hp, rfl⟩
  have inT : ∀ b ∈ ts, ∃ p ∈ cs, p.2 = b := fun b hb' => by rw [ets] at hb'; exact List.mem_map.mp hb'
  have tab : ∀ b ∈ ts, s₁.heap.get? b = some { cls := .none, data := .fields #[] } := fun b hb' => by
    obtain ⟨p, hp, rfl⟩ := inT b hb'
    exact hT p hp
  have naT : a ∉ ts := fun z => by
    have e := (tab a z).symm.trans ha
    have e2 := congrArg Obj.data (Option.some.inj e)
    cases e2
  obtain ⟨H, eH⟩ : ∃ H, H = H0 K ts a { cls := .type "list", data := .seq vs.toArray } (ns.map V.int) := ⟨_, rfl⟩
  have cas : ∀ b, H b = none ∨ (b ∈ ts ∧ H b = some (.tbl #[])) ∨ (b = a ∧ b ∉ ts ∧ K.lookup a = none ∧ H b = some (.frz { cls := .type "list", data := .seq vs.toArray } (.lst (ns.map V.int)))) := fun b => by
    rw [eH]
    exact H0_cases K ts a _ _ b
  have hTab : ∀ b ∈ ts, H b = some (.tbl #[]) := fun b hb' => by
    rw [eH]
    exact if_pos hb'
  -- what no table and no list is stays untracked
  have free : ∀ {b : Addr} {o : Obj}, s₁.heap.get? b = some o → o.data ≠ .fields #[] → (∀ us n, o.data ≠ .seq us n) → H b = none := fun {b o} e n1 n2 => by
    rcases cas b with z | ⟨z, _⟩ | ⟨rfl, _⟩
    · exact z
    · exact (n1 (by rw [Option.some.inj (e.symm.trans (tab b z))])).elim
    · exact (n2 vs.toArray 0 (by rw [Option.some.inj (e.symm.trans ha)])).elim
  have dct : ∀ {b : Addr} {m : Str → Option Value}, s₁.heap.Ns b m → (hidT s₁.heap H).Ns b m := fun {b m} z => by
    obtain ⟨o, es, ep, e, d, r⟩ := z
    exact ⟨o, es, ep, hidT_get e (free e (by rw [d]; exact fun z => by cases z) fun us n z => by rw [d] at z; cases z), d, r⟩
  have KB : K.In (hidT s₁.heap H) := fun b o e => by
    refine hidT_get (KX b o e) ?_
    rcases cas b with z | ⟨z, _⟩ | ⟨rfl, _, z, _⟩
    · exact z
    · obtain ⟨p, hp, rfl⟩ := inT b z
      rw [nT p hp] at e
      cases e
    · rw [z] at e
      cases e
  have TB : ∀ p ∈ cs, TabB (hidT s₁.heap H) mg p.1 p.2 := fun p hp => by
    refine ⟨?_, ?_, ?_⟩
    · obtain ⟨o, us, file, tf, flags, tg, inF, text, tt, e1, r1, r2, r3, r4⟩ := C p hp
      refine ⟨o, us, file, tf, flags, tg, inF, text, tt, hidT_get e1 (free e1 (fun z => ?_) fun us' n z => ?_), r1, r2, r3, r4⟩
      · rw [r2] at z
        have z2 := (Data.fields.inj z)
        rw [z2] at r3
        simp at r3
      · rw [r2] at z
        cases z
    · obtain ⟨bm, ob, b1, b2, b3, b4, b5, b6⟩ := hbm
      have f3 := hidT_get b3 (free b3 (by rw [b6]; exact fun z => by cases z) fun us n z => by rw [b6] at z; cases z)
      refine ⟨bm, ob, b1, b2, fun z => ?_, fun z => ?_, f3, b4, b5, b6⟩
      · obtain ⟨o, es, ep, e, d, _⟩ := hns
        rw [z] at b3
        rw [Option.some.inj (e.symm.trans b3), b6] at d
        cases d
      · rw [z] at b3
        have z2 := congrArg Obj.data (Option.some.inj ((hT p hp).symm.trans b3))
        rw [b6] at z2
        cases z2
    · intro z
      obtain ⟨o, es, ep, e, d, _⟩ := hns
      rw [z] at e
      rw [← Option.some.inj ((hT p hp).symm.trans e)] at d
      cases d
  have lenV := hi.length
  have rv := vals_ints hi
  have SQ : SqL K H a (ns.map V.int) := by
    cases hk : K.lookup a with
    | none =>
      refine .inl (.inr ⟨{ cls := .type "list", data := .seq vs.toArray }, ?_⟩)
      rw [eH]
      unfold H0
      rw [if_neg naT, if_pos ⟨rfl, hk⟩]
    | some o =>
      have eo := Option.some.inj ((KX a o hk).symm.trans ha)
      subst eo
      exact .inr ⟨_, vs.toArray, _, hk, rfl, rfl, rfl, by rw [List.size_toArray, lenV]; exact hl, by simpa using rv⟩
  have OK : HOk P w H s₁.heap := fun b u e => by
    rcases cas b with z | ⟨z1, z2⟩ | ⟨rfl, _, _, z⟩
    · rw [z] at e
      cases e
    · rw [← Option.some.inj (z2.symm.trans e)]
      exact tab b z1
    · rw [← Option.some.inj (z.symm.trans e)]
      exact ⟨ha, by rw [List.length_map]; exact hl, vs, _, rv, ha⟩
  have M : L2.Mod K mg (hidT s₁.heap H) := ⟨KB, dct hns, ⟨mb, dct hb, hbb⟩, let ⟨mc, h1, h2⟩ := hlim; ⟨mc, dct h1, h2⟩⟩
  have E0 : Env0 P w K mg (hidT s₁.heap H) callerA [] s₁ H := ⟨rfl, M, fun b o e => of_hidT e, Nat.le_of_eq (hidT_size _ _), trivial, fun b z => absurd (show b ∈ ([] : List Addr) from z) List.not_mem_nil, OK, AllBare.of_eq hg⟩
  refine codeAny_mono ((F _ KB (dct hns) TB).run callerA [] s₁ H ⟨[.ref a], []⟩ [.ref a] [.ref a] _ _ rfl hr E0 (hbind s₁ (.ref a)) (.cons rfl .nil) (hsp H (fun p hp => hTab _ (mem p hp)) SQ)) fun r s' q => ?_
  match r, q with
  | .error e, q => exact (hCX H e s' q).elim
  | .ok .next, q => exact False.elim q
  | .ok .brk, q => exact False.elim q
  | .ok .cont, q => exact False.elim q
  | .ok (.ret u), q =>
    obtain ⟨v, H', os, bare, un, ok', r', q'⟩ := q
    have ev : v = .bl true := q'
    subst ev
    obtain rfl : u = Value.bool true := r'
    have same : ∀ b o, b ∉ ts → s₁.heap.get? b = some o → s'.heap.get? b = some o := fun b o nb e => by
      rcases cas b with z | ⟨z, _⟩ | ⟨rfl, _, _, z⟩
      · exact un.keep b o e z (fun y => by cases y) (fun y => by cases y)
      · exact (nb z).elim
      · have g1 := (OK b _ z).1
        have g2 := (ok' b _ (un.frzs b _ _ z)).1
        rw [Option.some.inj (e.symm.trans g1)]
        exact g2
    have grew : ∀ b ∈ ts, ∃ more : Array Value, s'.heap.get? b = some { cls := .none, data := .fields more } := fun b hb' => by
      obtain ⟨more, z⟩ := un.tbls b #[] (hTab b hb')
      exact ⟨_, ok' b _ z⟩
    refine ⟨rfl, ⟨fun b o e => ?_, fun b o e => ?_⟩, os, bare⟩
    · by_cases hb' : b ∈ ts
      · obtain ⟨p, hp, rfl⟩ := inT b hb'
        obtain ⟨more, g⟩ := grew _ hb'
        rw [Option.some.inj (e.symm.trans (hT p hp))]
        exact .inr (.inl ⟨((C p hp).tab (hT p hp)).isCodeTable, rfl, #[], more, rfl, by rw [Array.empty_append]; exact g⟩)
      · exact .inl (same b o hb' e)
    · by_cases hb' : b ∈ ts
      · exact let ⟨_, g⟩ := grew b hb'; ⟨_, g⟩
      · exact ⟨o, same b o hb' e⟩
end
/-- what is known of the law's promise at the head's heap -/
def LawG (l : PySem.W.OpenLaw) (w : World) (K : PySem.W.Frag) (CX : CXT) (k n : Nat) (x : Str) (mg : Str → Option Value) (fa : Addr) (h : Heap) : Prop :=
  ∃ (fd : FuncData) (cs : List (Addr × Addr)) (sp : Sp), ((∀ p ∈ cs, h.get? p.2 = some { cls := .none, data := .fields #[] }) ∧ (∀ p ∈ cs, K.lookup p.2 = none) ∧ ∀ p ∈ cs, PySem.W.CodeHd h p.1 p.2) ∧ (∀ (s : Shared) (u : Value), BindsTo s fd ⟨[u], []⟩ [(x, u)]) ∧
    (∀ (H : Hp) (a : Addr) (ns : List Int), ns.length ≤ n → (∀ z ∈ ns, Builtin.Int.intBits z ≤ 1048576) → (∀ p ∈ cs, H p.2 = some (.tbl #[])) → SqL K H a (ns.map V.int) → sp [.ref a] H (fun v _ => v = .bl true) fun _ _ _ => False) ∧
    ∀ base : Heap, K.In base → base.Ns mainGlobals mg → (∀ p ∈ cs, TabB base mg p.1 p.2) → FnG l.prog w K mg base CX k fa fd [x] sp
theorem walk_G {l : PySem.W.OpenLaw} {n k : Nat} {q : Program} {loose : List Str} {XP : (Str → Option Value) → Heap → Prop} {YP : World → Heap → Prop} {d : DefRec} {K : Params → PySem.W.Frag} {CX : World → CXT} {x : Str}
    (hn : l.most = some n) (hn2 : n ≤ sizeLine) (hdf : d.params.defaults = []) (hr : Room k callerA) (hY : ∀ (w : World) (h : Heap), YP w h → (K w.params).In h)
    (F : ∀ (w : World) (mg : Str → Option Value) (fa : Addr) (h : Heap), YP w h → (K w.params).In h → h.Ns mainGlobals mg → (∀ (x : Str) (c P : Addr), ((recsOf q).any fun e => e.name == x) = true → PySem.W.tabIn (K w.params) x = some (c, P) → PySem.W.CodeHd h c P ∧ h.get? P = some { cls := .none, data := .fields #[] }) → mg d.name = some (.ref fa) → LawG l w (K w.params) (CX w) k n x mg fa h)
    (hCX : ∀ (w : World) (H : Hp) (s : Shared) (e : Value) (s' : Shared), CX w [] H s (fun _ _ _ => False) e s' → False) : PySem.W.WalkO q loose XP YP l.row.toRowW d [] (fun f vs => PySem.call f vs) :=
  Att.attach_callB hn hdf fun w s₀ s₁ mg mb fa o pm cd doc a vs ns G Y _ _ _ hmg hobj hints hlen hbits hg => by
    have KX := hY w _ Y
    obtain ⟨fd, cs, sp, ⟨hT, nT, C⟩, hb, hsp, hF⟩ := F w mg fa _ Y KX G.T.g (fun x c P' hr ht => by
      obtain ⟨e, he⟩ := Option.isSome_iff_exists.mp (show ((recsOf q).find? fun e => e.name == x).isSome = true by rw [List.find?_isSome]; exact List.any_eq_true.mp hr)
      exact PySem.W.tab_of G.T KX he ht) hmg
    exact law_callG KX G.T.g G.T.b G.T.builtins G.T.nolimit hg hT nT C G.T.bmain hobj hints (Nat.le_trans hlen hn2) hr hF hb (fun H hH hS => hsp H a ns hlen hbits hH hS) fun H e s' => hCX w H s₁ e s'
theorem tab_in {K : PySem.W.Frag} {x : Str} {f c P : Addr} {oc a : Value} {od b : Option Addr} {sl z : Array (Option Value)} {fd : FuncData} {vs : Array Value} (h0 : PySem.W.nsIn K mainGlobals x = some (some (.ref f))) (h1 : K.lookup f = some ⟨oc, od, .func fd, sl⟩) (hc : fd.code = .ref c) (h2 : K.lookup c = some ⟨a, b, .fields vs, z⟩) (h3 : vs[11]? = some (.ref P)) : PySem.W.tabIn K x = some (c, P) := by
  unfold PySem.W.tabIn
  simp only [h0, h1, hc, h2, h3]
theorem func_mk {K : PySem.W.Frag} {x qual : Str} {st : Stmt} {f c : Addr} {oc : Value} {od an : Option Addr} {osl : Array (Option Value)} {kV doc pm ct : Value} (l : K.lookup f = some ⟨oc, od, .func (PySem.W.fnOf x qual (defArgs st) (defBody st) (defScope st) .none kV doc pm an (.ref c) ct), osl⟩) (hc : PySem.W.codeIn K (.ref c) qual = true) (kp : PySem.W.keepIn K (.ref f) = true) : FunC K x qual st f (PySem.W.fnOf x qual (defArgs st) (defBody st) (defScope st) .none kV doc pm an (.ref c) ct) c := ⟨⟨_, _, _, _, _, _, _, _, rfl, l, hc⟩, kp⟩
end TfG

/-! x(lambda: body, e, ..): the errors of the body bear no context (L2N) -/
namespace LamN
open PySem PySem.Spec PyProof.Rows L2 LamX
/-- where the body runs -/
def cxB (X : Cx) (A : Around) (outer : List Env) (s : Shared) (H : Hp) (E : XK) (sc : Scope) (f c : Addr) : Cx :=
  (lamCx X A outer s H E sc f c).tr [] fun e s1 => wpAny (model X.prog X.w) (A.deeper (lamEnv X sc s.heap.objs.size f c)) (leaving (lamEnv X sc s.heap.objs.size f c) e) (fun _ s2 => L2N.CX X.prog X.w outer H s E e s2) (fun e2 s2 => L2N.CX X.prog X.w outer H s E e2 s2) s1
/-- what the def that got the lambda makes of it and of its further arguments -/
def Gives (X : Cx) (N : List Str) (x : Str) (sc : Scope) (g : Addr) (cd : Value) (body : List Stmt) (a q : Str) (TT : (XK → Hp → VK → Prop) → List V → Hp → VK → Prop) : Prop :=
  ∀ (f c : Addr) (s : Shared) (H : Hp) (Q : VK) (tl : XK → Hp → VK → Prop) (vs : List V),
    (∀ (W : WX) (pn : List (Addr × Obj)) (xe : Value → Shared → Prop) (E : XK) (p1 p2 : Pos), L2N.Takes ((cxOf L2.CX0 X.prog X.w X.K X.mg X.base N x sc g cd X.A X.stack s H E0).tr pn xe) W →
      PE ((cxOf L2.CX0 X.prog X.w X.K X.mg X.base N x sc g cd X.A X.stack s H E0).tr pn xe) (.Call (.Name a p1) [] [] p2) (fun σZ HZ Q => σZ[0]? = some (some (.ref f)) ∧ HZ c = some (CodeO c q) ∧ (∀ cls d H', E cls d H' → W cls d σZ H') ∧ tl E HZ Q)) →
    H c = some (CodeO c q) → TT tl vs H Q → ∃ t, PSs (cxOf L2.CX0 X.prog X.w X.K X.mg X.base N x sc g cd X.A X.stack s H E0).nox body t ∧ t { nx := fun _ H' => Q .non H', rt := Q } (L2.start N (.ref f :: vs)) H
def tGive (T : List (Addr × Str)) (TT : (XK → Hp → VK → Prop) → List V → Hp → VK → Prop) (q : Str) (n : Nat) (t : XK → TE) (t2 : TA) : TE := fun σ H Q => Tabs T H ∧ ∀ (H1 : Hp) (c : Addr), ExtN H H1 → Tabs T H1 → H1 c = some (CodeO c q) → t2 σ H1 fun vs H2 => vs.length = n ∧ H2 c = some (CodeO c q) ∧ TT (fun E H' Q' => t E σ H' Q') vs H2 Q
section
variable {X : Cx}
/-- the lambda is called -/
theorem acts {pins : List (Addr × Obj)} {σ : L2.St} {H : Hp} {s : Shared} {N : List Str} {x a : Str} {sc lsc : Scope} {g f c : Addr} {cd pm ct : Value} {ps : Arguments} {body : Expr} {k : Nat} {pn : List (Addr × Obj)} {xe : Value → Shared → Prop} {W : WX} {E : XK} {tb : TE} {p1 p2 : Pos}
    (I : Inv X pins σ H s) (L : LamS X.env.scope lsc) (hf : s.heap.get? f = some (PySem.W.kla_obj "<lambda>" (X.env.qual ++ "<lambda>") ps body lsc (cloFrom X.env.cells lsc.names []) pm c ct)) (nf : H f = none) (nfr : f ∉ frs X.stack)
    (bind : bindArgs (PySem.W.kla_fn "<lambda>" (X.env.qual ++ "<lambda>") ps body lsc (cloFrom X.env.cells lsc.names []) pm (.ref c) ct) ⟨[], []⟩ = pure []) (tk : L2N.Takes ((cxOf L2.CX0 X.prog X.w X.K X.mg X.base N x sc g cd X.A X.stack s H E0).tr pn xe) W)
    (hr : Room (k + 1) (X.A.deeper (envOfC x sc s.heap.objs.size g cd))) (hb : ∀ (A : Around) (outer : List Env) (s : Shared) (H : Hp), Room k (A.deeper (lamEnv X lsc s.heap.objs.size f c)) → PE (cxB X A outer s H E lsc f c) body tb)
    (hN : N[0]? = some a) (hv : Vis sc a) (nd : (a == ("__debug__" : Str)) = false) (nc : (a == ("__classdict__" : Str)) = false) :
    PE ((cxOf L2.CX0 X.prog X.w X.K X.mg X.base N x sc g cd X.A X.stack s H E0).tr pn xe) (.Call (.Name a p1) [] [] p2) (fun σZ HZ Q => σZ[0]? = some (some (.ref f)) ∧ HZ c = some (CodeO c (X.env.qual ++ "<lambda>")) ∧ (∀ cls d H', E cls d H' → W cls d σZ H') ∧ tb σ HZ Q) := by
  refine ⟨fun pinsZ sZ σZ HZ Q IZ h => ?_⟩
  obtain ⟨h1, h2, hW, h3⟩ := h
  refine wpAny_Call_Name_kw (thn ((pe_var (pos := p1) (i := 0) hN hv nd nc).run pinsZ sZ σZ HZ (fun v G => v = .ref f ∧ G = HZ) IZ ⟨.ref f, h1, rfl, rfl⟩) fun u s1 ⟨v, G, I1, r1, ev, eG⟩ => ?_)
  subst ev
  rw [eG] at I1
  obtain rfl : u = Value.ref f := r1
  have of1 := I1.base.keep f _ hf nf nfr (fun z => nomatch (show f ∈ ([] : List Addr) from z))
  refine PySem.W.callWith_F0 ⟨_, _, _, _, of1⟩ ?_
  obtain ⟨⟨oc, vs, t, g1, g2, g3⟩, _, _⟩ := I1.hok c _ h2
  have run : codeAny (model X.prog X.w) (X.A.deeper (envOfC x sc s.heap.objs.size g cd)) (.call (.ref f) ⟨[], []⟩) (CR (L2N.CX X.prog X.w) (envOfC x sc s.heap.objs.size g cd :: X.stack) X.prog X.w HZ s1 Q E) s1 := by
    refine PySem.W.kla_callFunE hr.depth of1 rfl L.co L.gen rfl ⟨c, oc, vs, t, rfl, g1, g2, g3⟩ ?_
    rw [bind]
    refine wpAny_pure (wpAny_newFunctionEnv (fun y hy => (L.own y hy).2) (fun y hy => (nomatch hy)) (fun h₁ hns hsb => ⟨I1.nolimit.fresh _ hsb, ?_⟩) L.kind)
    show codeAny _ _ (.expr body (lamEnv X lsc s1.heap.objs.size f c)) _ _
    have kp : ∀ b o, s1.heap.get? b = some o → h₁.get? b = some o := fun b o e => hsb.extBut b o (Nat.ne_of_lt (Heap.lt_size e)) (Heap.get?_push_of_some _ e)
    have J := lam_start2 (E := E) I L I1.env0 hr.hd I1.base hns kp (f := f) (c' := c) (tk := s1.toks + ([] : List (Str × Value)).length)
    refine PySem.W.kla_codeExpr (wpAny_mono ((hb _ _ s1 HZ (hr.deeper _)).run [] _ _ HZ Q (J.toTry _) h3) (fun v s' q => ?_) fun e s' q => q)
    obtain ⟨v', H', J', rv, q⟩ := q
    exact ⟨v', H', J'.os, J'.bare, J'.base, J'.hok, rv, q⟩
  refine wpAny_call (codeAny_mono run fun r s' q => ?_)
  match r, q with
  | .error e, q => exact tk _ _ (L2N.XE.of_call I1 hW q)
  | .ok (.ret u), q => exact I1.after q
  | .ok .next, q => exact False.elim q
  | .ok .brk, q => exact False.elim q
  | .ok .cont, q => exact False.elim q
/-- x(lambda: body, e, ..) -/
theorem pe_give {T : List (Addr × Str)} {TT : (XK → Hp → VK → Prop) → List V → Hp → VK → Prop} {x a : Str} {as N : List Str} {g c P : Addr} {k : Nat} {st : Stmt} {fd : FuncData} {ps : Arguments} {body : Expr} {lsc : Scope} {t : XK → TE} {t2 : TA} {es : List Expr} {p lpos pos : Pos}
    (F : Fun X.K x x st g fd) (hg : Gl X x) (hm : X.mg x = some (.ref g)) (hb : Binds X.K fd (a :: as) []) (S : FnScope N (a :: as) (defScope st)) (hN : N[0]? = some a) (hva : Vis (defScope st) a) (hG : ∀ cd, Gives X N x (defScope st) g cd (defBody st) a (X.env.qual ++ "<lambda>") TT)
    (TB : TabB X.base X.mg c P) (hcode : X.env.code = .ref c) (hmT : (P, X.env.qual ++ "<lambda>") ∈ T) (hu : ∀ p ∈ T, p.1 = P → p.2 = X.env.qual ++ "<lambda>") (hr : Room (k + 2) X.A) (L : LamS X.env.scope lsc)
    (hbody : ∀ (A : Around) (outer : List Env) (s : Shared) (H : Hp) (E : XK) (f c : Addr), Room k (A.deeper (lamEnv X lsc s.heap.objs.size f c)) → PE (cxB X A outer s H E lsc f c) body (t E)) (ha : PA X es t2)
    (hdef : defaultsOf ps X.env = ([], []) := by rfl) (bind : ∀ (q : Str) (cl : List (Str × Addr)) (pm cv ctv : Value), bindArgs (PySem.W.kla_fn "<lambda>" q ps body lsc cl pm cv ctv) ⟨[], []⟩ = pure [] := by intros; rfl)
    (hs : X.stack = X.env :: X.outer := by rfl) (hfm : X.env.frame = some X.env.locals := by rfl)
    (hse : starEach (.Lambda ps body lsc lpos :: es) X.env = (false, eval (.Lambda ps body lsc lpos) X.env) :: starEach es X.env := by rfl) (hpl : (backTo pos (starEach es X.env)).any (·.1) = false := by rfl)
    (hdb : (x == ("__debug__" : Str)) = false := by decide) (nd : (a == ("__debug__" : Str)) = false := by decide) (nc : (a == ("__classdict__" : Str)) = false := by decide) :
    PE X (.Call (.Name x p) (.Lambda ps body lsc lpos :: es) [] pos) (tGive T TT (X.env.qual ++ "<lambda>") as.length t t2) := by
  obtain ⟨oc, od, kV, doc, pm0, an, cdv, ct0, osl, rfl, lk, hcg⟩ := F.ex
  refine ⟨fun pins s σ H Q I h => ?_⟩
  obtain ⟨hT, h⟩ := h
  refine wpAny_Call_Name_kw (ld_glob I hg hm (PySem.W.callWith_K (h₀ := X.base) I.ok.mod.kin F.kp ?_ hse hpl) hdb)
  rw [hse]
  show wpAny _ _ (spliced ((false, eval (.Lambda ps body lsc lpos) X.env) :: backTo pos (starEach es X.env))) _ _ s
  refine Calls.spliced_cons (lam_make2 I TB hcode hmT hu hT hdef (L.has I.ok) fun f c' pm' ctv H1 s' I1 eN T1 hf hfn hfr hco => ?_)
  have hfr' : f ∉ frs (X.env :: X.outer) := by rw [← hs]; exact hfr
  have nL : f ≠ X.env.locals := fun z => hfr' (List.mem_filterMap.mpr ⟨X.env, List.mem_cons_self, by rw [hfm, z]⟩)
  have nF : f ∉ X.fs := fun hm => by
    obtain ⟨e, he, q⟩ := List.mem_filterMap.mp hm
    exact hfr' (List.mem_filterMap.mpr ⟨e, List.mem_cons_of_mem _ he, q⟩)
  have I1p : Inv X ((f, PySem.W.kla_obj "<lambda>" (X.env.qual ++ "<lambda>") ps body lsc (cloFrom X.env.cells lsc.names []) pm' c' ctv) :: pins) σ H1 s' := by
    refine I1.pins_of fun r hr => ?_
    rcases List.mem_cons.mp hr with e | e
    · subst e
      exact ⟨hf, hfn, nL, nF, fun v => by intro z; cases z⟩
    · exact I1.pin r (List.mem_append_right _ e)
  refine thn (ha.run pos _ s' σ H1 _ I1p (h H1 c' eN T1 hco)) fun us s2 ⟨vs, H2, I2p, rv, lv, hco2, q2⟩ => ⟨I2p.kIn, ?_⟩
  have I2 := ClX.unpin I2p
  have hf2 := ClX.pin_at I2p
  have hfn2 := ClX.pin_un I2p
  have lu : (Value.ref f :: us).length = (a :: as).length := by rw [List.length_cons, List.length_cons, ← rv.length, lv]
  have rc : codeAny (model X.prog X.w) X.A (.call (.ref g) ⟨.ref f :: us, []⟩) (CR L2.CX0 X.stack X.prog X.w H2 s2 Q E0) s2 := by
    have hb' := hb s2 (.ref f :: us) I2.kIn (by rw [List.append_nil]; exact lu)
    rw [List.append_nil] at hb'
    refine run_ofS (N := N) (ps := a :: as) (us := .ref f :: us) (vs := .ref f :: vs) lk hcg S hr I2.env0 hb' (.cons rfl rv) (by rw [List.length_cons, List.length_cons, lv]) fun hr' => ?_
    obtain ⟨t', ht', hq'⟩ := hG cdv f c' s2 H2 Q (fun E H' Q' => t E σ H' Q') vs (fun W pn xe E p1 p2 tk => acts I2 L hf2 hfn2 hfr (bind _ _ _ _ _) tk hr' (fun A outer s H hr2 => hbody A outer s H E f c' hr2) hN hva nd nc) hco2 q2
    exact ⟨t', ht'.nox, hq'⟩
  refine wpAny_call (codeAny_mono rc fun r s3 q => ?_)
  match r, q with
  | .error e, q => exact (show False from q).elim
  | .ok (.ret u), q => exact I2.after q
  | .ok .next, q => exact False.elim q
  | .ok .brk, q => exact False.elim q
  | .ok .cont, q => exact False.elim q
end
end LamN

/-! own errors as values: made, asked for their classes, their fields read; a def called in a suite with the error itself -/
namespace TfE
open PySem PySem.Spec PyProof.Rows L2
/-- an error of the class at C with a dict at d, at a -/
def ExF (C d a : Addr) : HO := .ext fun h => ∃ (oe : Obj) (vs : Array Value), h.get? a = some oe ∧ Zc (.ref C) (some d) oe ∧ oe.data = .fields vs
theorem exF_ok {P : Program} {w : World} {H : Hp} {h : Heap} {a C d : Addr} {oe : Obj} {vs : Array Value} (e : h.get? a = some oe) (z : Zc (.ref C) (some d) oe) (dt : oe.data = .fields vs) : ObjOk P w H h a (ExF C d a) :=
  ⟨⟨oe, vs, e, z, dt⟩, ⟨oe, e⟩, fun _ _ ⟨o, v, q, r⟩ k => ⟨o, v, k o q, r⟩⟩
/-- at a: an error of the class at D -/
def ErrAt (H : Hp) (a D : Addr) : Prop := H a = some (ExO (.ref D) a) ∨ ∃ (d : Addr) (fs : List (Str × V)), H a = some (ExF D d a) ∧ H d = some (.xd fs)
theorem kit_exc {K : PySem.W.Frag} {x D : Addr} {ox : Obj} {od : Option Obj} (C : ExcC K D) : PySem.W.KitX K (.ref x) (.ref D) (fun h => PySem.W.InstAt h x ox D od) := by
  obtain ⟨cd, hc, _⟩ := PySem.W.any_some C.hd
  exact PySem.W.kitx_exc (by rw [hc]; rfl) C.hg C.hk C.hs C.ha C.hn C.ht C.hm
section
variable {X : Cx} {Bn newId B initId initN : String} {bmN : List Value} {x n qual f : Str} {C D fI : Addr}
/-- x(a): a new error of the class at C -/
def tMkV (C : Addr) (ta : TA) : TE := fun σ H Q => ta σ H fun vs H1 => ∃ v, vs = [v] ∧ ∀ a, H1 a = none → Q (.ref a) (upd H1 a (ExO (.ref C) a))
theorem pe_supV {a : Expr} {ta : TA} {p pos : Pos} {k : Nat} (KF : PySem.W.KxsFacts B initId) (FB : PySem.TfKE.InitF B initId) (FN : ExcBaseFacts Bn newId initN bmN) (T : PySem.TfS.SupTxt X.prog X.K X.mg Bn newId B initId x n qual [] C D fI) (hr : Room k X.A) (ha : PA X [a] ta)
    (l2 : (PySem.TfS.iS n).names.lookup n = some .local) (l3 : (PySem.TfS.iS n).names.lookup ("__class__" : Str) = some .free) (l4 : (PySem.TfS.iS n).names.lookup ("super" : Str) = some .globalImplicit) (hnd : (n == ("__debug__" : Str)) = false) (hns : (n == ("self" : Str)) = false)
    (hbd : ∀ (q : Str) (p1 p2 : Pos) (b : List Stmt) (doc pm : Value) (an : Option Addr) (cdv ct : Value) (cc : Addr) (e v : Value), bindArgs (PySem.W.ksFn "__init__" q (PySem.TfS.iA n p1 p2) b (PySem.TfS.iS n) .none .none doc pm an cdv ct cc) ⟨[e, v], []⟩ = pure [(("self" : Str), e), (n, v)])
    (hg : Gl X x := by rfl) (hdb : (x == ("__debug__" : Str)) = false := by decide)
    (he : starEach (a :: []) X.env = (false, eval a X.env) :: starEach [] X.env := by rfl) (hpl : (backTo pos (starEach [] X.env)).any (·.1) = false := by rfl) :
    PE X (.Call (.Name x p) [a] [] pos) (tMkV C ta) := by
  refine ⟨fun pins s σ H Q I h => ?_⟩
  refine wpAny_Call_Name_kw (ld_glob I hg T.gC ?_ hdb)
  refine PySem.W.callWith_K (h₀ := X.base) I.ok.mod.kin T.kC (thn (ha.run pos pins s σ H _ I h) fun us s1 hh => ?_) he hpl
  obtain ⟨vs, H1, I1, r1, v, ev, q1⟩ := hh
  subst ev
  refine ⟨I1.kIn, ?_⟩
  cases r1 with
  | cons rv rn =>
    rename_i v' us'
    cases rn
    show wpAny _ _ (call (.ref C) [v']) _ _ _
    have hlim := I1.nolimit
    refine wpAny_call (PySem.TfS.sup_made KF FB FN T l2 l3 l4 hnd hns hbd I1.kIn I1.glb hlim (by have := hr.dp; omega) fun h' tk' e t1 kp new he' => ?_)
    have hn : H1 e = none := I1.hok.fresh new
    exact ⟨.ref e, upd H1 e (ExO (.ref C) e), I1.laidN kp (Heap.get?_none_of_le new) hn (exO_ok he' ⟨rfl, rfl⟩ rfl rfl rfl (show 4 < 6 by decide)), rfl, q1 e hn⟩
/-- x(a): a new error of the class at C with the dict {f: a} -/
def tMkW (C : Addr) (f : Str) (ta : TA) : TE := fun σ H Q => ta σ H fun vs H1 => ∃ v, vs = [v] ∧ ∀ d a, H1 d = none → H1 a = none → a ≠ d → Q (.ref a) (upd (upd H1 d (.xd [(f, v)])) a (ExF C d a))
theorem pe_fieldV {a : Expr} {ta : TA} {p pos : Pos} {k : Nat} {r1 r2 r3 r4 : Pos} (KF : PySem.W.KxsFacts B initId) (FB : PySem.TfKE.InitF B initId) (FN : ExcBaseFacts Bn newId initN bmN) (T : PySem.TfS.SupTxt X.prog X.K X.mg Bn newId B initId x n qual [PySem.TfSF.fB n f r1 r2 r3 r4] C D fI) (U : PySem.TfSF.FldTxt X.K C f) (hr : Room k X.A) (ha : PA X [a] ta)
    (l2 : (PySem.TfS.iS n).names.lookup n = some .local) (l3 : (PySem.TfS.iS n).names.lookup ("__class__" : Str) = some .free) (l4 : (PySem.TfS.iS n).names.lookup ("super" : Str) = some .globalImplicit) (hnd : (n == ("__debug__" : Str)) = false) (hns : (n == ("self" : Str)) = false)
    (hbd : ∀ (q : Str) (p1 p2 : Pos) (b : List Stmt) (doc pm : Value) (an : Option Addr) (cdv ct : Value) (cc : Addr) (e v : Value), bindArgs (PySem.W.ksFn "__init__" q (PySem.TfS.iA n p1 p2) b (PySem.TfS.iS n) .none .none doc pm an cdv ct cc) ⟨[e, v], []⟩ = pure [(("self" : Str), e), (n, v)])
    (hg : Gl X x := by rfl) (hdb : (x == ("__debug__" : Str)) = false := by decide)
    (he : starEach (a :: []) X.env = (false, eval a X.env) :: starEach [] X.env := by rfl) (hpl : (backTo pos (starEach [] X.env)).any (·.1) = false := by rfl) :
    PE X (.Call (.Name x p) [a] [] pos) (tMkW C f ta) := by
  refine ⟨fun pins s σ H Q I h => ?_⟩
  refine wpAny_Call_Name_kw (ld_glob I hg T.gC ?_ hdb)
  refine PySem.W.callWith_K (h₀ := X.base) I.ok.mod.kin T.kC (thn (ha.run pos pins s σ H _ I h) fun us s1 hh => ?_) he hpl
  obtain ⟨vs, H1, I1, r1, v, ev, q1⟩ := hh
  subst ev
  refine ⟨I1.kIn, ?_⟩
  cases r1 with
  | cons rv rn =>
    rename_i v' us'
    cases rn
    show wpAny _ _ (call (.ref C) [v']) _ _ _
    have hlim := I1.nolimit
    have G := I1.glb
    obtain ⟨hp, g, dr, tk, os⟩ := s1
    refine wpAny_call (PySem.TfSF.made_field KF FB FN T U l2 l3 l4 hnd hns hbd I1.kIn G hlim (by have := hr.dp; omega) fun h' tk' e d M => ?_)
    obtain ⟨oe, fv, hoe, hc, hd, hdat, h1⟩ := M.obj
    have hns := M.ns
    obtain ⟨G', g1, g2⟩ := restrict h' fun b => decide (b ≠ e)
    have gk : ∀ b, b ≠ e → G'.get? b = h'.get? b := fun b hb => g1 b (decide_eq_true hb)
    have ge : G'.get? e = none := g2 e (by simp)
    have old : ∀ b o, hp.get? b = some o → G'.get? b = some o := fun b o q => (gk b (Nat.ne_of_lt (Nat.lt_of_lt_of_le (Heap.lt_size q) M.new))).trans (M.keep b o q)
    have ob : ObjOk X.prog X.w (upd H1 d (.xd [(f, v)])) G' d (.xd [(f, v)]) := ⟨_, hns.at (fun o q => (gk d M.dne).trans q), fun y => relO_one rv f y⟩
    have J : Inv X pins σ (upd H1 d (.xd [(f, v)])) ⟨G', g, dr, tk', os⟩ := I1.laid (t' := tk') old M.dbig ob
    have ned : e ≠ d := Ne.symm M.dne
    have hn : H1 e = none := I1.hok.fresh M.new
    have back : ∀ b o, G'.get? b = some o → h'.get? b = some o := fun b o q => by
      by_cases hb : b = e
      · rw [hb, ge] at q
        cases q
      · exact (gk b hb).symm.trans q
    exact ⟨.ref e, upd (upd H1 d (.xd [(f, v)])) e (ExF C d e), J.laidN (h' := h') (t' := tk') back ge (by rw [upd_ne ned]; exact hn) (exF_ok hoe ⟨hc, hd⟩ hdat), rfl, q1 d e (I1.hok.fresh M.dbig) hn ned⟩
/-- isinstance(e, c), e such an error -/
def rIsV (K : PySem.W.Frag) : List V → Hp → VK → Prop := fun xs H Q => ∃ (a D : Addr) (c : V) (cv : Value) (b : Bool), xs = [.ref a, c] ∧ ErrAt H a D ∧ ExcC K D ∧ ClsV c cv ∧ PySem.W.kitOne K (.ref D) cv = some b ∧ Q (.bl b) H
theorem call_isV : CallR X (.builtin "isinstance") (rIsV X.K) := by
  intro pins s σ H xs us Q I r h
  obtain ⟨a, D, c, cv, b, rfl, ea, C, hcv, e, q⟩ := h
  obtain ⟨u1, u2, rfl, rx, rt⟩ := vals2 r
  cases rx
  have ec := hcv.eq rt
  subst ec
  have J : ∃ oe od, PySem.W.InstAt s.heap a oe D od := by
    rcases ea with ea | ⟨d, fs, ea, ed⟩
    · obtain ⟨⟨oe, vs, ho, hz, hd, _⟩, _, _⟩ := I.hok a _ ea
      obtain ⟨oc, od, oda, osl⟩ := oe
      obtain ⟨h1, h2⟩ := hz
      dsimp only at h1 h2 hd
      subst h1 h2 hd
      exact ⟨_, none, ho, rfl, rfl, trivial⟩
    · obtain ⟨⟨oe, vs, ho, hz, hd⟩, _, _⟩ := I.hok a _ ea
      obtain ⟨mA, hns, _⟩ := (show ObjOk X.prog X.w H s.heap d (.xd fs) from I.hok d _ ed)
      obtain ⟨o2, ho2, _⟩ := lookIn_ns hns
      exact ⟨oe, some o2, ho, hz.1, by unfold PySem.W.notCls; rw [hd] <;> rfl, by rw [hz.2]; exact ho2⟩
  obtain ⟨oe, od, J⟩ := J
  exact PySem.W.kia_one (kit_exc C) I.kIn J e (fun z => nomatch z) fun tk => ⟨.bl b, H, I.kept (t' := tk) fun _ _ z => z, rfl, q⟩
/-- the same, e the error that is handled -/
def rIsP (K : PySem.W.Frag) (p : Addr × Obj) (D : Addr) : List V → Hp → VK → Prop := fun xs H Q => ∃ (c : V) (cv : Value) (b : Bool), xs = [.ref p.1, c] ∧ ClsV c cv ∧ PySem.W.kitOne K (.ref D) cv = some b ∧ Q (.bl b) H
theorem call_isP {p : Addr × Obj} {D : Addr} (C : ExcC X.K D) (hz : Zc (.ref D) none p.2) (hf : ∃ vs, p.2.data = .fields vs) (hm : p ∈ X.pn) : CallR X (.builtin "isinstance") (rIsP X.K p D) := by
  intro pins s σ H xs us Q I r h
  obtain ⟨c, cv, b, rfl, hcv, e, q⟩ := h
  obtain ⟨u1, u2, rfl, rx, rt⟩ := vals2 r
  cases rx
  have ec := hcv.eq rt
  subst ec
  obtain ⟨hget, _⟩ := I.pin p (List.mem_append_left _ hm)
  obtain ⟨vs, hv⟩ := hf
  obtain ⟨a, oe⟩ := p
  have J : PySem.W.InstAt s.heap a oe D none := by
    obtain ⟨oc, od, oda, osl⟩ := oe
    obtain ⟨h1, h2⟩ := hz
    dsimp only at h1 h2 hv
    subst h1 h2 hv
    exact ⟨hget, rfl, rfl, trivial⟩
  exact PySem.W.kia_one (kit_exc C) I.kIn J e (fun z => nomatch z) fun tk => ⟨.bl b, H, I.kept (t' := tk) fun _ _ z => z, rfl, q⟩
/-- e.f of such an error -/
def tFldV (K : PySem.W.Frag) (f : Str) (te : TE) : TE := fun σ H Q => te σ H fun x H1 => ∃ (a C d : Addr) (v : V), x = .ref a ∧ H1 a = some (ExF C d a) ∧ H1 d = some (.xd [(f, v)]) ∧ FldGet K C f ∧ Q v H1
theorem pe_fldV {e : Expr} {te : TE} {pos : Pos} (he : PE X e te) (hb : attributeBase e f X.env (eval e X.env) = eval e X.env := by rfl) : PE X (.Attribute e f pos) (tFldV X.K f te) := by
  refine ⟨fun pins s σ H Q I h => ?_⟩
  refine attr_of hb (thn (he.run pins s σ H _ I h) fun u s1 hh => ?_)
  obtain ⟨x, H1, I1, rx, a, C, d, v, ex, ea, ed, T, q⟩ := hh
  subst ex
  obtain rfl : u = Value.ref a := rx
  obtain ⟨⟨oe, vs, ha, hz, hd⟩, _, _⟩ := I1.hok a _ ea
  obtain ⟨mA, hns, hr⟩ := (show ObjOk X.prog X.w H1 s1.heap d (.xd [(f, v)]) from I1.hok d _ ed)
  obtain ⟨od, ho, hl⟩ := lookIn_ns hns
  have l : List.lookup f [(f, v)] = some v := by simp [List.lookup]
  obtain ⟨u, hu, ru⟩ := RelO.some_of (v := v) (o := mA f) (by rw [← l]; exact hr f)
  have J : PySem.W.InstAt s1.heap a oe C (some od) := ⟨ha, hz.1, by unfold PySem.W.notCls; rw [hd] <;> rfl, by rw [hz.2]; exact ho⟩
  exact HandSPX.exc_get I1.kIn J T.ga T.gg T.ex (PySem.W.findObj_own T.hd T.noF rfl (by rw [hl, hu])) (handed_of ru) ⟨v, H1, I1.tok _, ru, q⟩
end
/-! ### a def called in a suite with the handled error -/
open L2H
structure FnP (P : Program) (w : World) (K : PySem.W.Frag) (mg : Str → Option Value) (base : Heap) (k : Nat) (f : Addr) (fd : FuncData) (ps : List Str) (sp : Addr × Obj → Sp) : Prop where
  len : ∀ p vs H Q E, sp p vs H Q E → vs.length = ps.length
  run : ∀ (A : Around) (outer : List Env) (s : Shared) (H : Hp) (args : Args) (us : List Value) (vs : List V) (Q : VK) (E : XK) (p : Addr × Obj), RoomH k A → Hot1 A p → PinOk outer H s p → Env0 P w K mg base A outer s H → BindsTo s fd args (ps.zip us) → Vals vs us → sp p vs H Q E →
    codeAny (model P w) A (.call (.ref f) args) (CR L2.CX0 outer P w H s Q E) s
theorem fnP_of {P : Program} {w : World} {K : PySem.W.Frag} {mg : Str → Option Value} {base : Heap} {k : Nat} {x qual : Str} {st : Stmt} {f : Addr} {fd : FuncData} {N ps : List Str} {sp : Addr × Obj → Sp} (F : Fun K x qual st f fd) (S : FnScope N ps (defScope st))
    (len : ∀ p vs H Q E, sp p vs H Q E → vs.length = ps.length)
    (hbody : ∀ (cdv : Value) (A : Around) (outer : List Env) (s : Shared) (H : Hp) (vs : List V) (Q : VK) (E : XK) (p : Addr × Obj), Hot1 A p → RoomH k (A.deeper (envOfC qual (defScope st) s.heap.objs.size f cdv)) → sp p vs H Q E →
      ∃ t, PSs (cxH L2.CX0 P w K mg base N qual (defScope st) f cdv A outer s H E p) (defBody st) t ∧ t { nx := fun _ H' => Q .non H', rt := Q } (L2.start N vs) H) : FnP P w K mg base (k + 1) f fd ps sp := by
  obtain ⟨oc, od, kV, doc, pm, an, cdv, ct, osl, rfl, lk, hcd⟩ := F.ex
  refine ⟨len, fun A outer s H args us vs Q E p hr hot hpin e0 hb r hsp => ?_⟩
  have KX : K.In s.heap := e0.mod.kin.keeps fun b o e => (e0.bs b o e).1
  have lim : s.heap.NoLimit := e0.mod.nolimit.keeps fun b o e => (e0.bs b o e).1
  refine codeAny_call_function hr.depth (KX _ _ lk) rfl S.co S.gen rfl (PySem.W.codeRec_of KX hcd) (hb _ _ _ _ ?_)
  refine wpAny_newFunctionEnv_cells S.kind (fun ⟨n, v⟩ hy => ?_) fun env he s1 y => ?_
  · rcases S.par n (List.of_mem_zip hy).1 with q | q
    · exact .inl q
    · exact .inr ⟨q, PySem.W.cellsFrom_some _ _ _ (.inl q)⟩
  subst he
  refine ⟨lim.keeps y.toInCall.keep, codeAny_func ?_⟩
  obtain ⟨t, ht, hq⟩ := hbody cdv A outer s H vs Q E p hot (hr.deeper _) hsp
  refine wpAny_mono (ht.run [] s1 (L2.start N vs) H _ (inv_startH S hpin e0 (len _ _ _ _ _ hsp) r y) hq) (fun fl s' hs => ?_) fun e s' hs => hs
  match fl, hs with
  | .ret u, ⟨v, σ', H', J, rv, q⟩ => exact ⟨v, H', J.os, J.bare, J.base, J.hok, rv, q⟩
  | .next, ⟨σ', H', J, q⟩ => exact ⟨V.non, H', J.os, J.bare, J.base, J.hok, rfl, q⟩
  | .brk, ⟨_, _, _, q⟩ => exact False.elim q
  | .cont, ⟨_, _, _, q⟩ => exact False.elim q
section
variable {X : Cx} {k : Nat} {f : Addr} {fd : FuncData} {ps : List Str} {sp : Addr × Obj → Sp} {x : Str} {q pos : Pos} {e : Expr} {es : List Expr} {t : TA} {p : Addr × Obj}
theorem pe_callP (F : FnP X.prog X.w X.K X.mg X.base k f fd ps sp) (hr : RoomH k X.A) (hot : Hot1 X.A p) (hp : p ∈ X.pn) (hg : Gl X x) (hm : X.mg x = some (.ref f)) (hk : PySem.W.keepIn X.K (.ref f) = true) (hb : Binds X.K fd ps [])
    (ha : PA X (e :: es) t) (hdb : (x == ("__debug__" : Str)) = false := by decide) (he : starEach (e :: es) X.env = (false, eval e X.env) :: starEach es X.env := by rfl) (hpl : (backTo pos (starEach es X.env)).any (·.1) = false := by rfl) :
    PE X (.Call (.Name x q) (e :: es) [] pos) (tCallS (sp p) (fun _ => E0) t) := by
  refine ⟨fun pins s σ H Q I h => ?_⟩
  refine wpAny_Call_Name_kw (ld_glob I hg hm ?_ hdb)
  refine PySem.W.callWith_K (h₀ := X.base) I.ok.mod.kin hk (thn (ha.run pos pins s σ H _ I h) fun us s1 ⟨vs, H1, I1, r, q⟩ => ⟨I1.kIn, ?_⟩) he hpl
  have hl : us.length = ps.length := by rw [← r.length]; exact F.len _ _ _ _ _ q
  have b := hb s1 us I1.kIn (by rw [List.append_nil]; exact hl)
  rw [List.append_nil] at b
  have P1 := I1.pin p (List.mem_append_left _ hp)
  have hpin : PinOk X.stack H1 s1 p := ⟨P1.1, P1.2.1, fun hm => (List.mem_cons.mp (I1.stkSub p.1 hm)).elim P1.2.2.1 P1.2.2.2.1, P1.2.2.2.2⟩
  refine wpAny_call (codeAny_mono (F.run X.A X.stack s1 H1 ⟨us, []⟩ us vs Q E0 p hr hot hpin I1.env0 b r q) fun r' s' z => ?_)
  match r', z with
  | .error e', z => exact (show False from z).elim
  | .ok (.ret u), z => exact I1.after z
  | .ok .next, z => exact False.elim z
  | .ok .brk, z => exact False.elim z
  | .ok .cont, z => exact False.elim z
end
end TfE

/-! the law's draws: dice, roll, pick -/
namespace Tf
open PySem PySem.Spec PyProof.Rows L2
def top (i : Nat) : Stmt := PySem.Challenge.pw_treefits_k00_errors.main.body.getD i (.Pass ⟨0, 0, 0, 0⟩)
abbrev sRoll : Stmt := top 89
abbrev sPick : Stmt := top 90
abbrev sDice : Stmt := top 88
theorem scRoll : FnScope ["_law_dice_here", "_law_upto", "_law_found", "_law_one", "_law_two"] ["_law_dice_here", "_law_upto"] (defScope sRoll) := ⟨rfl, rfl, rfl, by decide +kernel, rfl, by decide +kernel, by decide +kernel⟩
theorem scPick : FnScope ["_law_dice_here", "_law_items"] ["_law_dice_here", "_law_items"] (defScope sPick) := ⟨rfl, rfl, rfl, by decide +kernel, rfl, by decide +kernel, by decide +kernel⟩
theorem scDice : FnScope ["_law_script", "_law_spot", "_law_cell", "_law_great", "_law_blend"] ["_law_script", "_law_spot"] (defScope sDice) := ⟨rfl, rfl, rfl, by decide +kernel, rfl, by decide +kernel, by decide +kernel⟩
/-- roll(dice, n): a number from 0 to n - 1; the dice change -/
def spRoll : Sp := fun vs H Q _ => ∃ (d : Addr) (n : Int), vs = [.ref d, .int n] ∧ Dice H d ∧ 0 < n ∧ n < 1000000 ∧
  ∀ (r : Int) (H' : Hp), 0 ≤ r → r < n → Nr d H H' → Dice H' d → Q (.int r) H'
section
variable {P : Program} {w : World} {K : PySem.W.Frag} {mg : Str → Option Value} {base : Heap}
theorem ok_roll {f : Addr} {fd : FuncData} {k : Nat} (F : Fun K "_law_roll" "_law_roll" sRoll f fd) (mi : mg "int" = none) : FnOk P w K mg base CX0 (k + 1) f fd ["_law_dice_here", "_law_upto"] spRoll := by
  refine F.ok scRoll (fun vs H Q E h => ?_) (fun cdv A outer s H vs Q E hr h => ?_)
  · obtain ⟨d, n, rfl, _⟩ := h
    rfl
  · obtain ⟨d, n, rfl, ⟨a, b, c, ha, hd⟩, n0, n1, q⟩ := h
    refine ⟨_, pss_cons (ps_if (pt_cmpR op_gt (pe_ix ix_list (pv 0) pe_int (fun _ _ => rfl)) pe_int (nomark _))
        (pss_cons (ps_set (i := 2) scRoll.nd rfl (.inl rfl) (pe_op op_modN (pe_callTy call_int1 (by rfl) mi (by decide +kernel) (pa_cons (pe_ix ix_list (pv 0) pe_int (fun _ _ => rfl)) pa_nil)) (pv 1)))
        (pss_cons (ps_asg (pe_op op_fdivN (pe_ix ix_list (pv 0) pe_int (fun _ _ => rfl)) (pv 1)) (pg_sub (pv 0) pe_int set_list))
        (pss_one (ps_ret (pv 2))))) pss_nil)
      (pss_cons (ps_asg (pe_op op_add (pe_ix ix_list (pv 0) pe_int (fun _ _ => rfl)) pe_int) (pg_sub (pv 0) pe_int set_list))
      (pss_cons (ps_set (i := 3) scRoll.nd rfl (.inl rfl) (pe_op op_modN (pe_callTy call_int1 (by rfl) mi (by decide +kernel) (pa_cons (pe_op op_add (pe_ix ix_list (pv 0) pe_int (fun _ _ => rfl)) (pe_op op_mul pe_int (pe_ix ix_list (pv 0) pe_int (fun _ _ => rfl)))) pa_nil)) pe_int))
      (pss_cons (ps_set (i := 4) scRoll.nd rfl (.inl rfl) (pe_op op_add (pe_op op_mul (pe_op op_modN (pe_callTy call_int1 (by rfl) mi (by decide +kernel) (pa_cons (pe_op op_mul (pv 3) (pv 3)) pa_nil)) pe_int) (pv 3)) (pe_op op_mul pe_int (pe_ix ix_list (pv 0) pe_int (fun _ _ => rfl)))))
      (pss_one (ps_ret (pe_op op_modN (pe_callTy call_int1 (by rfl) mi (by decide +kernel) (pa_cons (pe_op op_fdivN (pe_op op_modN (pe_callTy call_int1 (by rfl) mi (by decide +kernel) (pa_cons (pe_op op_add (pv 4) (pe_ix ix_list (pv 0) pe_int (fun _ _ => rfl))) pa_nil)) pe_int) pe_int) pa_nil)) (pv 1))))))), ?_⟩
    have hA : SqL K H d [.int a, .int b, .int c] := lst_of hd
    refine ⟨.ref d, rfl, d, _, 0, .int a, rfl, rfl, hA, rfl, a, 0, rfl, rfl, _, rfl, ite2 (fun e => ?_) (fun e => ?_)⟩
    · refine ⟨.ref d, rfl, d, _, 0, .int a, rfl, rfl, hA, rfl, .inl ⟨a, rfl, .int n, rfl, a, n, rfl, rfl, by omega, ?_⟩⟩
      refine ⟨.ref d, rfl, d, _, 0, .int a, rfl, rfl, hA, rfl, .int n, rfl, a, n, rfl, rfl, ⟨by omega, by omega⟩, ?_⟩
      refine ⟨.ref d, rfl, d, [.int a, .int b, .int c], 0, 0, rfl, rfl, hd, rfl, ?_⟩
      refine ⟨.int (a.fmod n), rfl, q _ _ (Int.fmod_nonneg_of_pos _ n0) (Int.fmod_lt_of_pos _ n0) Nr.upd ⟨a.fdiv n, b, c, Int.fdiv_nonneg ha (by omega), upd_same⟩⟩
    · have hA' : ∀ x y z : V, SqL K (upd H d (.lst [x, y, z])) d [x, y, z] := fun x y z => lst_of upd_same
      refine ⟨.ref d, rfl, d, _, 2, .int c, rfl, rfl, hA, rfl, c, 1, rfl, rfl, ?_⟩
      refine ⟨.ref d, rfl, d, [.int a, .int b, .int c], 2, 2, rfl, rfl, hd, rfl, ?_⟩
      have hB : SqL K (upd H d (.lst [.int a, .int b, .int (c + 1)])) d [.int a, .int b, .int (c + 1)] := hA' _ _ _
      -- _law_one
      have o0 := Int.fmod_nonneg_of_pos (b + 982451653 * (c + 1)) (show (0 : Int) < 67280421310721 by decide)
      have o1 := Int.fmod_lt_of_pos (b + 982451653 * (c + 1)) (show (0 : Int) < 67280421310721 by decide)
      refine ⟨.ref d, rfl, d, _, 1, .int b, rfl, rfl, hB, rfl, .ref d, rfl, d, _, 2, .int (c + 1), rfl, rfl, hB, rfl, 982451653, c + 1, rfl, rfl, .inl ⟨by decide, by decide⟩, b, _, rfl, rfl, .inl ⟨_, rfl, _, 67280421310721, rfl, rfl, (show (67280421310721 : Int) ≠ 0 by decide), ?_⟩⟩
      -- _law_two
      refine ⟨_, rfl, _, rfl, _, _, rfl, rfl, .inl ⟨Int.lt_of_lt_of_le (by decide) o0, Int.lt_trans o1 (by decide)⟩, .inl ⟨_, rfl, _, 576460752303423433, rfl, rfl, (show (576460752303423433 : Int) ≠ 0 by decide), _, rfl, _, _, rfl, rfl, .inr ⟨Int.lt_of_lt_of_le (by decide) o0, Int.lt_trans o1 (by decide)⟩, .ref d, rfl, d, _, 2, .int (c + 1), rfl, rfl, hB, rfl, 8191, c + 1, rfl, rfl, .inl ⟨by decide, by decide⟩, _, _, rfl, rfl, ?_⟩⟩
      refine ⟨_, rfl, .ref d, rfl, d, _, 1, .int b, rfl, rfl, hB, rfl, _, b, rfl, rfl, .inl ⟨_, rfl, _, 2199023255531, rfl, rfl, (show (2199023255531 : Int) ≠ 0 by decide), _, 64, rfl, rfl, ⟨by decide, by decide⟩, .inl ⟨_, rfl, .int n, rfl, _, n, rfl, rfl, (show n ≠ 0 by omega), ?_⟩⟩⟩
      exact q _ _ (Int.fmod_nonneg_of_pos _ n0) (Int.fmod_lt_of_pos _ n0) Nr.upd ⟨a, b, c + 1, ha, upd_same⟩
/-- pick(dice, items): one of them -/
def spPick (K : PySem.W.Frag) : Sp := fun vs H Q _ => ∃ (d l : Addr) (xs : List V), vs = [.ref d, .ref l] ∧ Dice H d ∧ H l = some (.lst xs) ∧ d ≠ l ∧ xs ≠ [] ∧ xs.length < 1000 ∧
  ∀ (v : V) (H' : Hp), v ∈ xs → Nr d H H' → Dice H' d → Q v H'
theorem ok_pick {f fR : Addr} {fd fdR : FuncData} {k : Nat} (F : Fun K "_law_pick" "_law_pick" sPick f fd) (FR : Fun K "_law_roll" "_law_roll" sRoll fR fdR) (bR : Binds K fdR ["_law_dice_here", "_law_upto"] []) (gR : mg "_law_roll" = some (.ref fR)) (mi : mg "int" = none) (ml : mg "len" = none) : FnOk P w K mg base CX0 (k + 2) f fd ["_law_dice_here", "_law_items"] (spPick K) := by
  have GR : FnOk P w K mg base CX0 (k + 1) fR fdR ["_law_dice_here", "_law_upto"] spRoll := ok_roll FR mi
  refine F.ok scPick (fun vs H Q E h => ?_) (fun cdv A outer s H vs Q E hr h => ?_)
  · obtain ⟨d, l, xs, rfl, _⟩ := h
    rfl
  · obtain ⟨d, l, xs, rfl, hd, hl, ne, x0, x1, q⟩ := h
    refine ⟨_, pss_one (ps_ret (pe_ix ix_list (pv 1) (pe_call GR hr (by rfl) gR FR.kp bR .nil pass0 (pa_cons (pv 0) (pa_cons (pe_callB call_len_seq (by rfl) ml PySem.boot_len (pa_cons (pv 1) pa_nil)) pa_nil))) (fun _ _ => rfl))), ?_⟩
    have l0 : 0 < xs.length := List.length_pos_iff.mpr x0
    refine ⟨.ref l, rfl, .ref d, rfl, .ref l, rfl, l, xs, rfl, .inl (lst_of hl), d, (xs.length : Int), rfl, hd, by omega, by omega, fun r H' r0 r1 nr dc => ?_⟩
    have hi : r.toNat < xs.length := by omega
    refine ⟨l, xs, r, xs[r.toNat], rfl, rfl, lst_of (nr l _ ne.symm hl), ?_, q _ _ (List.getElem_mem hi) nr dc⟩
    exact at_of (j := r.toNat) (by omega) (List.getElem?_eq_getElem hi)
/-- dice(script, spot) -/
def spDice (K : PySem.W.Frag) : Sp := fun vs H Q _ => ∃ (a : Addr) (ns : List Int) (i : Int), vs = [.ref a, .int i] ∧ SqL K H a (ns.map V.int) ∧ 0 ≤ i ∧ i < 1000 ∧
  ∀ (d : Addr) (H' : Hp), Same H H' → H d = none → Dice H' d → Q (.ref d) H'
theorem ok_dice {f : Addr} {fd : FuncData} {k : Nat} (F : Fun K "_law_dice" "_law_dice" sDice f fd) (mi : mg "int" = none) (ml : mg "len" = none) (ma : mg "abs" = none) (mx : mg "max" = none) : FnOk P w K mg base CX0 (k + 1) f fd ["_law_script", "_law_spot"] (spDice K) := by
  refine F.ok scDice (fun vs H Q E h => ?_) (fun cdv A outer s H vs Q E hr h => ?_)
  · obtain ⟨a, ns, i, rfl, _⟩ := h
    rfl
  · obtain ⟨a, ns, i, rfl, hS, i0, i1, q⟩ := h
    refine ⟨_, pss_cons (ps_set (i := 2) scDice.nd rfl (.inl rfl) (pe_ifExp (pt_cmpR op_lt (pv 1) (pe_callB call_len_seq (by rfl) ml PySem.boot_len (pa_cons (pv 0) pa_nil)) (nomark _)) (pe_ix ix_list (pv 0) (pv 1) (fun _ _ => rfl)) (pe_op op_add (pe_op op_mul pe_int (pv 1)) pe_int)))
      (pss_cons (ps_set (i := 3) scDice.nd rfl (.inl rfl) (pe_op op_modN (pe_callTy call_int1 (by rfl) mi (by decide +kernel) (pa_cons (pe_callB call_abs (by rfl) ma (by decide +kernel) (pa_cons (pv 2) pa_nil)) pa_nil)) (pe_op op_powW (pe_op op_pow pe_int pe_int) pe_int)))
      (pss_cons (ps_set (i := 4) scDice.nd rfl (.inl rfl) (pe_op op_add (pe_op op_add (pe_op op_add (pe_op op_mul (pv 3) pe_int) (pe_op op_mul pe_int (pv 1))) (pe_op op_mul pe_int (pe_callTy call_int1 (by rfl) mi (by decide +kernel) (pa_cons (pe_cmpR op_lt (pv 2) pe_int (nomark _)) pa_nil)))) pe_int))
      (pss_one (ps_ret (pe_lst (pa_cons (pe_callB (call_max2 rfl) (by rfl) mx (by decide +kernel) (pa_cons pe_int (pa_cons (pe_op op_sub (pv 3) (pe_op op_pow pe_int pe_int)) pa_nil))) (pa_cons (pe_op op_modN (pe_callTy call_int1 (by rfl) mi (by decide +kernel) (pa_cons (pv 4) pa_nil)) pe_int) (pa_cons pe_int pa_nil)))))))), ?_⟩
    have big : (Builtin.Int.intBits ((10 : Int) ^ (59 : Int).toNat) : Int) * 11 ≤ 2 ^ 27 := by decide +kernel
    have pos : (0 : Int) < ((10 : Int) ^ (59 : Int).toNat) ^ (11 : Int).toNat := by decide +kernel
    refine ⟨.int i, rfl, .ref a, rfl, a, _, rfl, .inl hS, _, _, rfl, rfl, _, rfl, ite2 (fun e => ?_) (fun e => ?_)⟩
    · have e1 : i < ((ns.map V.int).length : Int) := of_decide_eq_true e
      have e2 : i.toNat < (ns.map V.int).length := by omega
      have e3 : i.toNat < ns.length := by rw [List.length_map] at e2; exact e2
      refine ⟨.ref a, rfl, .int i, rfl, a, _, i, .int ns[i.toNat], rfl, rfl, hS, at_of (j := i.toNat) (by omega) (by rw [List.getElem?_map, List.getElem?_eq_getElem e3]; rfl), ?_⟩
      refine ⟨_, rfl, _, rfl, .inl ⟨_, rfl, 10, 59, rfl, rfl, ⟨by decide, by decide, by decide⟩, _, 11, rfl, rfl, ⟨by decide, big⟩, _, _, rfl, rfl, (by intro z; rw [z] at pos; exact absurd pos (by decide)), ?_⟩⟩
      refine ⟨_, rfl, _, 2862933555777941757, rfl, rfl, .inr ⟨by decide, by decide⟩, .int i, rfl, 61, i, rfl, rfl, .inl ⟨by decide, by decide⟩, _, _, rfl, rfl, _, rfl, _, 0, rfl, rfl, .inr ⟨_, rfl, 13, _, rfl, rfl, .inl ⟨by decide, by decide⟩, _, _, rfl, rfl, _, 5, rfl, rfl, ?_⟩⟩
      refine ⟨_, rfl, 10, 18, rfl, rfl, ⟨by decide, by decide, by decide⟩, _, _, rfl, rfl, 0, _, rfl, _, rfl, .inl ⟨_, rfl, _, 2305843009213693951, rfl, rfl, (show (2305843009213693951 : Int) ≠ 0 by decide), ?_⟩⟩
      refine ⟨by show 3 ≤ sizeLine; decide, fun d nd => ?_⟩
      refine q d _ (same_new nd) nd ⟨_, _, 0, ?_, upd_same⟩
      show (0 : Int) ≤ if _ > (0 : Int) then _ else 0
      split <;> omega
    · refine ⟨.int i, rfl, 29, i, rfl, rfl, .inl ⟨by decide, by decide⟩, _, 12, rfl, rfl, ?_⟩
      refine ⟨_, rfl, _, rfl, .inl ⟨_, rfl, 10, 59, rfl, rfl, ⟨by decide, by decide, by decide⟩, _, 11, rfl, rfl, ⟨by decide, big⟩, _, _, rfl, rfl, (by intro z; rw [z] at pos; exact absurd pos (by decide)), ?_⟩⟩
      refine ⟨_, rfl, _, 2862933555777941757, rfl, rfl, .inr ⟨by decide, by decide⟩, .int i, rfl, 61, i, rfl, rfl, .inl ⟨by decide, by decide⟩, _, _, rfl, rfl, _, rfl, _, 0, rfl, rfl, .inr ⟨_, rfl, 13, _, rfl, rfl, .inl ⟨by decide, by decide⟩, _, _, rfl, rfl, _, 5, rfl, rfl, ?_⟩⟩
      refine ⟨_, rfl, 10, 18, rfl, rfl, ⟨by decide, by decide, by decide⟩, _, _, rfl, rfl, 0, _, rfl, _, rfl, .inl ⟨_, rfl, _, 2305843009213693951, rfl, rfl, (show (2305843009213693951 : Int) ≠ 0 by decide), ?_⟩⟩
      refine ⟨by show 3 ≤ sizeLine; decide, fun d nd => ?_⟩
      refine q d _ (same_new nd) nd ⟨_, _, 0, ?_, upd_same⟩
      show (0 : Int) ≤ if _ > (0 : Int) then _ else 0
      split <;> omega
end
end Tf

/-! is_name -/
namespace Tf
open PySem PySem.Spec PyProof.Rows L2
abbrev sName : Stmt := top 23
theorem scName : FnScope ["value", "sign"] ["value"] (defScope sName) := ⟨rfl, rfl, rfl, by decide +kernel, rfl, by decide +kernel, by decide +kernel⟩
/-- not a text -/
def NoStr (K : PySem.W.Frag) (H : Hp) (x : V) : Prop := ∃ t : String, TyX K H x (.type t) ∧ kitB t "str" = some false
/-- a text of at most a thousand signs, or no text -/
def Some1 (K : PySem.W.Frag) (H : Hp) (x : V) : Prop := (∃ z : Str, x = .str z ∧ z.length ≤ 1000) ∨ NoStr K H x
/-- whether a value is a name -/
def isN : V → Bool
  | .str z => nameB z
  | _ => false
def spName (K : PySem.W.Frag) : Sp := fun vs H Q _ => ∃ x : V, vs = [x] ∧ Some1 K H x ∧ ((∃ z, x = .str z) ∨ isN x = false) ∧ ∀ H', Same H H' → Q (.bl (isN x)) H'
section
variable {P : Program} {w : World} {K : PySem.W.Frag} {mg : Str → Option Value} {base : Heap}
theorem ok_name {f : Addr} {fd : FuncData} {k : Nat} {t8 ts : Tok} (F : Fun K "is_name" "is_name" sName f fd) (mI : mg "isinstance" = none) (mS : mg "str" = none) (mL : mg "len" = none) (mA : mg "all" = none) (g8 : mg "MAX_SIGNS" = some (.int 8 t8)) (gs : mg "SIGNS" = some (.str signs ts)) : FnOk P w K mg base CX0 (k + 1) f fd ["value"] (spName K) := by
  refine F.ok scName (fun vs H Q E h => ?_) (fun cdv A outer s H vs Q E hr h => ?_)
  · obtain ⟨x, rfl, _⟩ := h
    rfl
  · obtain ⟨x, rfl, h1, h2, q⟩ := h
    refine ⟨_, pss_cons (ps_if (PW.pt (pw_or (pt_not (pt_val (pe_callB call_isi (by rfl) mI (by decide +kernel) (pa_cons (pv 0) (pa_cons (pe_bltn (v := .ty "str") (by rfl) mS (by decide +kernel) rfl) pa_nil)))))
          (pw_or1 (pt_not (pt_chain op_le op_le pe_int (pe_callB call_len_str (by rfl) mL PySem.boot_len (pa_cons (pv 0) pa_nil)) (pe_glob (v := .int 8) rfl g8 ⟨_, rfl⟩))))))
        (pss_one (ps_ret pe_bl)) pss_nil)
      (pss_one (ps_ret (pe_callB (cr_all rfl) (by rfl) mA (by decide +kernel) (pa_cons (pe_lc (own := [("sign", 1)]) (g := gName 1) (tt := tYes) (by rfl) scName.nd (pi_str (pv 0)) (blkOk_by (own := [("sign", 1)]) (N := ["value", "sign"]) (sc := defScope sName) (by decide +kernel)) (fun _ _ _ _ _ => pg_name (i := 1) scName.nd rfl (Or.inl rfl)) (fun _ _ _ _ _ => pts_nil)
          (fun _ _ _ _ _ => pe_cmpR op_in_sign (pv 1) (pe_glob (v := .str signs) rfl gs ⟨_, rfl⟩) (by rfl))) pa_nil)))), ?_⟩
    rcases h1 with ⟨z, rfl, hz⟩ | ⟨t, ht, kt⟩
    · have zs : z.length ≤ sizeLine := Nat.le_trans hz (by decide)
      refine ⟨.str z, rfl, .str z, .ty "str", .type "str", .type "str", true, rfl, .ty _, .base (.str z), kit_ty (by decide +kernel), true, rfl, iteF ?_⟩
      refine ⟨.str z, rfl, z, rfl, zs, 1, (z.length : Int), rfl, rfl, _, rfl, ?_⟩
      have bad : (¬ (1 ≤ z.length ∧ z.length ≤ 8)) → Q (.bl false) H := fun c => by
        have e : isN (.str z) = false := by
          show nameB z = false
          cases hb : nameB z with
          | false => rfl
          | true => exact absurd (nameB_len hb) c
        rw [e] at q
        exact q H (Same.refl H)
      refine ite2 (fun c1 => ?_) (fun c1 => ⟨false, rfl, iteT (bad ?_)⟩)
      · have c1' : (1 : Int) ≤ (z.length : Int) := of_decide_eq_true c1
        refine ⟨(z.length : Int), 8, rfl, rfl, _, rfl, ?_⟩
        by_cases c2 : z.length ≤ 8
        · have d2 : decide ((z.length : Int) ≤ 8) = true := decide_eq_true (by omega)
          rw [d2]
          refine iteF ?_
          -- the signs
          refine ⟨.str z, rfl, z, rfl, fun D nD => lc_on (h := fun c => V.str ⟨#[c]⟩) walk_txt rfl (fun _ => true) (fun c => .bl (decide (c ∈ signs.cps.toList))) nD (fun _ _ => trivial) ?_ (fun c _ H2 _ => tto_yes) (fun c _ _ H2 s2 Q' q' => ⟨_, rfl, c, signs, rfl, rfl, q' H2 (Same.refl H2)⟩) fun H2 s2 e2 => ?_⟩
          · rw [Array.length_toList]
            show z.length < 100000
            omega
          · refine ⟨D, z.cps.toList.map fun c => decide (c ∈ signs.cps.toList), rfl, lst_of ?_, ?_⟩
            · rw [e2, List.map_map, fil_true]
              rfl
            · have e : isN (.str z) = (z.cps.toList.map fun c => decide (c ∈ signs.cps.toList)).all id := by
                show nameB z = _
                unfold nameB
                rw [decide_eq_true (show 1 ≤ z.length by omega), decide_eq_true c2, List.all_map]
                rfl
              rw [e] at q
              exact q H2 s2
        · have d2 : decide ((z.length : Int) ≤ 8) = false := decide_eq_false (by omega)
          rw [d2]
          exact iteT (bad (by omega))
      · have c1' : ¬ (1 : Int) ≤ (z.length : Int) := fun z => c1 (decide_eq_true z)
        omega
    · refine ⟨x, rfl, x, .ty "str", .type t, .type "str", false, rfl, .ty _, ht, kit_ty kt, false, rfl, iteT ?_⟩
      have e : isN x = false := by
        rcases h2 with ⟨z, rfl⟩ | e
        · cases ht with
          | base b =>
            cases b
            exact absurd kt (by decide +kernel)
        · exact e
      rw [e] at q
      exact iteT (q H (Same.refl H))
end
end Tf

/-! different_names -/
namespace Tf
open PySem PySem.Spec PyProof.Rows L2
abbrev veBm : List Value := [.type "ValueError", .type "Exception", .type "BaseException", .type "object"]
/-- an error class over TreeError -/
abbrev TreeTxt (P : Program) (K : PySem.W.Frag) (mg : Str → Option Value) (x : Str) (C D fI : Addr) : Prop := PySem.TfS.SupTxt P K mg "ValueError" "ValueError.__new__" "ValueError" "ValueError.__init__" x "message" "TreeError.__init__" [] C D fI
theorem pmk_tree {X : Cx} {x : Str} {C D fI : Addr} {a : Expr} {ta : TA} {p pos : Pos} {k : Nat} (T : TreeTxt X.prog X.K X.mg x C D fI) (hr : Room k X.A) (ha : PA X [a] ta) (hg : Gl X x := by rfl) (hdb : (x == ("__debug__" : Str)) = false := by decide)
    (he : starEach (a :: []) X.env = (false, eval a X.env) :: starEach [] X.env := by rfl) (hpl : (backTo pos (starEach [] X.env)).any (·.1) = false := by rfl) : L2N.PMk X (.Call (.Name x p) [a] [] pos) (tMkS C ta) :=
  pmk_supN PySem.W.kxs_ValueError (PySem.TfS.init_of PySem.F.excBase_ValueError) PySem.F.excBase_ValueError T hr ha (by decide +kernel) (by decide +kernel) (by decide +kernel) (by decide +kernel) (by decide +kernel) (fun _ _ _ _ _ _ _ _ _ _ _ _ => rfl) hg hdb he hpl
abbrev sDiff : Stmt := top 28
theorem scDiff : FnScope ["values", "value"] ["values"] (defScope sDiff) := ⟨rfl, rfl, rfl, by decide +kernel, rfl, by decide +kernel, by decide +kernel⟩
/-- not a tuple -/
def NoTup (K : PySem.W.Frag) (H : Hp) (x : V) : Prop := ∃ t : Value, TyX K H x t ∧ PySem.W.kitOne K t (.type "tuple") = some false
/-- a value that may stand in a tuple of names -/
def Item (K : PySem.W.Frag) (H : Hp) (x : V) : Prop := Some1 K H x ∧ ((∃ z, x = .str z) ∨ isN x = false)
/-- the texts among the values -/
def txts (xs : List V) : List Str := xs.filterMap fun x => match x with | .str z => some z | _ => none
def spDiff (K : PySem.W.Frag) (CI : Addr) : Sp := fun vs H Q E => ∃ x : V, vs = [x] ∧
  ((NoTup K H x ∧ ∀ H', Same H H' → E (.ref CI) none H') ∨
   (∃ (a : Addr) (xs : List V), x = .ref a ∧ SqT K H a xs ∧ (∀ y ∈ xs, ∀ H', Same H H' → Item K H' y) ∧ xs.length ≤ 60 ∧
     (xs.all isN = false → ∀ H', Same H H' → E (.ref CI) none H') ∧
     (xs.all isN = true → ∀ (p : Addr) (H' : Hp), Same H H' → H p = none → H' p = some (.tup ((canon (txts xs)).map V.str)) → Q (.ref p) H')))
theorem ty_tup {K : PySem.W.Frag} {H : Hp} {a : Addr} {xs : List V} (h : SqT K H a xs) : TyX K H (.ref a) (.type "tuple") := by
  rcases h with (h | ⟨o, h⟩) | h
  · exact .base (.tup h)
  · exact .fTuple h
  · obtain ⟨o, its, n, h1, h2, h3, h4⟩ := h
    exact .kTuple h1 h2
theorem txts_cons_str (z : Str) (xs : List V) : txts (.str z :: xs) = z :: txts xs := rfl
theorem all_names : ∀ {xs : List V}, xs.all isN = true → xs = (txts xs).map V.str ∧ ∀ z ∈ txts xs, nameB z = true
  | [], _ => ⟨rfl, fun z hz => by cases hz⟩
  | x :: xs, h => by
    have h2 : (isN x && xs.all isN) = true := h
    rw [Bool.and_eq_true] at h2
    obtain ⟨e, n⟩ := all_names h2.2
    cases x with
    | str z =>
      rw [txts_cons_str]
      refine ⟨by rw [List.map_cons, ← e], fun y hy => ?_⟩
      rcases List.mem_cons.mp hy with rfl | hy
      · exact h2.1
      · exact n y hy
    | _ => exact absurd h2.1 (by intro z; cases z)
section
variable {P : Program} {w : World} {K : PySem.W.Frag} {mg : Str → Option Value} {base : Heap}
theorem ok_diff {f fN CI CT fI : Addr} {fd fdN : FuncData} {k : Nat} (F : Fun K "different_names" "different_names" sDiff f fd) (T : TreeTxt P K mg "InvalidLanguage" CI CT fI) (GN : FnOk P w K mg base CX0 (k + 1) fN fdN ["value"] (spName K)) (bN : Binds K fdN ["value"] []) (gN : mg "is_name" = some (.ref fN)) (kN : PySem.W.keepIn K (.ref fN) = true)
    (mI : mg "isinstance" = none) (mT : mg "tuple" = none) (mA : mg "all" = none) (mS : mg "sorted" = none) (mL : mg "list" = none) : FnOk P w K mg base (L2N.CX P w) (k + 3) f fd ["values"] (spDiff K CI) := by
  refine F.okN scDiff (fun vs H Q E h => ?_) (fun cdv A outer s H vs Q E hr h => ?_)
  · obtain ⟨x, rfl, _⟩ := h
    rfl
  · obtain ⟨x, rfl, h⟩ := h
    refine ⟨_, pss_cons (ps_if (PW.pt (pw_or (pt_not (pt_val (pe_callB call_isi (by rfl) mI (by decide +kernel) (pa_cons (pv 0) (pa_cons (pe_bltn (v := .ty "tuple") (by rfl) mT (by decide +kernel) rfl) pa_nil)))))
          (pw_or1 (pt_not (pt_val (pe_callB (cr_all rfl) (by rfl) mA (by decide +kernel) (pa_cons (pe_lc (own := [("value", 1)]) (g := gName 1) (tt := tYes) (by rfl) scDiff.nd (pi_tup (pv 0)) (blkOk_by (own := [("value", 1)]) (N := ["values", "value"]) (sc := defScope sDiff) (by decide +kernel)) (fun _ _ _ _ _ => pg_name (i := 1) scDiff.nd rfl (Or.inl rfl)) (fun _ _ _ _ _ => pts_nil)
            (fun _ _ _ _ _ => pe_call GN (hr.mono (by omega)) (by rfl) gN kN bN .nil pass0 (pa_cons (pv 1) pa_nil))) pa_nil)))))))
        (pss_one (L2N.ps_raise rfl (L2N.takes_of rfl rfl rfl rfl) (pmk_tree T hr (pa_cons pe_str pa_nil)))) pss_nil)
      (pss_one (ps_ret (pe_callTy call_tuple_of (by rfl) mT (by decide +kernel) (pa_cons (pe_callB cr_sortedS (by rfl) mS (by decide +kernel) (pa_cons (pe_callTy (call_list_dK rfl) (by rfl) mL (by decide +kernel) (pa_cons
        (pe_dc (own := [("value", 1)]) (g := gName 1) (tt := tYes) (by rfl) scDiff.nd (pi_tup (pv 0)) (blkOk_by (own := [("value", 1)]) (N := ["values", "value"]) (sc := defScope sDiff) (by decide +kernel)) (fun _ _ _ _ _ => pg_name (i := 1) scDiff.nd rfl (Or.inl rfl)) (fun _ _ _ _ _ => pts_nil) (fun _ _ _ _ _ => pv 1) (fun _ _ _ _ _ => pe_bl)) pa_nil)) pa_nil)) pa_nil)))), ?_⟩
    rcases h with ⟨⟨t, ht, kt⟩, hE⟩ | ⟨a, xs, rfl, hS, hI, hl, hE, hQ⟩
    · refine ⟨x, rfl, x, .ty "tuple", t, .type "tuple", false, rfl, .ty _, ht, kt, false, rfl, iteT (iteT ?_)⟩
      exact ⟨_, rfl, hE H (Same.refl H)⟩
    · refine ⟨.ref a, rfl, .ref a, .ty "tuple", .type "tuple", .type "tuple", true, rfl, .ty _, ty_tup hS, kit_ty (by decide +kernel), true, rfl, iteF ?_⟩
      refine ⟨.ref a, rfl, a, rfl, ⟨_, hS⟩, fun D nD => lc_map (h := fun x : V => x) (xs := xs) (by rw [List.map_id']; exact walk_tup) rfl (fun x => .bl (isN x)) nD (fun H2 s2 => s2.tup hS) (by omega) (fun x hx H2 s2 Q' q' => ?_) fun H2 s2 e2 => ?_⟩
      · obtain ⟨i1, i2⟩ := hI x hx H2 s2
        exact ⟨x, rfl, x, rfl, i1, i2, fun H3 s3 => q' H3 s3⟩
      · refine ⟨D, xs.map isN, rfl, lst_of (by rw [e2, List.map_map]; rfl), ?_⟩
        rw [List.all_map]
        cases ha : xs.all isN with
        | false =>
          have e : xs.all (id ∘ isN) = false := ha
          rw [e]
          exact ⟨false, rfl, iteT ⟨_, rfl, hE ha H2 s2⟩⟩
        | true =>
          have e : xs.all (id ∘ isN) = true := ha
          rw [e]
          obtain ⟨ex, nx⟩ := all_names ha
          generalize txts xs = zs at ex nx hQ
          subst ex
          rw [List.length_map] at hl
          refine ⟨true, rfl, iteF ?_⟩
          have hS2 := s2.tup hS
          refine ⟨.ref a, rfl, a, rfl, ⟨_, hS2⟩, fun D3 nD3 => dc_tup (xs := zs.map V.str) (fun i H3 => Same H2 H3 ∧ H3 D3 = some (.dK ((firsts (zs.take i)).map keyT))) ⟨same_new nD3, by rw [upd_same]; rfl⟩ (fun i H3 _ p => p.1.tup hS2) (fun i x H3 hx p => ?_) fun H3 p => ?_⟩
          · obtain ⟨s3, e3⟩ := p
            rw [List.getElem?_map] at hx
            cases hz : zs[i]? with
            | none => rw [hz] at hx; cases hx
            | some z =>
              rw [hz] at hx
              have ex : V.str z = x := Option.some.inj hx
              subst ex
              have hi : i < zs.length := (List.getElem?_eq_some_iff.mp hz).1
              have tk : zs.take (i + 1) = zs.take i ++ [z] := by rw [List.take_add_one, hz]; rfl
              refine ⟨by simp [wipe], ?_⟩
              unfold tYes
              simp only [↓reduceIte]
              refine ⟨_, rfl, _, Sum.inr z, rfl, e3, ?_, ?_, ?_⟩
              · have := firsts_len (zs.take i)
                rw [List.length_map]
                rw [List.length_take] at this
                exact small1000 (by omega)
              · exact s3.mut nD3
              · rw [upd_same, put_keyT, ← firsts_snoc, ← tk]
          · obtain ⟨s3, e3⟩ := p
            rw [List.length_map, List.take_length] at e3
            refine ⟨D3, _, rfl, e3, fun p4 n4 => ?_⟩
            have fl := firsts_len zs
            refine ⟨p4, firsts zs, rfl, lst_of ?_, by omega, fun ys p5 pm so n5 => ?_⟩
            · rw [upd_same, List.map_map]
              rfl
            · have ey : ys = canon zs := canon_is pm so
              subst ey
              refine ⟨p5, _, rfl, .inl ⟨lst_of upd_same, fun p6 n6 => ?_⟩⟩
              have s6 := ((s2.trans s3).new n4 |>.new n5).new (o := .tup ((canon zs).map V.str)) n6
              exact hQ ha p6 _ s6 (((s2.trans s3).new n4 |>.new n5).free n6) upd_same
end
end Tf

/-! Language.__init__ -/
namespace Tf
open PySem PySem.Spec PyProof.Rows L2
abbrev sLang : Stmt := top 30
abbrev sInit : Stmt := inClass sLang 0
theorem scInit : FnScope ["self", "kinds", "marks", "kind"] ["self", "kinds", "marks"] (defScope sInit) := ⟨rfl, rfl, rfl, by decide +kernel, rfl, by decide +kernel, by decide +kernel⟩
/-- a language stands at a: its marks and kinds -/
def LangAt (C : Addr) (H : Hp) (a : Addr) (ms ks : List Str) : Prop := ∃ dx fs pm pk, H a = some (.ins C dx fs) ∧ fs.lookup ("own_marks" : Str) = some (.ref pm) ∧ fs.lookup ("own_kinds" : Str) = some (.ref pk) ∧ H pm = some (.tup (ms.map V.str)) ∧ H pk = some (.tup (ks.map V.str)) ∧ fs.map (·.1) = [("own_marks" : Str), "own_kinds"]
theorem LangAt.same {C : Addr} {H H' : Hp} {a : Addr} {ms ks : List Str} (h : LangAt C H a ms ks) (s : Same H H') : LangAt C H' a ms ks := by
  obtain ⟨dx, fs, pm, pk, h1, h2, h3, h4, h5, h6⟩ := h
  exact ⟨dx, fs, pm, pk, s _ _ h1, h2, h3, s _ _ h4, s _ _ h5, h6⟩
/-- whether these marks and kinds make a language -/
def langOk (ms ks : List Str) : Bool := (decide ((canon ms).length ≤ 8) && (decide (1 ≤ (canon ks).length) && decide ((canon ks).length ≤ 4))) && !(canon ks).any fun k => decide (k ∈ canon ms)
/-- marks ms, the value kv as kinds: it is done, or refused -/
def Makes (K : PySem.W.Frag) (H0 : Hp) (ms : List V) (kv : V) (good : List Str → Prop) (bad : Prop) : Prop :=
  (∀ y ∈ ms, ∀ H', Same H0 H' → Item K H' y) ∧ ms.length ≤ 60 ∧
  ((ms.all isN = false → bad) ∧ (ms.all isN = true →
    (((∀ H', Same H0 H' → NoTup K H' kv) ∧ bad) ∨
     ∃ (a : Addr) (ks : List V), kv = .ref a ∧ SqT K H0 a ks ∧ (∀ y ∈ ks, ∀ H', Same H0 H' → Item K H' y) ∧ ks.length ≤ 60 ∧
      (ks.all isN = false → bad) ∧ (ks.all isN = true → langOk (txts ms) (txts ks) = false → bad) ∧ (ks.all isN = true → langOk (txts ms) (txts ks) = true → good (txts ks)))))
def spBody (K : PySem.W.Frag) (C CI : Addr) : Sp := fun vs H Q E => ∃ (x pm dx : Addr) (kv : V) (ms : List V) (H0 : Hp), vs = [.ref x, kv, .ref pm] ∧ Same H0 H ∧ H0 x = none ∧ H x = some (.ins C dx []) ∧ H pm = some (.tup ms) ∧
  Makes K H0 ms kv (fun ks => ∀ H', Same H0 H' → LangAt C H' x (canon (txts ms)) (canon ks) → Q .non H') (∀ H', Same H0 H' → E (.ref CI) none H')
theorem flat_strs (zs : List Str) : (zs.map V.str).all flatV = true := by
  rw [List.all_map]
  exact List.all_eq_true.mpr fun _ _ => rfl
theorem any_congr {α : Type} {xs : List α} {p q : α → Bool} (h : ∀ z, p z = q z) : xs.any p = xs.any q := by rw [show p = q from funext h]
theorem inV_strs (z : Str) (zs : List Str) : inV (.str z) (zs.map V.str) = decide (z ∈ zs) := by
  unfold inV
  rw [List.any_map]
  by_cases h : z ∈ zs
  · rw [decide_eq_true h]
    exact List.any_eq_true.mpr ⟨z, h, show (z == z) = true by simp⟩
  · rw [decide_eq_false h]
    refine List.any_eq_false.mpr fun y hy e => h ?_
    have e' : (y == z) = true := e
    rw [← beq_iff_eq.mp e']
    exact hy
section
variable {P : Program} {w : World} {K : PySem.W.Frag} {mg : Str → Option Value} {base : Heap}
/-- what of the class Language the written part tells -/
structure LCls (K : PySem.W.Frag) (C : Addr) : Prop where
  cl : Cls K C
  nm : NoAttr K C "own_marks"
  nk : NoAttr K C "own_kinds"
theorem body_init {f fD CI CT fI C : Addr} {fdD : FuncData} {k : Nat} {t8 t4 : Tok} (L : LCls K C) (T : TreeTxt P K mg "InvalidLanguage" CI CT fI) (GD : FnOk P w K mg base (L2N.CX P w) k fD fdD ["values"] (spDiff K CI)) (bD : Binds K fdD ["values"] []) (gD : mg "different_names" = some (.ref fD)) (kD : PySem.W.keepIn K (.ref fD) = true)
    (mL : mg "len" = none) (mA : mg "any" = none) (g8 : mg "MAX_MARKS" = some (.int 8 t8)) (g4 : mg "MAX_KINDS" = some (.int 4 t4))
    (cdv : Value) (A : Around) (outer : List Env) (s : Shared) (H : Hp) (vs : List V) (Q : VK) (E : XK) (hr : Room k (A.deeper (envOfC "Language.__init__" (defScope sInit) s.heap.objs.size f cdv))) (h : spBody K C CI vs H Q E) :
    ∃ t, PSs (cxOf (L2N.CX P w) P w K mg base ["self", "kinds", "marks", "kind"] "Language.__init__" (defScope sInit) f cdv A outer s H E) (defBody sInit) t ∧ t { nx := fun _ H' => Q .non H', rt := Q } (start ["self", "kinds", "marks", "kind"] vs) H := by
  obtain ⟨x, pm, dx, kv, ms, H0, rfl, s0, nx, hx, hpm, mi, ml, mb, mk⟩ := h
  refine ⟨_, pss_cons (ps_fld (pv 0) (pe_call GD hr (by rfl) gD kD bD .nil (L2N.passes_call (L2N.takes_of rfl rfl rfl rfl) (fun _ _ _ _ h => h)) (pa_cons (pv 2) pa_nil)) rfl)
    (pss_cons (ps_fld (pv 0) (pe_call GD hr (by rfl) gD kD bD .nil (L2N.passes_call (L2N.takes_of rfl rfl rfl rfl) (fun _ _ _ _ h => h)) (pa_cons (pv 1) pa_nil)) rfl)
    (pss_cons (ps_if (PW.pt (pw_or (pt_cmpR op_gt (pe_callB call_len_seq (by rfl) mL PySem.boot_len (pa_cons (pe_fld (pv 0) rfl) pa_nil)) (pe_glob (v := .int 8) rfl g8 ⟨_, rfl⟩) (nomark _))
        (pw_or1 (pt_not (pt_chain op_le op_le pe_int (pe_callB call_len_seq (by rfl) mL PySem.boot_len (pa_cons (pe_fld (pv 0) rfl) pa_nil)) (pe_glob (v := .int 4) rfl g4 ⟨_, rfl⟩))))))
      (pss_one (L2N.ps_raise rfl (L2N.takes_of rfl rfl rfl rfl) (pmk_tree T hr (pa_cons pe_str pa_nil)))) pss_nil)
    (pss_one (ps_if (pt_val (pe_callB (cr_any rfl) (by rfl) mA (by decide +kernel) (pa_cons (pe_lc (own := [("kind", 3)]) (g := gName 3) (tt := tYes) (te := tOp (rIn K false) (tVar 3) (tFld K (tVar 0) "own_marks")) (by rfl) scInit.nd (pi_tup (pe_fld (pv 0) (by rfl))) (blkOk_by (own := [("kind", 3)]) (N := ["self", "kinds", "marks", "kind"]) (sc := defScope sInit) (by decide +kernel)) (fun _ _ _ _ _ => pg_name (i := 3) scInit.nd rfl (Or.inl rfl)) (fun _ _ _ _ _ => pts_nil)
          (fun _ _ _ _ _ => pe_cmpR op_in_seq (pv 3) (pe_fld (pv 0) (by rfl)) (by rfl))) pa_nil)))
      (pss_one (L2N.ps_raise rfl (L2N.takes_of rfl rfl rfl rfl) (pmk_tree T hr (pa_cons pe_str pa_nil)))) pss_nil)))), ?_⟩
  refine ⟨.ref pm, rfl, .ref pm, rfl, .inr ⟨pm, ms, rfl, tup_of hpm, fun y hy H' s' => mi y hy H' (s0.trans s'), ml, fun c H' s' => mb c H' (s0.trans s'), fun ha p H1 s1 np e1 => ?_⟩⟩
  have npx : p ≠ x := (ne_of_none hx np).symm
  refine ⟨.ref x, rfl, x, C, dx, [], rfl, s1 _ _ hx, L.cl, L.nm, by decide, ?_⟩
  have s2 : Same H0 (upd H1 x (.ins C dx (putF "own_marks" (.ref p) []))) := (s0.trans s1).mut nx
  have x2 : (upd H1 x (.ins C dx (putF "own_marks" (.ref p) []))) x = some (.ins C dx [(("own_marks" : Str), .ref p)]) := upd_same
  have p2 : (upd H1 x (.ins C dx (putF "own_marks" (.ref p) []))) p = some (.tup ((canon (txts ms)).map V.str)) := by rw [upd_ne npx]; exact e1
  generalize upd H1 x (.ins C dx (putF "own_marks" (.ref p) [])) = H2 at s2 x2 p2 ⊢
  refine ⟨kv, rfl, kv, rfl, ?_⟩
  rcases mk ha with ⟨nt, bad⟩ | ⟨a, ks, rfl, hS, ki, kl, b1, b2, gd⟩
  · exact .inl ⟨nt H2 s2, fun H' s' => bad H' (s2.trans s')⟩
  refine .inr ⟨a, ks, rfl, s2.tup hS, fun y hy H' s' => ki y hy H' (s2.trans s'), kl, fun c H' s' => b1 c H' (s2.trans s'), fun hb pk H3 s3 npk e3 => ?_⟩
  have nkx : pk ≠ x := (ne_of_none x2 npk).symm
  have nkp : pk ≠ p := (ne_of_none p2 npk).symm
  refine ⟨.ref x, rfl, x, C, dx, _, rfl, s3 _ _ x2, L.cl, L.nk, (show 1 < 1000 by decide), ?_⟩
  have s4 : Same H0 (upd H3 x (.ins C dx (putF "own_kinds" (.ref pk) [(("own_marks" : Str), .ref p)]))) := (s2.trans s3).mut nx
  have x4 : (upd H3 x (.ins C dx (putF "own_kinds" (.ref pk) [(("own_marks" : Str), .ref p)]))) x = some (.ins C dx [(("own_marks" : Str), .ref p), (("own_kinds" : Str), .ref pk)]) := upd_same
  have p4 : (upd H3 x (.ins C dx (putF "own_kinds" (.ref pk) [(("own_marks" : Str), .ref p)]))) p = some (.tup ((canon (txts ms)).map V.str)) := by rw [upd_ne npx]; exact s3 _ _ p2
  have k4 : (upd H3 x (.ins C dx (putF "own_kinds" (.ref pk) [(("own_marks" : Str), .ref p)]))) pk = some (.tup ((canon (txts ks)).map V.str)) := by rw [upd_ne nkx]; exact e3
  generalize upd H3 x (.ins C dx (putF "own_kinds" (.ref pk) [(("own_marks" : Str), .ref p)])) = H4 at s4 x4 p4 k4 ⊢
  have b2' := b2 hb
  have gd' := gd hb
  -- the numbers
  refine ⟨.ref x, rfl, x, C, dx, _, .ref p, rfl, x4, L.cl, L.nm, rfl, p, _, rfl, .inr (tup_of p4), _, 8, rfl, rfl, _, rfl, ?_⟩
  rw [List.length_map]
  have no : ((canon (txts ms)).length ≤ 8 ∧ 1 ≤ (canon (txts ks)).length ∧ (canon (txts ks)).length ≤ 4 → False) → E (.ref CI) none H4 := fun c => by
    refine b2' ?_ H4 s4
    cases hk : langOk (txts ms) (txts ks) with
    | false => rfl
    | true =>
      unfold langOk at hk
      rw [Bool.and_eq_true, Bool.and_eq_true, Bool.and_eq_true] at hk
      exact (c ⟨of_decide_eq_true hk.1.1, of_decide_eq_true hk.1.2.1, of_decide_eq_true hk.1.2.2⟩).elim
  refine ite2 (fun c1 => iteT ⟨_, rfl, no fun c => ?_⟩) (fun c1 => ?_)
  · have c1' : (8 : Int) < ((canon (txts ms)).length : Int) := of_decide_eq_true c1
    omega
  have c1' : ¬ (8 : Int) < ((canon (txts ms)).length : Int) := fun z => c1 (decide_eq_true z)
  refine ⟨.ref x, rfl, x, C, dx, _, .ref pk, rfl, x4, L.cl, L.nk, rfl, pk, _, rfl, .inr (tup_of k4), 1, _, rfl, rfl, _, rfl, ?_⟩
  rw [List.length_map]
  refine ite2 (fun c2 => ?_) (fun c2 => ⟨false, rfl, iteT ⟨_, rfl, no fun c => ?_⟩⟩)
  rotate_left
  · exact c2 (decide_eq_true (by omega))
  have c2' : (1 : Int) ≤ ((canon (txts ks)).length : Int) := of_decide_eq_true c2
  refine ⟨_, 4, rfl, rfl, _, rfl, ?_⟩
  by_cases c3 : (canon (txts ks)).length ≤ 4
  rotate_left
  · have d3 : decide (((canon (txts ks)).length : Int) ≤ 4) = false := decide_eq_false (by omega)
    rw [d3]
    exact iteT ⟨_, rfl, no fun c => c3 c.2.2⟩
  have d3 : decide (((canon (txts ks)).length : Int) ≤ 4) = true := decide_eq_true (by omega)
  rw [d3]
  refine iteF ?_
  -- marks and kinds
  refine ⟨.ref x, rfl, x, C, dx, _, .ref pk, rfl, x4, L.cl, L.nk, rfl, pk, rfl, ⟨_, tup_of k4⟩, fun D nD => lc_map (h := V.str) (xs := canon (txts ks)) (by have := walk_tup (K := K) (a := pk) (xs := (canon (txts ks)).map V.str); rw [List.length_map] at this; exact this) rfl (fun z => .bl (inV (.str z) ((canon (txts ms)).map V.str))) nD (fun H5 s5 => tup_of (s5 _ _ k4)) (by omega) (fun z hz H5 s5 Q' q' => ?_) fun H5 s5 e5 => ?_⟩
  · exact ⟨_, rfl, .ref x, rfl, x, C, dx, _, .ref p, rfl, s5 _ _ x4, L.cl, L.nm, rfl, p, _, rfl, .inr (tup_of (s5 _ _ p4)), rfl, flat_strs _, q' H5 (Same.refl H5)⟩
  · refine ⟨D, (canon (txts ks)).map fun z => inV (.str z) ((canon (txts ms)).map V.str), rfl, lst_of (by rw [e5, List.map_map]; rfl), ?_⟩
    have e : ((canon (txts ks)).map fun z => inV (.str z) ((canon (txts ms)).map V.str)).any id = (canon (txts ks)).any fun k => decide (k ∈ canon (txts ms)) := by
      rw [List.any_map]
      refine any_congr fun z => ?_
      exact inV_strs z _
    rw [e]
    have d1 : decide ((canon (txts ms)).length ≤ 8) = true := decide_eq_true (by omega)
    have d2 : decide (1 ≤ (canon (txts ks)).length) = true := decide_eq_true (by omega)
    have d4 : decide ((canon (txts ks)).length ≤ 4) = true := decide_eq_true c3
    have lo : langOk (txts ms) (txts ks) = !(canon (txts ks)).any fun k => decide (k ∈ canon (txts ms)) := by
      unfold langOk
      rw [d1, d2, d4]
      rfl
    rw [lo] at b2' gd'
    generalize ((canon (txts ks)).any fun k => decide (k ∈ canon (txts ms))) = b at b2' gd' ⊢
    cases b with
    | true => exact ⟨true, rfl, iteT ⟨_, rfl, b2' rfl H5 (s4.trans s5)⟩⟩
    | false => exact ⟨false, rfl, iteF (gd' rfl H5 (s4.trans s5) ⟨dx, _, p, pk, s5 _ _ x4, rfl, rfl, s5 _ _ p4, s5 _ _ k4, rfl⟩)⟩
end
end Tf

/-! Language.of and the methods of a language -/
namespace Tf
open PySem PySem.Spec PyProof.Rows L2
abbrev sOf : Stmt := inClass sLang 1
abbrev sMarks : Stmt := inClass sLang 2
abbrev sKinds : Stmt := inClass sLang 3
abbrev sEq : Stmt := inClass sLang 10
abbrev sHas : Stmt := inClass sLang 11
abbrev sLen : Stmt := inClass sLang 12
abbrev sStr : Stmt := inClass sLang 13
theorem scOf : FnScope ["cls", "marks", "kinds"] ["cls", "marks", "kinds"] (defScope sOf) := ⟨rfl, rfl, rfl, by decide +kernel, rfl, by decide +kernel, by decide +kernel⟩
theorem scMarks : FnScope ["self"] ["self"] (defScope sMarks) := ⟨rfl, rfl, rfl, by decide +kernel, rfl, by decide +kernel, by decide +kernel⟩
theorem scKinds : FnScope ["self"] ["self"] (defScope sKinds) := ⟨rfl, rfl, rfl, by decide +kernel, rfl, by decide +kernel, by decide +kernel⟩
theorem scEq : FnScope ["self", "other"] ["self", "other"] (defScope sEq) := ⟨rfl, rfl, rfl, by decide +kernel, rfl, by decide +kernel, by decide +kernel⟩
theorem scHas : FnScope ["self", "value"] ["self", "value"] (defScope sHas) := ⟨rfl, rfl, rfl, by decide +kernel, rfl, by decide +kernel, by decide +kernel⟩
theorem scLen : FnScope ["self"] ["self"] (defScope sLen) := ⟨rfl, rfl, rfl, by decide +kernel, rfl, by decide +kernel, by decide +kernel⟩
theorem scStr : FnScope ["self"] ["self"] (defScope sStr) := ⟨rfl, rfl, rfl, by decide +kernel, rfl, by decide +kernel, by decide +kernel⟩
/-- Language(*ms, kinds = kv), self made: at the heap behind the making -/
def spInit (K : PySem.W.Frag) (C CI : Addr) : SpK := fun vs zs H Q E => ∃ (H0 : Hp) (x dx : Addr) (ms : List V) (kv : V), vs = .ref x :: ms ∧ zs = [kv] ∧ H = upd (upd H0 dx (.own x)) x (.ins C dx []) ∧ H0 x = none ∧ H0 dx = none ∧ dx ≠ x ∧
  Makes K H0 ms kv (fun ks => ∀ H', Same H0 H' → LangAt C H' x (canon (txts ms)) (canon ks) → Q .non H') (∀ H', Same H0 H' → E (.ref CI) none H')
/-- of(marks, kinds): it is made, or refused -/
def Made (K : PySem.W.Frag) (C : Addr) (H : Hp) (mv kv : V) (Q : V → Hp → Prop) (bad : Hp → Prop) : Prop :=
  (NoTup K H mv ∧ ∀ H', Same H H' → bad H') ∨
   ∃ (a : Addr) (ms : List V), mv = .ref a ∧ SqT K H a ms ∧
     Makes K H ms kv (fun ks => ∀ (x : Addr) (H' : Hp), Same H H' → H x = none → LangAt C H' x (canon (txts ms)) (canon ks) → Q (.ref x) H') (∀ H', Same H H' → bad H')
/-- Language.of(m, kv) -/
def spOf (K : PySem.W.Frag) (C CI : Addr) : Sp := fun vs H Q E => ∃ (mv kv : V), vs = [.ref C, mv, kv] ∧ Made K C H mv kv Q (fun H' => E (.ref CI) none H')
section
variable {P : Program} {w : World} {K : PySem.W.Frag} {mg : Str → Option Value} {base : Heap}
theorem FnA.imp {CX : CXT} {k : Nat} {f : Addr} {ks : List Str} {sp sp' : SpK} (F : FnA P w K mg base CX k f ks sp) (h : ∀ vs zs H Q E, sp' vs zs H Q E → sp vs zs H Q E) : FnA P w K mg base CX k f ks sp' :=
  fun A outer s H us ws vs zs Q E hr e0 r rz hs => F A outer s H us ws vs zs Q E hr e0 r rz (h _ _ _ _ _ hs)
theorem ok_init {f fD CI CT fI C : Addr} {fd fdD : FuncData} {k : Nat} {t8 t4 : Tok} (F : Fun K "__init__" "Language.__init__" sInit f fd) (L : LCls K C) (T : TreeTxt P K mg "InvalidLanguage" CI CT fI) (GD : FnOk P w K mg base (L2N.CX P w) k fD fdD ["values"] (spDiff K CI)) (bD : Binds K fdD ["values"] []) (gD : mg "different_names" = some (.ref fD)) (kD : PySem.W.keepIn K (.ref fD) = true)
    (mL : mg "len" = none) (mA : mg "any" = none) (g8 : mg "MAX_MARKS" = some (.int 8 t8)) (g4 : mg "MAX_KINDS" = some (.int 4 t4)) : FnA P w K mg base (L2N.CX P w) (k + 1) f ["kinds"] (spInit K C CI) := by
  obtain ⟨oc, od, kV, doc, pm, an, cdv, ct, osl, rfl, lk, hcd⟩ := F.ex
  refine FnA.imp (fn_starK (pa := "self") (pk := "kinds") (pv := "marks") (sp := spBody K C CI) lk hcd scInit cxUpN (fun a rest b => ?_) (fun A outer s H vs Q E hr h => body_init L T GD bD gD kD mL mA g8 g4 cdv A outer s H vs Q E hr h)) ?_
  · cases rest with
    | nil => rfl
    | cons r rs => rfl
  · rintro vs zs H Q E ⟨H0, x, dx, ms, kv, rfl, rfl, rfl, nx, nd, ne, mk⟩
    refine ⟨.ref x, ms, kv, rfl, rfl, Nat.le_trans mk.2.1 (by decide), fun p np => ?_⟩
    have sx : Same H0 (upd (upd H0 dx (.own x)) x (.ins C dx [])) := (same_new nd).mut nx
    have px : p ≠ x := fun e => by rw [e, upd_same] at np; cases np
    exact ⟨x, p, dx, kv, ms, H0, rfl, sx.new np, nx, by rw [upd_ne px.symm]; exact upd_same, upd_same, mk⟩
theorem ok_of {f fN CI CT fI C : Addr} {fd : FuncData} {k : Nat} (F : Fun K "of" "Language.of" sOf f fd) (M : Mk K C fN) (T : TreeTxt P K mg "InvalidLanguage" CI CT fI) (GI : FnA P w K mg base (L2N.CX P w) k fN ["kinds"] (spInit K C CI))
    (mI : mg "isinstance" = none) (mT : mg "tuple" = none) : FnOk P w K mg base (L2N.CX P w) (k + 2) f fd ["cls", "marks", "kinds"] (spOf K C CI) := by
  refine F.okN scOf (fun vs H Q E h => ?_) (fun cdv A outer s H vs Q E hr h => ?_)
  · obtain ⟨mv, kv, rfl, _⟩ := h
    rfl
  · obtain ⟨mv, kv, rfl, h⟩ := h
    refine ⟨_, pss_cons (ps_if (pt_not (pt_val (pe_callB call_isi (by rfl) mI (by decide +kernel) (pa_cons (pv 1) (pa_cons (pe_bltn (v := .ty "tuple") (by rfl) mT (by decide +kernel) rfl) pa_nil)))))
        (pss_one (L2N.ps_raise rfl (L2N.takes_of rfl rfl rfl rfl) (pmk_tree T hr (pa_cons pe_str pa_nil)))) pss_nil)
      (pss_one (ps_ret (pe_makeSK M GI hr (L2N.passes_call (L2N.takes_of rfl rfl rfl rfl) (fun _ _ _ _ h => h)) (pv 0) (pv 1) (pk_cons (pv 2) pk_nil)))), ?_⟩
    rcases h with ⟨⟨t, ht, kt⟩, hE⟩ | ⟨a, ms, rfl, hS, mk⟩
    · refine ⟨mv, rfl, mv, .ty "tuple", t, .type "tuple", false, rfl, .ty _, ht, kt, false, rfl, iteT ?_⟩
      exact ⟨_, rfl, hE H (Same.refl H)⟩
    · refine ⟨.ref a, rfl, .ref a, .ty "tuple", .type "tuple", .type "tuple", true, rfl, .ty _, ty_tup hS, kit_ty (by decide +kernel), true, rfl, iteF ?_⟩
      refine ⟨.ref C, rfl, rfl, .ref a, rfl, kv, rfl, a, ms, rfl, .inl hS, rfl, fun x dx nx nd ne => ?_⟩
      refine ⟨H, x, dx, ms, kv, rfl, rfl, rfl, nx, nd, ne, mk.1, mk.2.1, mk.2.2.1, fun ha => ?_⟩
      rcases mk.2.2.2 ha with h | ⟨a', ks, h1, h2, h3, h4, h5, h6, h7⟩
      · exact .inl h
      · exact .inr ⟨a', ks, h1, h2, h3, h4, h5, h6, fun c1 c2 H' s' l' => ⟨rfl, h7 c1 c2 x H' s' nx l'⟩⟩
/-- o.marks, o.kinds -/
def spMarks (C : Addr) (b : Bool) : Sp := fun vs H Q _ => ∃ (a : Addr) (ms ks : List Str), vs = [.ref a] ∧ LangAt C H a ms ks ∧ ∀ p, H p = some (.tup ((if b then ms else ks).map V.str)) → Q (.ref p) H
theorem ok_marks {f C : Addr} {fd : FuncData} {k : Nat} (F : Fun K "marks" "Language.marks" sMarks f fd) (L : LCls K C) : FnOk P w K mg base CX0 (k + 1) f fd ["self"] (spMarks C true) := by
  refine F.ok scMarks (fun vs H Q E h => ?_) (fun cdv A outer s H vs Q E hr h => ?_)
  · obtain ⟨a, ms, ks, rfl, _⟩ := h
    rfl
  · obtain ⟨a, ms, ks, rfl, ⟨dx, fs, pm, pk, h1, h2, h3, h4, h5, h6⟩, q⟩ := h
    exact ⟨_, pss_one (ps_ret (pe_fld (pv 0) rfl)), .ref a, rfl, a, C, dx, fs, .ref pm, rfl, h1, L.cl, L.nm, h2, q pm h4⟩
theorem ok_kinds {f C : Addr} {fd : FuncData} {k : Nat} (F : Fun K "kinds" "Language.kinds" sKinds f fd) (L : LCls K C) : FnOk P w K mg base CX0 (k + 1) f fd ["self"] (spMarks C false) := by
  refine F.ok scKinds (fun vs H Q E h => ?_) (fun cdv A outer s H vs Q E hr h => ?_)
  · obtain ⟨a, ms, ks, rfl, _⟩ := h
    rfl
  · obtain ⟨a, ms, ks, rfl, ⟨dx, fs, pm, pk, h1, h2, h3, h4, h5, h6⟩, q⟩ := h
    exact ⟨_, pss_one (ps_ret (pe_fld (pv 0) rfl)), .ref a, rfl, a, C, dx, fs, .ref pk, rfl, h1, L.cl, L.nk, h3, q pk h5⟩
end
end Tf

/-! the special methods of a language -/
namespace Tf
open PySem PySem.Spec PyProof.Rows L2
/-- what isinstance sees of languages -/
structure LIs (K : PySem.W.Frag) (C : Addr) : Prop where
  ha : PySem.W.findIn K (.ref C) "__class__" = some (some (.builtin "object.__class__"))
  hn : PySem.W.specialIn K (.builtin "object.__class__") "__get__" = some (some (.builtin "getset_descriptor.__get__"))
  ht : PySem.W.takesIn K (.builtin "object.__class__") = some true
  hm : PySem.W.mroIn K C (.type "object") = some true
  me : PySem.W.kitOne K (.ref C) (.ref C) = some true
  tu : PySem.W.kitOne K (.ref C) (.type "tuple") = some false
/-- a value of a type that is no language -/
def NoLang (K : PySem.W.Frag) (C : Addr) (H : Hp) (y : V) : Prop := ∃ t : String, TyX K H y (.type t) ∧ PySem.W.kitOne K (.type t) (.ref C) = some false
def Nms (zs : List Str) : Prop := ∀ z ∈ zs, nameB z = true
/-- x among the texts -/
def hasB (x : V) (zs : List Str) : Bool := match x with
  | .str z => decide (z ∈ zs)
  | _ => false
theorem inV_flat {x : V} (h : flatV x = true) (zs : List Str) : inV x (zs.map V.str) = hasB x zs := by
  cases x with
  | str z => exact inV_strs z zs
  | non => unfold inV; rw [List.any_map]; exact List.any_eq_false.mpr fun y _ e => by cases e
  | bl b => unfold inV; rw [List.any_map]; exact List.any_eq_false.mpr fun y _ e => by cases e
  | int i => unfold inV; rw [List.any_map]; exact List.any_eq_false.mpr fun y _ e => by cases e
  | _ => cases h
def spHas (K : PySem.W.Frag) (C : Addr) : Sp := fun vs H Q _ => ∃ (a : Addr) (x : V) (ms ks : List Str), vs = [.ref a, x] ∧ LangAt C H a ms ks ∧ (flatV x = true ∨ Box K H x) ∧ Q (.bl (hasB x ms || hasB x ks)) H
def spEq (K : PySem.W.Frag) (C : Addr) : Sp := fun vs H Q _ => ∃ (a : Addr) (y : V) (ms ks : List Str), vs = [.ref a, y] ∧ LangAt C H a ms ks ∧ Nms ms ∧ Nms ks ∧
  ((NoLang K C H y ∧ Q (.bl false) H) ∨ ∃ (b : Addr) (ms' ks' : List Str), y = .ref b ∧ LangAt C H b ms' ks' ∧ Nms ms' ∧ Nms ks' ∧ Q (.bl (decide (ms = ms') && decide (ks = ks'))) H)
def spLen (C : Addr) : Sp := fun vs H Q _ => ∃ (a : Addr) (ms ks : List Str), vs = [.ref a] ∧ LangAt C H a ms ks ∧ ms.length + ks.length ≤ 100 ∧ ∀ H', Same H H' → Q (.int ((ms.length + ks.length : Nat) : Int)) H'
def langText (m k : Nat) : Str := ((((Str.empty ++ ("language of " : Str)) ++ ((toString (m : Int) : String) : Str)) ++ (" marks, " : Str)) ++ ((toString (k : Int) : String) : Str)) ++ (" kinds" : Str)
theorem len2 (a b : Str) : (a ++ b).length ≤ a.length + b.length := by
  show (a.cps ++ b.cps).size ≤ a.cps.size + b.cps.size
  rw [Array.size_append]
  exact Nat.le_refl _
theorem fits2 {a b : Str} {m n : Nat} (ha : a.length ≤ m) (hb : b.length ≤ n) (h : m + n ≤ 1000 := by decide) : (a ++ b).length ≤ sizeLine := Nat.le_trans (len2 a b) (Nat.le_trans (Nat.add_le_add ha hb) (Nat.le_trans h (by decide)))
theorem ints_short : ((List.range 101).all fun n => decide ((((toString (n : Int) : String) : Str)).length ≤ 10)) = true := by decide +kernel
theorem int_short {n : Nat} (h : n ≤ 100) : (((toString (n : Int) : String) : Str)).length ≤ 10 := of_decide_eq_true (List.all_eq_true.mp ints_short n (List.mem_range.mpr (by omega)))
theorem ints_small : ((List.range 101).all fun n => decide ((n : Int).natAbs.log2 < 1920)) = true := by decide +kernel
theorem int_small {n : Nat} (h : n ≤ 100) : (n : Int).natAbs.log2 < 1920 := of_decide_eq_true (List.all_eq_true.mp ints_small n (List.mem_range.mpr (by omega)))
section
variable {P : Program} {w : World} {K : PySem.W.Frag} {mg : Str → Option Value} {base : Heap}
theorem ok_has {f C : Addr} {fd : FuncData} {k : Nat} (F : Fun K "__contains__" "Language.__contains__" sHas f fd) (L : LCls K C) : FnOk P w K mg base CX0 (k + 1) f fd ["self", "value"] (spHas K C) := by
  refine F.ok scHas (fun vs H Q E h => ?_) (fun cdv A outer s H vs Q E hr h => ?_)
  · obtain ⟨a, x, ms, ks, rfl, _⟩ := h
    rfl
  · obtain ⟨a, x, ms, ks, rfl, ⟨dx, fs, pm, pk, h1, h2, h3, h4, h5, h6⟩, hx, q⟩ := h
    have hu : (A.deeper (envOfC "Language.__contains__" (defScope sHas) s.heap.objs.size f cdv)).units + 1 < cLine := by have := hr.un; omega
    refine ⟨_, pss_one (ps_ret (pe_or (pe_cmpR (op_inX hu) (pv 1) (pe_fld (pv 0) (by rfl)) (by rfl)) (pe_one (pe_cmpR (op_inX hu) (pv 1) (pe_fld (pv 0) (by rfl)) (by rfl))))), ?_⟩
    have one : ∀ (p : Addr) (zs : List Str) (Q' : VK), H p = some (.tup (zs.map V.str)) → Q' (.bl (hasB x zs)) H → rInX K false x (.ref p) H Q' := fun p zs Q' hp q' => by
      rcases hx with hf | hb
      · refine .inl ⟨p, _, rfl, .inr (tup_of hp), hf, flat_strs zs, ?_⟩
        rw [if_neg Bool.false_ne_true, inV_flat hf]
        exact q'
      · refine .inr ⟨p, zs, rfl, .inr (tup_of hp), hb, ?_⟩
        obtain ⟨b, rfl, _⟩ := hb
        exact q'
    refine ⟨x, rfl, .ref a, rfl, a, C, dx, fs, .ref pm, rfl, h1, L.cl, L.nm, h2, one pm ms _ h4 ⟨_, rfl, ?_⟩⟩
    cases hm : hasB x ms with
    | true =>
      rw [hm] at q
      exact q
    | false =>
      rw [hm] at q
      exact ⟨x, rfl, .ref a, rfl, a, C, dx, fs, .ref pk, rfl, h1, L.cl, L.nk, h3, one pk ks _ h5 q⟩
theorem ok_eq {f C : Addr} {fd : FuncData} {k : Nat} (F : Fun K "__eq__" "Language.__eq__" sEq f fd) (L : LCls K C) (I : LIs K C) (gL : mg "Language" = some (.ref C)) (mI : mg "isinstance" = none) : FnOk P w K mg base CX0 (k + 1) f fd ["self", "other"] (spEq K C) := by
  refine F.ok scEq (fun vs H Q E h => ?_) (fun cdv A outer s H vs Q E hr h => ?_)
  · obtain ⟨a, y, ms, ks, rfl, _⟩ := h
    rfl
  · obtain ⟨a, y, ms, ks, rfl, ⟨dx, fs, pm, pk, h1, h2, h3, h4, h5, h6⟩, nm, nk, h⟩ := h
    have hu : (A.deeper (envOfC "Language.__eq__" (defScope sEq) s.heap.objs.size f cdv)).units + 64 < cLine := by have := hr.un; omega
    refine ⟨_, pss_cons (ps_if (pt_not (pt_val (pe_callB call_isi (by rfl) mI (by decide +kernel) (pa_cons (pv 1) (pa_cons (pe_glob (v := .ref C) rfl gL rfl) pa_nil))))) (pss_one (ps_ret pe_bl)) pss_nil)
      (pss_one (ps_ret (pe_and (pe_cmpR (op_eqD hu) (pe_fld (pv 0) (by rfl)) (pe_fld (pv 1) (by rfl)) (nomark _)) (pe_one (pe_cmpR (op_eqD hu) (pe_fld (pv 0) (by rfl)) (pe_fld (pv 1) (by rfl)) (nomark _)))))), ?_⟩
    rcases h with ⟨⟨t, ht, kt⟩, q⟩ | ⟨b, ms', ks', rfl, ⟨dx', fs', pm', pk', g1, g2, g3, g4, g5, g6⟩, nm', nk', q⟩
    · exact ⟨y, rfl, y, .ref C, .type t, .ref C, false, rfl, .own C, ht, kt, false, rfl, iteT q⟩
    · refine ⟨.ref b, rfl, .ref b, .ref C, .ref C, .ref C, true, rfl, .own C, .base (.ins g1 L.cl I.ha I.hn I.ht I.hm), I.me, true, rfl, iteF ?_⟩
      refine ⟨.ref a, rfl, a, C, dx, fs, .ref pm, rfl, h1, L.cl, L.nm, h2, .ref b, rfl, b, C, dx', fs', .ref pm', rfl, g1, L.cl, L.nm, g2, .tuple (dS ms), .tuple (dS ms'), dp_tuple (tup_of h4), dp_tuple (tup_of g4), shaped_tuple nm, shaped_tuple nm', _, rfl, ?_⟩
      rw [eqv_tuples]
      by_cases c : ms = ms'
      · rw [decide_eq_true c] at q ⊢
        refine ⟨.ref a, rfl, a, C, dx, fs, .ref pk, rfl, h1, L.cl, L.nk, h3, .ref b, rfl, b, C, dx', fs', .ref pk', rfl, g1, L.cl, L.nk, g3, .tuple (dS ks), .tuple (dS ks'), dp_tuple (tup_of h5), dp_tuple (tup_of g5), shaped_tuple nk, shaped_tuple nk', ?_⟩
        rw [eqv_tuples]
        exact q
      · rw [decide_eq_false c] at q ⊢
        exact q
theorem ok_len {f C : Addr} {fd : FuncData} {k : Nat} (F : Fun K "__len__" "Language.__len__" sLen f fd) (L : LCls K C) (mL : mg "len" = none) : FnOk P w K mg base CX0 (k + 1) f fd ["self"] (spLen C) := by
  refine F.ok scLen (fun vs H Q E h => ?_) (fun cdv A outer s H vs Q E hr h => ?_)
  · obtain ⟨a, ms, ks, rfl, _⟩ := h
    rfl
  · obtain ⟨a, ms, ks, rfl, ⟨dx, fs, pm, pk, h1, h2, h3, h4, h5, h6⟩, ll, q⟩ := h
    refine ⟨_, pss_one (ps_ret (pe_callB call_len_seq (by rfl) mL PySem.boot_len (pa_cons (pe_op op_catA (pe_fld (pv 0) (by rfl)) (pe_fld (pv 0) (by rfl))) pa_nil))), ?_⟩
    refine ⟨.ref a, rfl, a, C, dx, fs, .ref pm, rfl, h1, L.cl, L.nm, h2, .ref a, rfl, a, C, dx, fs, .ref pk, rfl, h1, L.cl, L.nk, h3, pm, pk, _, _, rfl, rfl, tup_of h4, tup_of h5, ?_, fun e => ?_, fun _ e => ?_, fun _ _ p np => ?_⟩
    · rw [List.length_map, List.length_map]
      exact Nat.le_trans ll (by decide)
    · refine ⟨pk, _, rfl, .inr (tup_of h5), ?_⟩
      have e' : ms = [] := List.map_eq_nil_iff.mp e
      have z := q H (Same.refl H)
      rw [e'] at z
      rw [List.length_map]
      simpa using z
    · refine ⟨pm, _, rfl, .inr (tup_of h4), ?_⟩
      have e' : ks = [] := List.map_eq_nil_iff.mp e
      have z := q H (Same.refl H)
      rw [e'] at z
      rw [List.length_map]
      simpa using z
    · refine ⟨p, _, rfl, .inr (tup_of upd_same), ?_⟩
      rw [List.length_append, List.length_map, List.length_map]
      exact q _ (same_new np)
def spStr (C : Addr) : Sp := fun vs H Q _ => ∃ (a : Addr) (ms ks : List Str), vs = [.ref a] ∧ LangAt C H a ms ks ∧ ms.length ≤ 100 ∧ ks.length ≤ 100 ∧ Q (.str (langText ms.length ks.length)) H
theorem ok_str {f C : Addr} {fd : FuncData} {k : Nat} (F : Fun K "__str__" "Language.__str__" sStr f fd) (L : LCls K C) (mL : mg "len" = none) : FnOk P w K mg base CX0 (k + 1) f fd ["self"] (spStr C) := by
  refine F.ok scStr (fun vs H Q E h => ?_) (fun cdv A outer s H vs Q E hr h => ?_)
  · obtain ⟨a, ms, ks, rfl, _⟩ := h
    rfl
  · obtain ⟨a, ms, ks, rfl, ⟨dx, fs, pm, pk, h1, h2, h3, h4, h5, h6⟩, l1, l2, q⟩ := h
    refine ⟨_, pss_one (ps_ret (pe_joined (.cons pe_str (.cons (pe_fmt (pe_callB call_len_seq (by rfl) mL PySem.boot_len (pa_cons (pe_fld (pv 0) (by rfl)) pa_nil))) (.cons pe_str (.cons (pe_fmt (pe_callB call_len_seq (by rfl) mL PySem.boot_len (pa_cons (pe_fld (pv 0) (by rfl)) pa_nil))) (.cons pe_str .nil))))))), ?_⟩
    have z1 := int_short (n := ms.length) l1
    have z2 := int_short (n := ks.length) l2
    refine ⟨_, rfl, by decide +kernel, .ref a, rfl, a, C, dx, fs, .ref pm, rfl, h1, L.cl, L.nm, h2, pm, _, rfl, .inr (tup_of h4), .inr ⟨_, rfl, by rw [List.length_map]; exact int_small l1, _, rfl, ?_, _, rfl, ?_, .ref a, rfl, a, C, dx, fs, .ref pk, rfl, h1, L.cl, L.nk, h3, pk, _, rfl, .inr (tup_of h5), .inr ⟨_, rfl, by rw [List.length_map]; exact int_small l2, _, rfl, ?_, _, rfl, ?_, ?_⟩⟩⟩
    · rw [List.length_map]
      exact fits2 (show _ ≤ 100 by decide +kernel) z1
    · rw [List.length_map]
      exact fits2 (Nat.le_trans (len2 _ _) (Nat.add_le_add (by decide +kernel : _ ≤ 100) z1)) (show _ ≤ 100 by decide +kernel)
    · rw [List.length_map, List.length_map]
      exact fits2 (Nat.le_trans (len2 _ _) (Nat.add_le_add (Nat.le_trans (len2 _ _) (Nat.add_le_add (by decide +kernel : _ ≤ 100) z1)) (by decide +kernel : _ ≤ 100))) z2
    · rw [List.length_map, List.length_map]
      exact fits2 (Nat.le_trans (len2 _ _) (Nat.add_le_add (Nat.le_trans (len2 _ _) (Nat.add_le_add (Nat.le_trans (len2 _ _) (Nat.add_le_add (by decide +kernel : _ ≤ 100) z1)) (by decide +kernel : _ ≤ 100))) z2)) (show _ ≤ 100 by decide +kernel)
    · rw [List.length_map, List.length_map]
      exact q
end
end Tf

/-! languages in plain words -/
namespace L2
open PySem PySem.Spec PyProof.Rows
theorem op_or2 {X : Cx} {op : Value → Value → Sem Value} {r r' : R2} (h : OpR X op r) (h' : OpR X op r') : OpR X op (fun x y H Q => r x y H Q ∨ r' x y H Q) := by
  intro pins s σ H x y v u Q I rx ry q
  rcases q with q | q
  · exact h pins s σ H x y v u Q I rx ry q
  · exact h' pins s σ H x y v u Q I rx ry q
end L2
namespace Tf
open PySem PySem.Spec PyProof.Rows L2
theorem item_str {K : PySem.W.Frag} {H : Hp} {z : Str} (h : nameB z = true) : Item K H (.str z) := ⟨.inl ⟨z, rfl, by have := nameB_len h; omega⟩, .inl ⟨z, rfl⟩⟩
theorem items_strs {K : PySem.W.Frag} {zs : List Str} (h : Nms zs) {H0 : Hp} : ∀ y ∈ zs.map V.str, ∀ H', Same H0 H' → Item K H' y := fun y hy H' _ => by
  obtain ⟨z, hz, rfl⟩ := List.mem_map.mp hy
  exact item_str (h z hz)
theorem txts_strs : ∀ zs : List Str, txts (zs.map V.str) = zs
  | [] => rfl
  | z :: zs => by
    show txts (.str z :: zs.map V.str) = z :: zs
    rw [txts_cons_str, txts_strs zs]
theorem all_strs {zs : List Str} (h : Nms zs) : (zs.map V.str).all isN = true := List.all_eq_true.mpr fun y hy => by
  obtain ⟨z, hz, rfl⟩ := List.mem_map.mp hy
  exact h z hz
theorem Nms.canon {zs : List Str} (h : Nms zs) : Nms (L2.canon zs) := fun z hz => h z (mem_canon.mp hz)
section
variable {K : PySem.W.Frag} {C : Addr} {H : Hp} {Q : V → Hp → Prop} {bad : Hp → Prop}
theorem made_names {a b : Addr} {ms ks : List Str} (ha : SqT K H a (ms.map V.str)) (hb : SqT K H b (ks.map V.str)) (nm : Nms ms) (nk : Nms ks) (lm : ms.length ≤ 60) (lk : ks.length ≤ 60) (h0 : langOk ms ks = false → ∀ H', Same H H' → bad H')
    (h1 : langOk ms ks = true → ∀ (x : Addr) (H' : Hp), Same H H' → H x = none → LangAt C H' x (canon ms) (canon ks) → Q (.ref x) H') : Made K C H (.ref a) (.ref b) Q bad := by
  refine .inr ⟨a, _, rfl, ha, items_strs nm, by rw [List.length_map]; exact lm, fun c => ?_, fun _ => .inr ⟨b, _, rfl, hb, items_strs nk, by rw [List.length_map]; exact lk, fun c => ?_, ?_, ?_⟩⟩
  · rw [all_strs nm] at c
    cases c
  · rw [all_strs nk] at c
    cases c
  · rw [txts_strs, txts_strs]
    exact fun _ c => h0 c
  · rw [txts_strs, txts_strs]
    exact fun _ c => h1 c
theorem made_noM {mv kv : V} (h : NoTup K H mv) (hb : ∀ H', Same H H' → bad H') : Made K C H mv kv Q bad := .inl ⟨h, hb⟩
theorem made_noK {a : Addr} {kv : V} {ms : List Str} (ha : SqT K H a (ms.map V.str)) (nm : Nms ms) (lm : ms.length ≤ 60) (h : ∀ H', Same H H' → NoTup K H' kv) (hb : ∀ H', Same H H' → bad H') : Made K C H (.ref a) kv Q bad :=
  .inr ⟨a, _, rfl, ha, items_strs nm, by rw [List.length_map]; exact lm, fun _ => hb, fun _ => .inl ⟨h, hb⟩⟩
end
theorem of_made {K : PySem.W.Frag} {C CI : Addr} {H : Hp} {mv kv : V} {Q : VK} {E : XK} (h : Made K C H mv kv Q (fun H' => E (.ref CI) none H')) : spOf K C CI [.ref C, mv, kv] H Q E := ⟨mv, kv, rfl, h⟩
theorem no_list {K : PySem.W.Frag} {H : Hp} {a : Addr} {xs : List V} (h : H a = some (.lst xs)) : NoTup K H (.ref a) := ⟨_, .base (.lst h), kit_ty (by decide +kernel)⟩
theorem no_non {K : PySem.W.Frag} {H : Hp} : NoTup K H .non := ⟨_, .base .non, kit_ty (by decide +kernel)⟩
theorem canon_rev (zs : List Str) : canon zs.reverse = canon zs := canon_congr fun z => by rw [List.mem_reverse]
theorem ok_rev (ms ks : List Str) : langOk ms.reverse ks.reverse = langOk ms ks := by unfold langOk; rw [canon_rev, canon_rev]
theorem ok_canon (ms ks : List Str) : langOk (canon ms) (canon ks) = langOk ms ks := by unfold langOk; rw [canon_canon, canon_canon]
theorem canon_drop (zs : List Str) : canon ((canon zs).drop 1) = (canon zs).drop 1 := canon_self ((nodup_canon zs).sublist (List.drop_sublist 1 _)) ((canon_pw zs).sublist (List.drop_sublist 1 _))
theorem ok_parts {ms ks : List Str} (h : langOk ms ks = true) : (canon ms).length ≤ 8 ∧ 1 ≤ (canon ks).length ∧ (canon ks).length ≤ 4 ∧ ∀ z ∈ canon ks, z ∉ canon ms := by
  unfold langOk at h
  rw [Bool.and_eq_true, Bool.and_eq_true, Bool.and_eq_true, Bool.not_eq_true'] at h
  refine ⟨of_decide_eq_true h.1.1, of_decide_eq_true h.1.2.1, of_decide_eq_true h.1.2.2, fun z hz hm => ?_⟩
  exact (List.any_eq_false.mp h.2 z hz) (decide_eq_true hm)
theorem ok_of_parts {ms ks : List Str} (h1 : (canon ms).length ≤ 8) (h2 : 1 ≤ (canon ks).length) (h3 : (canon ks).length ≤ 4) (h4 : ∀ z ∈ canon ks, z ∉ canon ms) : langOk ms ks = true := by
  unfold langOk
  rw [Bool.and_eq_true, Bool.and_eq_true, Bool.and_eq_true, Bool.not_eq_true']
  refine ⟨⟨decide_eq_true h1, decide_eq_true h2, decide_eq_true h3⟩, List.any_eq_false.mpr fun z hz c => h4 z hz (of_decide_eq_true c)⟩
theorem ok_drop {ms ks : List Str} (h : langOk ms ks = true) : langOk ((canon ms).drop 1) (canon ks) = true := by
  obtain ⟨h1, h2, h3, h4⟩ := ok_parts h
  refine ok_of_parts ?_ ?_ ?_ ?_
  · rw [canon_drop, List.length_drop]
    omega
  · rw [canon_canon]
    exact h2
  · rw [canon_canon]
    exact h3
  · rw [canon_canon, canon_drop]
    exact fun z hz hm => h4 z hz (List.mem_of_mem_drop hm)
theorem shaped3 {a b : List Str} {n : Int} (ha : Nms a) (hb : Nms b) : SeqAt.shaped (.list [.tuple (dS a), .tuple (dS b), .int n]) = true := by
  show (PyData.canLay0 (.list [.tuple (dS a), .tuple (dS b), .int n]) && decide (PyData.depth (.list [.tuple (dS a), .tuple (dS b), .int n]) ≤ 64)) = true
  rw [Bool.and_eq_true]
  refine ⟨by simp only [PyData.canLay0, PyData.canLayAll0, lay_strs ha, lay_strs hb, Bool.and_self], decide_eq_true ?_⟩
  simp only [PyData.depth, PyData.depthAll, depth_strs]
  decide
theorem eqv3 {a b : List Str} {n : Int} : PyData.eqv (.list [.tuple (dS a), .tuple (dS b), .int n]) (.list [.tuple (dS a), .tuple (dS b), .int n]) = true := by
  simp only [PyData.eqv, PyData.eqvAll, eqvAll_strs]
  simp
theorem eqv3' {a b : List Str} {n m : Int} (h : n = m) : PyData.eqv (.list [.tuple (dS a), .tuple (dS b), .int n]) (.list [.tuple (dS a), .tuple (dS b), .int m]) = true := by
  subst h
  exact eqv3
theorem lenA {a b : Str} {m n : Nat} (ha : a.length ≤ m) (hb : b.length ≤ n) : (a ++ b).length ≤ m + n := Nat.le_trans (len2 a b) (Nat.add_le_add ha hb)
theorem sumA {a b : Str} {m n : Nat} (ha : a.length ≤ m) (hb : b.length ≤ n) (h : m + n ≤ 1000 := by decide) : a.length + b.length ≤ sizeLine := Nat.le_trans (Nat.add_le_add ha hb) (Nat.le_trans h (by decide))
/-- Language(*ms, kinds = kv): made, or refused -/
def MakesL (K : PySem.W.Frag) (C CI : Addr) (H : Hp) (ms : List V) (kv : V) (Q : V → Hp → Prop) (E : XK) : Prop :=
  Makes K H ms kv (fun ks => ∀ (x : Addr) (H' : Hp), Same H H' → H x = none → LangAt C H' x (canon (txts ms)) (canon ks) → Q (.ref x) H') (∀ H', Same H H' → E (.ref CI) none H')
/-- .. of names -/
def LangR (C CI : Addr) (H : Hp) (ms ks : List Str) (Q : V → Hp → Prop) (E : XK) : Prop :=
  (langOk ms ks = true → ∀ (x : Addr) (H' : Hp), Same H H' → H x = none → LangAt C H' x (canon ms) (canon ks) → Q (.ref x) H') ∧ (langOk ms ks = false → ∀ H', Same H H' → E (.ref CI) none H')
theorem LangR.same {C CI : Addr} {H H1 : Hp} {ms ks : List Str} {Q : V → Hp → Prop} {E : XK} (h : LangR C CI H ms ks Q E) (s : Same H H1) : LangR C CI H1 ms ks Q E :=
  ⟨fun c x H' s' n l => h.1 c x H' (s.trans s') (s.free n) l, fun c H' s' => h.2 c H' (s.trans s')⟩
theorem LangR.makes {K : PySem.W.Frag} {C CI b : Addr} {H : Hp} {ms ks : List Str} {Q : V → Hp → Prop} {E : XK} (h : LangR C CI H ms ks Q E) (hb : SqT K H b (ks.map V.str)) (nm : Nms ms) (nk : Nms ks) (lm : ms.length ≤ 60) (lk : ks.length ≤ 60) : MakesL K C CI H (ms.map V.str) (.ref b) Q E := by
  refine ⟨items_strs nm, by rw [List.length_map]; exact lm, fun c => ?_, fun _ => .inr ⟨b, _, rfl, hb, items_strs nk, by rw [List.length_map]; exact lk, fun c => ?_, ?_, ?_⟩⟩
  · rw [all_strs nm] at c
    cases c
  · rw [all_strs nk] at c
    cases c
  · rw [txts_strs, txts_strs]
    exact fun _ c => h.2 c
  · rw [txts_strs, txts_strs]
    exact fun _ c => h.1 c
end Tf

/-! k00: the error classes as a table; told, marks, bases, only -/
namespace Tf
open PySem PySem.Spec PyProof.Rows L2 TfE
/-! ### lists of truths as data -/
abbrev dB (bs : List Bool) : List PyData := bs.map PyData.bool
theorem dpAll_bls {K : PySem.W.Frag} {H : Hp} : ∀ bs : List Bool, DpAll K H (bs.map V.bl) (dB bs)
  | [] => .nil
  | b :: bs => .cons (.bl b) (dpAll_bls bs)
theorem dp_bls {K : PySem.W.Frag} {H : Hp} {a : Addr} {bs : List Bool} (h : H a = some (.lst (bs.map V.bl))) : Dp K H (.ref a) (.list (dB bs)) := .lst (lst_of h) (dpAll_bls bs)
theorem lay_bls : ∀ bs : List Bool, PyData.canLayAll0 (dB bs) = true
  | [] => by simp [PyData.canLayAll0, dB]
  | b :: bs => by
    show PyData.canLayAll0 (PyData.bool b :: dB bs) = true
    simp only [PyData.canLayAll0, PyData.canLay0, lay_bls bs, Bool.and_self]
theorem depth_bls : ∀ bs : List Bool, PyData.depthAll (dB bs) = 0
  | [] => by simp [PyData.depthAll, dB]
  | b :: bs => by
    show PyData.depthAll (PyData.bool b :: dB bs) = 0
    simp only [PyData.depthAll, PyData.depth, depth_bls bs]
    rfl
theorem shaped_bls (bs : List Bool) : SeqAt.shaped (.list (dB bs)) = true := by
  show (PyData.canLay0 (.list (dB bs)) && decide (PyData.depth (.list (dB bs)) ≤ 64)) = true
  rw [Bool.and_eq_true]
  refine ⟨by simp only [PyData.canLay0]; exact lay_bls bs, decide_eq_true ?_⟩
  simp only [PyData.depth, depth_bls]
  decide
theorem eqvAll_bls : ∀ bs : List Bool, PyData.eqvAll (dB bs) (dB bs) = true
  | [] => by simp [PyData.eqvAll, dB]
  | b :: bs => by
    show PyData.eqvAll (PyData.bool b :: dB bs) (PyData.bool b :: dB bs) = true
    simp only [PyData.eqvAll, eqvAll_bls bs]
    cases b <;> rfl
theorem eqv_bls (bs : List Bool) : PyData.eqv (.list (dB bs)) (.list (dB bs)) = true := by
  simp only [PyData.eqv]
  exact eqvAll_bls bs
/-! ### the classes -/
/-- an own error class at D, l behind it in its line -/
structure ECls (K : PySem.W.Frag) (D : Addr) (l : List Value) : Prop where
  ex : ExcC K D
  mro : ∃ cd, PySem.W.clsIn K D = some cd ∧ cd.mro = .ref D :: l
  ty : PySem.W.typeIn K (.ref D) = some (.type "type")
def lineB (D : Addr) (l : List Value) (c : Value) : Bool := (Value.ref D :: l).contains c
theorem mro_line {K : PySem.W.Frag} {D : Addr} {l : List Value} {c : Value} (E : ECls K D l) : PySem.W.mroIn K D c = some (lineB D l c) := by
  obtain ⟨cd, h1, h2⟩ := E.mro
  unfold PySem.W.mroIn
  rw [h1, Option.bind_some, h2]
  rfl
theorem kit_own {K : PySem.W.Frag} {D C : Addr} {l l' : List Value} (E : ECls K D l) (E' : ECls K C l') : PySem.W.kitOne K (.ref D) (.ref C) = some (lineB D l (.ref C)) := by
  unfold PySem.W.kitOne
  by_cases h : D = C
  · subst h
    rw [if_pos (beq_self_eq_true _)]
    have : lineB D l (.ref D) = true := by simp [lineB]
    rw [this]
  · rw [if_neg (by simp [h])]
    show (if ((PySem.W.clsIn K C).isSome && PySem.W.typeIn K (.ref C) == some (.type "type")) = true then PySem.W.subIn K (.ref D) (.ref C) else none) = _
    obtain ⟨cd, h1, _⟩ := E'.mro
    rw [h1, E'.ty, if_pos (by simp)]
    exact mro_line E
theorem kit_typ {K : PySem.W.Frag} {D : Addr} {l : List Value} {n : String} (E : ECls K D l) (h : PySem.W.kitMeta n = true) : PySem.W.kitOne K (.ref D) (.type n) = some (lineB D l (.type n)) := by
  unfold PySem.W.kitOne
  rw [if_neg (by simp)]
  show (if PySem.W.kitMeta n = true then PySem.W.subIn K (.ref D) (.type n) else none) = _
  rw [if_pos h]
  exact mro_line E
abbrev ixBm : List Value := [.type "IndexError", .type "LookupError", .type "Exception", .type "BaseException", .type "object"]
abbrev ovBm : List Value := [.type "OverflowError", .type "ArithmeticError", .type "Exception", .type "BaseException", .type "object"]
abbrev arBm : List Value := [.type "ArithmeticError", .type "Exception", .type "BaseException", .type "object"]
abbrev luBm : List Value := [.type "LookupError", .type "Exception", .type "BaseException", .type "object"]
/-- where the classes lie: TreeError, and the others -/
structure Cs where
  (t a b c d e f g h i j k l m n : Addr)
def Cs.own (c : Cs) : List Addr := [c.a, c.b, c.c, c.d, c.e, c.f, c.g, c.h, c.i, c.j, c.k, c.l, c.m, c.n]
structure Tab (K : PySem.W.Frag) (mg : Str → Option Value) (c : Cs) : Prop where
  gt : mg "TreeError" = some (.ref c.t)
  ga : mg "InvalidLanguage" = some (.ref c.a)
  gb : mg "InvalidStore" = some (.ref c.b)
  gc : mg "InvalidQuestion" = some (.ref c.c)
  gd : mg "InvalidExamples" = some (.ref c.d)
  ge : mg "InvalidAddress" = some (.ref c.e)
  gf : mg "InvalidOperation" = some (.ref c.f)
  gg : mg "InvalidEdit" = some (.ref c.g)
  gh : mg "ParseError" = some (.ref c.h)
  gi : mg "InvalidCommand" = some (.ref c.i)
  gj : mg "InvalidNumber" = some (.ref c.j)
  gk : mg "UnknownName" = some (.ref c.k)
  gl : mg "TooMany" = some (.ref c.l)
  gm : mg "NoFit" = some (.ref c.m)
  gn : mg "NothingToUndo" = some (.ref c.n)
  et : ECls K c.t veBm
  ea : ECls K c.a (.ref c.t :: veBm)
  eb : ECls K c.b (.ref c.t :: veBm)
  ec : ECls K c.c (.ref c.t :: veBm)
  ed : ECls K c.d (.ref c.t :: veBm)
  ee : ECls K c.e (.ref c.t :: veBm)
  ef : ECls K c.f (.ref c.t :: veBm)
  eg : ECls K c.g (.ref c.t :: veBm)
  eh : ECls K c.h (.ref c.t :: veBm)
  ei : ECls K c.i (.ref c.t :: veBm)
  ej : ECls K c.j ixBm
  ek : ECls K c.k PySem.TfKE.keBm
  el : ECls K c.l ovBm
  em : ECls K c.m arBm
  en : ECls K c.n luBm
  nd : (c.t :: c.own).Nodup
def rowM (c : Cs) (D : Addr) (l : List Value) : List Bool := c.own.map fun C => lineB D l (.ref C)
def rowB (c : Cs) (D : Addr) (l : List Value) : List Bool := [lineB D l (.ref c.t), lineB D l (.type "ValueError"), lineB D l (.type "IndexError"), lineB D l (.type "KeyError"), lineB D l (.type "OverflowError"), lineB D l (.type "ArithmeticError"), lineB D l (.type "LookupError"), lineB D l (.type "RuntimeError")]
/-- truths at some places alone -/
def onlyB (sp : List Nat) (n : Nat) : List Bool := (List.range n).map fun (j : Nat) => inV (.int j) (sp.map fun (i : Nat) => V.int i)
theorem esame {H H' : Hp} {a D : Addr} (e : ErrAt H a D) (s : Same H H') : ErrAt H' a D := by
  rcases e with e | ⟨d, fs, e1, e2⟩
  · exact .inl (s _ _ e)
  · exact .inr ⟨d, fs, s _ _ e1, s _ _ e2⟩
/-! ### the defs -/
abbrev sTold : Stmt := top 91
abbrev sMk : Stmt := top 92
abbrev sBs : Stmt := top 93
abbrev sOnly : Stmt := top 94
theorem scTold : FnScope ["_law_told_here", "_law_found"] ["_law_told_here"] (defScope sTold) := ⟨rfl, rfl, rfl, by decide +kernel, rfl, by decide +kernel, by decide +kernel⟩
theorem scMk : FnScope ["_law_one", "_law_found"] ["_law_one"] (defScope sMk) := ⟨rfl, rfl, rfl, by decide +kernel, rfl, by decide +kernel, by decide +kernel⟩
theorem scBs : FnScope ["_law_one", "_law_found"] ["_law_one"] (defScope sBs) := ⟨rfl, rfl, rfl, by decide +kernel, rfl, by decide +kernel, by decide +kernel⟩
theorem scOnly : FnScope ["_law_spots", "_law_total", "_law_at"] ["_law_spots", "_law_total"] (defScope sOnly) := ⟨rfl, rfl, rfl, by decide +kernel, rfl, by decide +kernel, by decide +kernel⟩
def spMk (K : PySem.W.Frag) (c : Cs) : Sp := fun vs H Q _ => ∃ (a D : Addr) (l : List Value), vs = [.ref a] ∧ ErrAt H a D ∧ ECls K D l ∧ ∀ p H', Same H H' → H p = none → H' p = some (.lst ((rowM c D l).map V.bl)) → Q (.ref p) H'
def spMkP (K : PySem.W.Frag) (c : Cs) (e : Addr × Obj) : Sp := fun vs H Q _ => ∃ (D : Addr) (l : List Value), vs = [.ref e.1] ∧ Zc (.ref D) none e.2 ∧ ECls K D l ∧ ∀ p H', Same H H' → H p = none → H' p = some (.lst ((rowM c D l).map V.bl)) → Q (.ref p) H'
def spBs (K : PySem.W.Frag) (c : Cs) : Sp := fun vs H Q _ => ∃ (a D : Addr) (l : List Value), vs = [.ref a] ∧ ErrAt H a D ∧ ECls K D l ∧ ∀ p H', Same H H' → H p = none → H' p = some (.lst ((rowB c D l).map V.bl)) → Q (.ref p) H'
section
variable {P : Program} {w : World} {K : PySem.W.Frag} {mg : Str → Option Value} {base : Heap} {c : Cs}
theorem new_of {H H' : Hp} {p : Addr} (s : Same H H') (n : H' p = none) : H p = none := by
  cases e : H p with
  | none => rfl
  | some o =>
    rw [s _ _ e] at n
    cases n
theorem ok_mk {f : Addr} {fd : FuncData} {k : Nat} (F : Fun K "_law_marks" "_law_marks" sMk f fd) (T : Tab K mg c) (mI : mg "isinstance" = none) : FnOk P w K mg base CX0 (k + 1) f fd ["_law_one"] (spMk K c) := by
  refine F.ok scMk (fun vs H Q E h => ?_) (fun cdv A outer s H vs Q E hr h => ?_)
  · obtain ⟨a, D, l, rfl, _⟩ := h
    rfl
  · obtain ⟨a, D, l, rfl, ea, E, q⟩ := h
    refine ⟨_, (pss_cons (ps_set (i := 1) scMk.nd rfl (.inl rfl) (pe_lst (pa_cons (pe_callB call_isV (by rfl) mI (by decide +kernel) (pa_cons (pv 0) (pa_cons (pe_glob (v := .ref c.a) rfl T.ga rfl) pa_nil))) (pa_cons (pe_callB call_isV (by rfl) mI (by decide +kernel) (pa_cons (pv 0) (pa_cons (pe_glob (v := .ref c.b) rfl T.gb rfl) pa_nil))) (pa_cons (pe_callB call_isV (by rfl) mI (by decide +kernel) (pa_cons (pv 0) (pa_cons (pe_glob (v := .ref c.c) rfl T.gc rfl) pa_nil))) pa_nil)))))
      (pss_cons (ps_set (i := 1) scMk.nd rfl (.inl rfl) (pe_op op_cat (pv 1) (pe_lst (pa_cons (pe_callB call_isV (by rfl) mI (by decide +kernel) (pa_cons (pv 0) (pa_cons (pe_glob (v := .ref c.d) rfl T.gd rfl) pa_nil))) (pa_cons (pe_callB call_isV (by rfl) mI (by decide +kernel) (pa_cons (pv 0) (pa_cons (pe_glob (v := .ref c.e) rfl T.ge rfl) pa_nil))) pa_nil)))))
      (pss_cons (ps_set (i := 1) scMk.nd rfl (.inl rfl) (pe_op op_cat (pv 1) (pe_lst (pa_cons (pe_callB call_isV (by rfl) mI (by decide +kernel) (pa_cons (pv 0) (pa_cons (pe_glob (v := .ref c.f) rfl T.gf rfl) pa_nil))) (pa_cons (pe_callB call_isV (by rfl) mI (by decide +kernel) (pa_cons (pv 0) (pa_cons (pe_glob (v := .ref c.g) rfl T.gg rfl) pa_nil))) (pa_cons (pe_callB call_isV (by rfl) mI (by decide +kernel) (pa_cons (pv 0) (pa_cons (pe_glob (v := .ref c.h) rfl T.gh rfl) pa_nil))) pa_nil))))))
      (pss_cons (ps_set (i := 1) scMk.nd rfl (.inl rfl) (pe_op op_cat (pv 1) (pe_lst (pa_cons (pe_callB call_isV (by rfl) mI (by decide +kernel) (pa_cons (pv 0) (pa_cons (pe_glob (v := .ref c.i) rfl T.gi rfl) pa_nil))) (pa_cons (pe_callB call_isV (by rfl) mI (by decide +kernel) (pa_cons (pv 0) (pa_cons (pe_glob (v := .ref c.j) rfl T.gj rfl) pa_nil))) (pa_cons (pe_callB call_isV (by rfl) mI (by decide +kernel) (pa_cons (pv 0) (pa_cons (pe_glob (v := .ref c.k) rfl T.gk rfl) pa_nil))) pa_nil))))))
      (pss_one (ps_ret (pe_op op_cat (pv 1) (pe_lst (pa_cons (pe_callB call_isV (by rfl) mI (by decide +kernel) (pa_cons (pv 0) (pa_cons (pe_glob (v := .ref c.l) rfl T.gl rfl) pa_nil))) (pa_cons (pe_callB call_isV (by rfl) mI (by decide +kernel) (pa_cons (pv 0) (pa_cons (pe_glob (v := .ref c.m) rfl T.gm rfl) pa_nil))) (pa_cons (pe_callB call_isV (by rfl) mI (by decide +kernel) (pa_cons (pv 0) (pa_cons (pe_glob (v := .ref c.n) rfl T.gn rfl) pa_nil))) pa_nil))))))))))), ?_⟩
    refine ⟨_, rfl, _, D, _, _, _, rfl, esame ea (Same.refl H), E.ex, .own _, (kit_own E T.ea), _, rfl, _, D, _, _, _, rfl, esame ea (Same.refl H), E.ex, .own _, (kit_own E T.eb), _, rfl, _, D, _, _, _, rfl, esame ea (Same.refl H), E.ex, .own _, (kit_own E T.ec), by show 3 ≤ sizeLine; decide, fun p1 n1 => ?_⟩
    have e1 : (upd H p1 (.lst [V.bl (lineB D l (.ref c.a)), V.bl (lineB D l (.ref c.b)), V.bl (lineB D l (.ref c.c))])) p1 = some (.lst [V.bl (lineB D l (.ref c.a)), V.bl (lineB D l (.ref c.b)), V.bl (lineB D l (.ref c.c))]) := upd_same
    have s1 : Same H (upd H p1 (.lst [V.bl (lineB D l (.ref c.a)), V.bl (lineB D l (.ref c.b)), V.bl (lineB D l (.ref c.c))])) := same_new n1
    generalize upd H p1 (.lst [V.bl (lineB D l (.ref c.a)), V.bl (lineB D l (.ref c.b)), V.bl (lineB D l (.ref c.c))]) = H1 at *
    refine ⟨.ref p1, rfl, _, rfl, _, D, _, _, _, rfl, esame ea s1, E.ex, .own _, (kit_own E T.ed), _, rfl, _, D, _, _, _, rfl, esame ea s1, E.ex, .own _, (kit_own E T.ee), by show 2 ≤ sizeLine; decide, fun p2 n2 => ?_⟩
    have e2 : (upd H1 p2 (.lst [V.bl (lineB D l (.ref c.d)), V.bl (lineB D l (.ref c.e))])) p2 = some (.lst [V.bl (lineB D l (.ref c.d)), V.bl (lineB D l (.ref c.e))]) := upd_same
    have s2 : Same H1 (upd H1 p2 (.lst [V.bl (lineB D l (.ref c.d)), V.bl (lineB D l (.ref c.e))])) := same_new n2
    generalize upd H1 p2 (.lst [V.bl (lineB D l (.ref c.d)), V.bl (lineB D l (.ref c.e))]) = H2 at *
    refine ⟨p1, p2, _, _, rfl, rfl, s2 _ _ e1, e2, by show 5 ≤ sizeLine; decide, fun p3 n3 => ?_⟩
    have e3 : (upd H2 p3 (.lst ([V.bl (lineB D l (.ref c.a)), V.bl (lineB D l (.ref c.b)), V.bl (lineB D l (.ref c.c))] ++ [V.bl (lineB D l (.ref c.d)), V.bl (lineB D l (.ref c.e))]))) p3 = some (.lst ([V.bl (lineB D l (.ref c.a)), V.bl (lineB D l (.ref c.b)), V.bl (lineB D l (.ref c.c))] ++ [V.bl (lineB D l (.ref c.d)), V.bl (lineB D l (.ref c.e))])) := upd_same
    have s3 : Same H2 (upd H2 p3 (.lst ([V.bl (lineB D l (.ref c.a)), V.bl (lineB D l (.ref c.b)), V.bl (lineB D l (.ref c.c))] ++ [V.bl (lineB D l (.ref c.d)), V.bl (lineB D l (.ref c.e))]))) := same_new n3
    generalize upd H2 p3 (.lst ([V.bl (lineB D l (.ref c.a)), V.bl (lineB D l (.ref c.b)), V.bl (lineB D l (.ref c.c))] ++ [V.bl (lineB D l (.ref c.d)), V.bl (lineB D l (.ref c.e))])) = H3 at *
    refine ⟨.ref p3, rfl, _, rfl, _, D, _, _, _, rfl, esame ea ((s1.trans s2).trans s3), E.ex, .own _, (kit_own E T.ef), _, rfl, _, D, _, _, _, rfl, esame ea ((s1.trans s2).trans s3), E.ex, .own _, (kit_own E T.eg), _, rfl, _, D, _, _, _, rfl, esame ea ((s1.trans s2).trans s3), E.ex, .own _, (kit_own E T.eh), by show 3 ≤ sizeLine; decide, fun p4 n4 => ?_⟩
    have e4 : (upd H3 p4 (.lst [V.bl (lineB D l (.ref c.f)), V.bl (lineB D l (.ref c.g)), V.bl (lineB D l (.ref c.h))])) p4 = some (.lst [V.bl (lineB D l (.ref c.f)), V.bl (lineB D l (.ref c.g)), V.bl (lineB D l (.ref c.h))]) := upd_same
    have s4 : Same H3 (upd H3 p4 (.lst [V.bl (lineB D l (.ref c.f)), V.bl (lineB D l (.ref c.g)), V.bl (lineB D l (.ref c.h))])) := same_new n4
    generalize upd H3 p4 (.lst [V.bl (lineB D l (.ref c.f)), V.bl (lineB D l (.ref c.g)), V.bl (lineB D l (.ref c.h))]) = H4 at *
    refine ⟨p3, p4, _, _, rfl, rfl, s4 _ _ e3, e4, by show 8 ≤ sizeLine; decide, fun p5 n5 => ?_⟩
    have e5 : (upd H4 p5 (.lst (([V.bl (lineB D l (.ref c.a)), V.bl (lineB D l (.ref c.b)), V.bl (lineB D l (.ref c.c))] ++ [V.bl (lineB D l (.ref c.d)), V.bl (lineB D l (.ref c.e))]) ++ [V.bl (lineB D l (.ref c.f)), V.bl (lineB D l (.ref c.g)), V.bl (lineB D l (.ref c.h))]))) p5 = some (.lst (([V.bl (lineB D l (.ref c.a)), V.bl (lineB D l (.ref c.b)), V.bl (lineB D l (.ref c.c))] ++ [V.bl (lineB D l (.ref c.d)), V.bl (lineB D l (.ref c.e))]) ++ [V.bl (lineB D l (.ref c.f)), V.bl (lineB D l (.ref c.g)), V.bl (lineB D l (.ref c.h))])) := upd_same
    have s5 : Same H4 (upd H4 p5 (.lst (([V.bl (lineB D l (.ref c.a)), V.bl (lineB D l (.ref c.b)), V.bl (lineB D l (.ref c.c))] ++ [V.bl (lineB D l (.ref c.d)), V.bl (lineB D l (.ref c.e))]) ++ [V.bl (lineB D l (.ref c.f)), V.bl (lineB D l (.ref c.g)), V.bl (lineB D l (.ref c.h))]))) := same_new n5
    generalize upd H4 p5 (.lst (([V.bl (lineB D l (.ref c.a)), V.bl (lineB D l (.ref c.b)), V.bl (lineB D l (.ref c.c))] ++ [V.bl (lineB D l (.ref c.d)), V.bl (lineB D l (.ref c.e))]) ++ [V.bl (lineB D l (.ref c.f)), V.bl (lineB D l (.ref c.g)), V.bl (lineB D l (.ref c.h))])) = H5 at *
    refine ⟨.ref p5, rfl, _, rfl, _, D, _, _, _, rfl, esame ea ((((s1.trans s2).trans s3).trans s4).trans s5), E.ex, .own _, (kit_own E T.ei), _, rfl, _, D, _, _, _, rfl, esame ea ((((s1.trans s2).trans s3).trans s4).trans s5), E.ex, .own _, (kit_own E T.ej), _, rfl, _, D, _, _, _, rfl, esame ea ((((s1.trans s2).trans s3).trans s4).trans s5), E.ex, .own _, (kit_own E T.ek), by show 3 ≤ sizeLine; decide, fun p6 n6 => ?_⟩
    have e6 : (upd H5 p6 (.lst [V.bl (lineB D l (.ref c.i)), V.bl (lineB D l (.ref c.j)), V.bl (lineB D l (.ref c.k))])) p6 = some (.lst [V.bl (lineB D l (.ref c.i)), V.bl (lineB D l (.ref c.j)), V.bl (lineB D l (.ref c.k))]) := upd_same
    have s6 : Same H5 (upd H5 p6 (.lst [V.bl (lineB D l (.ref c.i)), V.bl (lineB D l (.ref c.j)), V.bl (lineB D l (.ref c.k))])) := same_new n6
    generalize upd H5 p6 (.lst [V.bl (lineB D l (.ref c.i)), V.bl (lineB D l (.ref c.j)), V.bl (lineB D l (.ref c.k))]) = H6 at *
    refine ⟨p5, p6, _, _, rfl, rfl, s6 _ _ e5, e6, by show 11 ≤ sizeLine; decide, fun p7 n7 => ?_⟩
    have e7 : (upd H6 p7 (.lst ((([V.bl (lineB D l (.ref c.a)), V.bl (lineB D l (.ref c.b)), V.bl (lineB D l (.ref c.c))] ++ [V.bl (lineB D l (.ref c.d)), V.bl (lineB D l (.ref c.e))]) ++ [V.bl (lineB D l (.ref c.f)), V.bl (lineB D l (.ref c.g)), V.bl (lineB D l (.ref c.h))]) ++ [V.bl (lineB D l (.ref c.i)), V.bl (lineB D l (.ref c.j)), V.bl (lineB D l (.ref c.k))]))) p7 = some (.lst ((([V.bl (lineB D l (.ref c.a)), V.bl (lineB D l (.ref c.b)), V.bl (lineB D l (.ref c.c))] ++ [V.bl (lineB D l (.ref c.d)), V.bl (lineB D l (.ref c.e))]) ++ [V.bl (lineB D l (.ref c.f)), V.bl (lineB D l (.ref c.g)), V.bl (lineB D l (.ref c.h))]) ++ [V.bl (lineB D l (.ref c.i)), V.bl (lineB D l (.ref c.j)), V.bl (lineB D l (.ref c.k))])) := upd_same
    have s7 : Same H6 (upd H6 p7 (.lst ((([V.bl (lineB D l (.ref c.a)), V.bl (lineB D l (.ref c.b)), V.bl (lineB D l (.ref c.c))] ++ [V.bl (lineB D l (.ref c.d)), V.bl (lineB D l (.ref c.e))]) ++ [V.bl (lineB D l (.ref c.f)), V.bl (lineB D l (.ref c.g)), V.bl (lineB D l (.ref c.h))]) ++ [V.bl (lineB D l (.ref c.i)), V.bl (lineB D l (.ref c.j)), V.bl (lineB D l (.ref c.k))]))) := same_new n7
    generalize upd H6 p7 (.lst ((([V.bl (lineB D l (.ref c.a)), V.bl (lineB D l (.ref c.b)), V.bl (lineB D l (.ref c.c))] ++ [V.bl (lineB D l (.ref c.d)), V.bl (lineB D l (.ref c.e))]) ++ [V.bl (lineB D l (.ref c.f)), V.bl (lineB D l (.ref c.g)), V.bl (lineB D l (.ref c.h))]) ++ [V.bl (lineB D l (.ref c.i)), V.bl (lineB D l (.ref c.j)), V.bl (lineB D l (.ref c.k))])) = H7 at *
    refine ⟨.ref p7, rfl, _, rfl, _, D, _, _, _, rfl, esame ea ((((((s1.trans s2).trans s3).trans s4).trans s5).trans s6).trans s7), E.ex, .own _, (kit_own E T.el), _, rfl, _, D, _, _, _, rfl, esame ea ((((((s1.trans s2).trans s3).trans s4).trans s5).trans s6).trans s7), E.ex, .own _, (kit_own E T.em), _, rfl, _, D, _, _, _, rfl, esame ea ((((((s1.trans s2).trans s3).trans s4).trans s5).trans s6).trans s7), E.ex, .own _, (kit_own E T.en), by show 3 ≤ sizeLine; decide, fun p8 n8 => ?_⟩
    have e8 : (upd H7 p8 (.lst [V.bl (lineB D l (.ref c.l)), V.bl (lineB D l (.ref c.m)), V.bl (lineB D l (.ref c.n))])) p8 = some (.lst [V.bl (lineB D l (.ref c.l)), V.bl (lineB D l (.ref c.m)), V.bl (lineB D l (.ref c.n))]) := upd_same
    have s8 : Same H7 (upd H7 p8 (.lst [V.bl (lineB D l (.ref c.l)), V.bl (lineB D l (.ref c.m)), V.bl (lineB D l (.ref c.n))])) := same_new n8
    generalize upd H7 p8 (.lst [V.bl (lineB D l (.ref c.l)), V.bl (lineB D l (.ref c.m)), V.bl (lineB D l (.ref c.n))]) = H8 at *
    refine ⟨p7, p8, _, _, rfl, rfl, s8 _ _ e7, e8, by show 14 ≤ sizeLine; decide, fun p9 n9 => ?_⟩
    have e9 : (upd H8 p9 (.lst (((([V.bl (lineB D l (.ref c.a)), V.bl (lineB D l (.ref c.b)), V.bl (lineB D l (.ref c.c))] ++ [V.bl (lineB D l (.ref c.d)), V.bl (lineB D l (.ref c.e))]) ++ [V.bl (lineB D l (.ref c.f)), V.bl (lineB D l (.ref c.g)), V.bl (lineB D l (.ref c.h))]) ++ [V.bl (lineB D l (.ref c.i)), V.bl (lineB D l (.ref c.j)), V.bl (lineB D l (.ref c.k))]) ++ [V.bl (lineB D l (.ref c.l)), V.bl (lineB D l (.ref c.m)), V.bl (lineB D l (.ref c.n))]))) p9 = some (.lst (((([V.bl (lineB D l (.ref c.a)), V.bl (lineB D l (.ref c.b)), V.bl (lineB D l (.ref c.c))] ++ [V.bl (lineB D l (.ref c.d)), V.bl (lineB D l (.ref c.e))]) ++ [V.bl (lineB D l (.ref c.f)), V.bl (lineB D l (.ref c.g)), V.bl (lineB D l (.ref c.h))]) ++ [V.bl (lineB D l (.ref c.i)), V.bl (lineB D l (.ref c.j)), V.bl (lineB D l (.ref c.k))]) ++ [V.bl (lineB D l (.ref c.l)), V.bl (lineB D l (.ref c.m)), V.bl (lineB D l (.ref c.n))])) := upd_same
    have s9 : Same H8 (upd H8 p9 (.lst (((([V.bl (lineB D l (.ref c.a)), V.bl (lineB D l (.ref c.b)), V.bl (lineB D l (.ref c.c))] ++ [V.bl (lineB D l (.ref c.d)), V.bl (lineB D l (.ref c.e))]) ++ [V.bl (lineB D l (.ref c.f)), V.bl (lineB D l (.ref c.g)), V.bl (lineB D l (.ref c.h))]) ++ [V.bl (lineB D l (.ref c.i)), V.bl (lineB D l (.ref c.j)), V.bl (lineB D l (.ref c.k))]) ++ [V.bl (lineB D l (.ref c.l)), V.bl (lineB D l (.ref c.m)), V.bl (lineB D l (.ref c.n))]))) := same_new n9
    generalize upd H8 p9 (.lst (((([V.bl (lineB D l (.ref c.a)), V.bl (lineB D l (.ref c.b)), V.bl (lineB D l (.ref c.c))] ++ [V.bl (lineB D l (.ref c.d)), V.bl (lineB D l (.ref c.e))]) ++ [V.bl (lineB D l (.ref c.f)), V.bl (lineB D l (.ref c.g)), V.bl (lineB D l (.ref c.h))]) ++ [V.bl (lineB D l (.ref c.i)), V.bl (lineB D l (.ref c.j)), V.bl (lineB D l (.ref c.k))]) ++ [V.bl (lineB D l (.ref c.l)), V.bl (lineB D l (.ref c.m)), V.bl (lineB D l (.ref c.n))])) = H9 at *
    exact q p9 H9 ((((((((s1.trans s2).trans s3).trans s4).trans s5).trans s6).trans s7).trans s8).trans s9) (new_of (((((((s1.trans s2).trans s3).trans s4).trans s5).trans s6).trans s7).trans s8) n9) e9
theorem ok_mkP {f : Addr} {fd : FuncData} {k : Nat} (F : Fun K "_law_marks" "_law_marks" sMk f fd) (T : Tab K mg c) (mI : mg "isinstance" = none) : FnP P w K mg base (k + 1) f fd ["_law_one"] (spMkP K c) := by
  refine fnP_of F scMk (fun p vs H Q E h => ?_) (fun cdv A outer s H vs Q E p hot hr h => ?_)
  · obtain ⟨D, l, rfl, _⟩ := h
    rfl
  · obtain ⟨D, l, rfl, hz, E, q⟩ := h
    have hf : ∃ vs, p.2.data = .fields vs := let ⟨_, vs, e, _⟩ := hot; ⟨vs, e⟩
    refine ⟨_, (pss_cons (ps_set (i := 1) scMk.nd rfl (.inl rfl) (pe_lst (pa_cons (pe_callB (call_isP E.ex hz hf List.mem_cons_self) (by rfl) mI (by decide +kernel) (pa_cons (pv 0) (pa_cons (pe_glob (v := .ref c.a) rfl T.ga rfl) pa_nil))) (pa_cons (pe_callB (call_isP E.ex hz hf List.mem_cons_self) (by rfl) mI (by decide +kernel) (pa_cons (pv 0) (pa_cons (pe_glob (v := .ref c.b) rfl T.gb rfl) pa_nil))) (pa_cons (pe_callB (call_isP E.ex hz hf List.mem_cons_self) (by rfl) mI (by decide +kernel) (pa_cons (pv 0) (pa_cons (pe_glob (v := .ref c.c) rfl T.gc rfl) pa_nil))) pa_nil)))))
      (pss_cons (ps_set (i := 1) scMk.nd rfl (.inl rfl) (pe_op op_cat (pv 1) (pe_lst (pa_cons (pe_callB (call_isP E.ex hz hf List.mem_cons_self) (by rfl) mI (by decide +kernel) (pa_cons (pv 0) (pa_cons (pe_glob (v := .ref c.d) rfl T.gd rfl) pa_nil))) (pa_cons (pe_callB (call_isP E.ex hz hf List.mem_cons_self) (by rfl) mI (by decide +kernel) (pa_cons (pv 0) (pa_cons (pe_glob (v := .ref c.e) rfl T.ge rfl) pa_nil))) pa_nil)))))
      (pss_cons (ps_set (i := 1) scMk.nd rfl (.inl rfl) (pe_op op_cat (pv 1) (pe_lst (pa_cons (pe_callB (call_isP E.ex hz hf List.mem_cons_self) (by rfl) mI (by decide +kernel) (pa_cons (pv 0) (pa_cons (pe_glob (v := .ref c.f) rfl T.gf rfl) pa_nil))) (pa_cons (pe_callB (call_isP E.ex hz hf List.mem_cons_self) (by rfl) mI (by decide +kernel) (pa_cons (pv 0) (pa_cons (pe_glob (v := .ref c.g) rfl T.gg rfl) pa_nil))) (pa_cons (pe_callB (call_isP E.ex hz hf List.mem_cons_self) (by rfl) mI (by decide +kernel) (pa_cons (pv 0) (pa_cons (pe_glob (v := .ref c.h) rfl T.gh rfl) pa_nil))) pa_nil))))))
      (pss_cons (ps_set (i := 1) scMk.nd rfl (.inl rfl) (pe_op op_cat (pv 1) (pe_lst (pa_cons (pe_callB (call_isP E.ex hz hf List.mem_cons_self) (by rfl) mI (by decide +kernel) (pa_cons (pv 0) (pa_cons (pe_glob (v := .ref c.i) rfl T.gi rfl) pa_nil))) (pa_cons (pe_callB (call_isP E.ex hz hf List.mem_cons_self) (by rfl) mI (by decide +kernel) (pa_cons (pv 0) (pa_cons (pe_glob (v := .ref c.j) rfl T.gj rfl) pa_nil))) (pa_cons (pe_callB (call_isP E.ex hz hf List.mem_cons_self) (by rfl) mI (by decide +kernel) (pa_cons (pv 0) (pa_cons (pe_glob (v := .ref c.k) rfl T.gk rfl) pa_nil))) pa_nil))))))
      (pss_one (ps_ret (pe_op op_cat (pv 1) (pe_lst (pa_cons (pe_callB (call_isP E.ex hz hf List.mem_cons_self) (by rfl) mI (by decide +kernel) (pa_cons (pv 0) (pa_cons (pe_glob (v := .ref c.l) rfl T.gl rfl) pa_nil))) (pa_cons (pe_callB (call_isP E.ex hz hf List.mem_cons_self) (by rfl) mI (by decide +kernel) (pa_cons (pv 0) (pa_cons (pe_glob (v := .ref c.m) rfl T.gm rfl) pa_nil))) (pa_cons (pe_callB (call_isP E.ex hz hf List.mem_cons_self) (by rfl) mI (by decide +kernel) (pa_cons (pv 0) (pa_cons (pe_glob (v := .ref c.n) rfl T.gn rfl) pa_nil))) pa_nil))))))))))), ?_⟩
    refine ⟨_, rfl, _, _, _, rfl, .own _, (kit_own E T.ea), _, rfl, _, _, _, rfl, .own _, (kit_own E T.eb), _, rfl, _, _, _, rfl, .own _, (kit_own E T.ec), by show 3 ≤ sizeLine; decide, fun p1 n1 => ?_⟩
    have e1 : (upd H p1 (.lst [V.bl (lineB D l (.ref c.a)), V.bl (lineB D l (.ref c.b)), V.bl (lineB D l (.ref c.c))])) p1 = some (.lst [V.bl (lineB D l (.ref c.a)), V.bl (lineB D l (.ref c.b)), V.bl (lineB D l (.ref c.c))]) := upd_same
    have s1 : Same H (upd H p1 (.lst [V.bl (lineB D l (.ref c.a)), V.bl (lineB D l (.ref c.b)), V.bl (lineB D l (.ref c.c))])) := same_new n1
    generalize upd H p1 (.lst [V.bl (lineB D l (.ref c.a)), V.bl (lineB D l (.ref c.b)), V.bl (lineB D l (.ref c.c))]) = H1 at *
    refine ⟨.ref p1, rfl, _, rfl, _, _, _, rfl, .own _, (kit_own E T.ed), _, rfl, _, _, _, rfl, .own _, (kit_own E T.ee), by show 2 ≤ sizeLine; decide, fun p2 n2 => ?_⟩
    have e2 : (upd H1 p2 (.lst [V.bl (lineB D l (.ref c.d)), V.bl (lineB D l (.ref c.e))])) p2 = some (.lst [V.bl (lineB D l (.ref c.d)), V.bl (lineB D l (.ref c.e))]) := upd_same
    have s2 : Same H1 (upd H1 p2 (.lst [V.bl (lineB D l (.ref c.d)), V.bl (lineB D l (.ref c.e))])) := same_new n2
    generalize upd H1 p2 (.lst [V.bl (lineB D l (.ref c.d)), V.bl (lineB D l (.ref c.e))]) = H2 at *
    refine ⟨p1, p2, _, _, rfl, rfl, s2 _ _ e1, e2, by show 5 ≤ sizeLine; decide, fun p3 n3 => ?_⟩
    have e3 : (upd H2 p3 (.lst ([V.bl (lineB D l (.ref c.a)), V.bl (lineB D l (.ref c.b)), V.bl (lineB D l (.ref c.c))] ++ [V.bl (lineB D l (.ref c.d)), V.bl (lineB D l (.ref c.e))]))) p3 = some (.lst ([V.bl (lineB D l (.ref c.a)), V.bl (lineB D l (.ref c.b)), V.bl (lineB D l (.ref c.c))] ++ [V.bl (lineB D l (.ref c.d)), V.bl (lineB D l (.ref c.e))])) := upd_same
    have s3 : Same H2 (upd H2 p3 (.lst ([V.bl (lineB D l (.ref c.a)), V.bl (lineB D l (.ref c.b)), V.bl (lineB D l (.ref c.c))] ++ [V.bl (lineB D l (.ref c.d)), V.bl (lineB D l (.ref c.e))]))) := same_new n3
    generalize upd H2 p3 (.lst ([V.bl (lineB D l (.ref c.a)), V.bl (lineB D l (.ref c.b)), V.bl (lineB D l (.ref c.c))] ++ [V.bl (lineB D l (.ref c.d)), V.bl (lineB D l (.ref c.e))])) = H3 at *
    refine ⟨.ref p3, rfl, _, rfl, _, _, _, rfl, .own _, (kit_own E T.ef), _, rfl, _, _, _, rfl, .own _, (kit_own E T.eg), _, rfl, _, _, _, rfl, .own _, (kit_own E T.eh), by show 3 ≤ sizeLine; decide, fun p4 n4 => ?_⟩
    have e4 : (upd H3 p4 (.lst [V.bl (lineB D l (.ref c.f)), V.bl (lineB D l (.ref c.g)), V.bl (lineB D l (.ref c.h))])) p4 = some (.lst [V.bl (lineB D l (.ref c.f)), V.bl (lineB D l (.ref c.g)), V.bl (lineB D l (.ref c.h))]) := upd_same
    have s4 : Same H3 (upd H3 p4 (.lst [V.bl (lineB D l (.ref c.f)), V.bl (lineB D l (.ref c.g)), V.bl (lineB D l (.ref c.h))])) := same_new n4
    generalize upd H3 p4 (.lst [V.bl (lineB D l (.ref c.f)), V.bl (lineB D l (.ref c.g)), V.bl (lineB D l (.ref c.h))]) = H4 at *
    refine ⟨p3, p4, _, _, rfl, rfl, s4 _ _ e3, e4, by show 8 ≤ sizeLine; decide, fun p5 n5 => ?_⟩
    have e5 : (upd H4 p5 (.lst (([V.bl (lineB D l (.ref c.a)), V.bl (lineB D l (.ref c.b)), V.bl (lineB D l (.ref c.c))] ++ [V.bl (lineB D l (.ref c.d)), V.bl (lineB D l (.ref c.e))]) ++ [V.bl (lineB D l (.ref c.f)), V.bl (lineB D l (.ref c.g)), V.bl (lineB D l (.ref c.h))]))) p5 = some (.lst (([V.bl (lineB D l (.ref c.a)), V.bl (lineB D l (.ref c.b)), V.bl (lineB D l (.ref c.c))] ++ [V.bl (lineB D l (.ref c.d)), V.bl (lineB D l (.ref c.e))]) ++ [V.bl (lineB D l (.ref c.f)), V.bl (lineB D l (.ref c.g)), V.bl (lineB D l (.ref c.h))])) := upd_same
    have s5 : Same H4 (upd H4 p5 (.lst (([V.bl (lineB D l (.ref c.a)), V.bl (lineB D l (.ref c.b)), V.bl (lineB D l (.ref c.c))] ++ [V.bl (lineB D l (.ref c.d)), V.bl (lineB D l (.ref c.e))]) ++ [V.bl (lineB D l (.ref c.f)), V.bl (lineB D l (.ref c.g)), V.bl (lineB D l (.ref c.h))]))) := same_new n5
    generalize upd H4 p5 (.lst (([V.bl (lineB D l (.ref c.a)), V.bl (lineB D l (.ref c.b)), V.bl (lineB D l (.ref c.c))] ++ [V.bl (lineB D l (.ref c.d)), V.bl (lineB D l (.ref c.e))]) ++ [V.bl (lineB D l (.ref c.f)), V.bl (lineB D l (.ref c.g)), V.bl (lineB D l (.ref c.h))])) = H5 at *
    refine ⟨.ref p5, rfl, _, rfl, _, _, _, rfl, .own _, (kit_own E T.ei), _, rfl, _, _, _, rfl, .own _, (kit_own E T.ej), _, rfl, _, _, _, rfl, .own _, (kit_own E T.ek), by show 3 ≤ sizeLine; decide, fun p6 n6 => ?_⟩
    have e6 : (upd H5 p6 (.lst [V.bl (lineB D l (.ref c.i)), V.bl (lineB D l (.ref c.j)), V.bl (lineB D l (.ref c.k))])) p6 = some (.lst [V.bl (lineB D l (.ref c.i)), V.bl (lineB D l (.ref c.j)), V.bl (lineB D l (.ref c.k))]) := upd_same
    have s6 : Same H5 (upd H5 p6 (.lst [V.bl (lineB D l (.ref c.i)), V.bl (lineB D l (.ref c.j)), V.bl (lineB D l (.ref c.k))])) := same_new n6
    generalize upd H5 p6 (.lst [V.bl (lineB D l (.ref c.i)), V.bl (lineB D l (.ref c.j)), V.bl (lineB D l (.ref c.k))]) = H6 at *
    refine ⟨p5, p6, _, _, rfl, rfl, s6 _ _ e5, e6, by show 11 ≤ sizeLine; decide, fun p7 n7 => ?_⟩
    have e7 : (upd H6 p7 (.lst ((([V.bl (lineB D l (.ref c.a)), V.bl (lineB D l (.ref c.b)), V.bl (lineB D l (.ref c.c))] ++ [V.bl (lineB D l (.ref c.d)), V.bl (lineB D l (.ref c.e))]) ++ [V.bl (lineB D l (.ref c.f)), V.bl (lineB D l (.ref c.g)), V.bl (lineB D l (.ref c.h))]) ++ [V.bl (lineB D l (.ref c.i)), V.bl (lineB D l (.ref c.j)), V.bl (lineB D l (.ref c.k))]))) p7 = some (.lst ((([V.bl (lineB D l (.ref c.a)), V.bl (lineB D l (.ref c.b)), V.bl (lineB D l (.ref c.c))] ++ [V.bl (lineB D l (.ref c.d)), V.bl (lineB D l (.ref c.e))]) ++ [V.bl (lineB D l (.ref c.f)), V.bl (lineB D l (.ref c.g)), V.bl (lineB D l (.ref c.h))]) ++ [V.bl (lineB D l (.ref c.i)), V.bl (lineB D l (.ref c.j)), V.bl (lineB D l (.ref c.k))])) := upd_same
    have s7 : Same H6 (upd H6 p7 (.lst ((([V.bl (lineB D l (.ref c.a)), V.bl (lineB D l (.ref c.b)), V.bl (lineB D l (.ref c.c))] ++ [V.bl (lineB D l (.ref c.d)), V.bl (lineB D l (.ref c.e))]) ++ [V.bl (lineB D l (.ref c.f)), V.bl (lineB D l (.ref c.g)), V.bl (lineB D l (.ref c.h))]) ++ [V.bl (lineB D l (.ref c.i)), V.bl (lineB D l (.ref c.j)), V.bl (lineB D l (.ref c.k))]))) := same_new n7
    generalize upd H6 p7 (.lst ((([V.bl (lineB D l (.ref c.a)), V.bl (lineB D l (.ref c.b)), V.bl (lineB D l (.ref c.c))] ++ [V.bl (lineB D l (.ref c.d)), V.bl (lineB D l (.ref c.e))]) ++ [V.bl (lineB D l (.ref c.f)), V.bl (lineB D l (.ref c.g)), V.bl (lineB D l (.ref c.h))]) ++ [V.bl (lineB D l (.ref c.i)), V.bl (lineB D l (.ref c.j)), V.bl (lineB D l (.ref c.k))])) = H7 at *
    refine ⟨.ref p7, rfl, _, rfl, _, _, _, rfl, .own _, (kit_own E T.el), _, rfl, _, _, _, rfl, .own _, (kit_own E T.em), _, rfl, _, _, _, rfl, .own _, (kit_own E T.en), by show 3 ≤ sizeLine; decide, fun p8 n8 => ?_⟩
    have e8 : (upd H7 p8 (.lst [V.bl (lineB D l (.ref c.l)), V.bl (lineB D l (.ref c.m)), V.bl (lineB D l (.ref c.n))])) p8 = some (.lst [V.bl (lineB D l (.ref c.l)), V.bl (lineB D l (.ref c.m)), V.bl (lineB D l (.ref c.n))]) := upd_same
    have s8 : Same H7 (upd H7 p8 (.lst [V.bl (lineB D l (.ref c.l)), V.bl (lineB D l (.ref c.m)), V.bl (lineB D l (.ref c.n))])) := same_new n8
    generalize upd H7 p8 (.lst [V.bl (lineB D l (.ref c.l)), V.bl (lineB D l (.ref c.m)), V.bl (lineB D l (.ref c.n))]) = H8 at *
    refine ⟨p7, p8, _, _, rfl, rfl, s8 _ _ e7, e8, by show 14 ≤ sizeLine; decide, fun p9 n9 => ?_⟩
    have e9 : (upd H8 p9 (.lst (((([V.bl (lineB D l (.ref c.a)), V.bl (lineB D l (.ref c.b)), V.bl (lineB D l (.ref c.c))] ++ [V.bl (lineB D l (.ref c.d)), V.bl (lineB D l (.ref c.e))]) ++ [V.bl (lineB D l (.ref c.f)), V.bl (lineB D l (.ref c.g)), V.bl (lineB D l (.ref c.h))]) ++ [V.bl (lineB D l (.ref c.i)), V.bl (lineB D l (.ref c.j)), V.bl (lineB D l (.ref c.k))]) ++ [V.bl (lineB D l (.ref c.l)), V.bl (lineB D l (.ref c.m)), V.bl (lineB D l (.ref c.n))]))) p9 = some (.lst (((([V.bl (lineB D l (.ref c.a)), V.bl (lineB D l (.ref c.b)), V.bl (lineB D l (.ref c.c))] ++ [V.bl (lineB D l (.ref c.d)), V.bl (lineB D l (.ref c.e))]) ++ [V.bl (lineB D l (.ref c.f)), V.bl (lineB D l (.ref c.g)), V.bl (lineB D l (.ref c.h))]) ++ [V.bl (lineB D l (.ref c.i)), V.bl (lineB D l (.ref c.j)), V.bl (lineB D l (.ref c.k))]) ++ [V.bl (lineB D l (.ref c.l)), V.bl (lineB D l (.ref c.m)), V.bl (lineB D l (.ref c.n))])) := upd_same
    have s9 : Same H8 (upd H8 p9 (.lst (((([V.bl (lineB D l (.ref c.a)), V.bl (lineB D l (.ref c.b)), V.bl (lineB D l (.ref c.c))] ++ [V.bl (lineB D l (.ref c.d)), V.bl (lineB D l (.ref c.e))]) ++ [V.bl (lineB D l (.ref c.f)), V.bl (lineB D l (.ref c.g)), V.bl (lineB D l (.ref c.h))]) ++ [V.bl (lineB D l (.ref c.i)), V.bl (lineB D l (.ref c.j)), V.bl (lineB D l (.ref c.k))]) ++ [V.bl (lineB D l (.ref c.l)), V.bl (lineB D l (.ref c.m)), V.bl (lineB D l (.ref c.n))]))) := same_new n9
    generalize upd H8 p9 (.lst (((([V.bl (lineB D l (.ref c.a)), V.bl (lineB D l (.ref c.b)), V.bl (lineB D l (.ref c.c))] ++ [V.bl (lineB D l (.ref c.d)), V.bl (lineB D l (.ref c.e))]) ++ [V.bl (lineB D l (.ref c.f)), V.bl (lineB D l (.ref c.g)), V.bl (lineB D l (.ref c.h))]) ++ [V.bl (lineB D l (.ref c.i)), V.bl (lineB D l (.ref c.j)), V.bl (lineB D l (.ref c.k))]) ++ [V.bl (lineB D l (.ref c.l)), V.bl (lineB D l (.ref c.m)), V.bl (lineB D l (.ref c.n))])) = H9 at *
    exact q p9 H9 ((((((((s1.trans s2).trans s3).trans s4).trans s5).trans s6).trans s7).trans s8).trans s9) (new_of (((((((s1.trans s2).trans s3).trans s4).trans s5).trans s6).trans s7).trans s8) n9) e9
theorem ok_bs {f : Addr} {fd : FuncData} {k : Nat} (F : Fun K "_law_bases" "_law_bases" sBs f fd) (T : Tab K mg c) (mI : mg "isinstance" = none) (mValueError : mg "ValueError" = none) (mIndexError : mg "IndexError" = none) (mKeyError : mg "KeyError" = none) (mOverflowError : mg "OverflowError" = none) (mArithmeticError : mg "ArithmeticError" = none) (mLookupError : mg "LookupError" = none) (mRuntimeError : mg "RuntimeError" = none) : FnOk P w K mg base CX0 (k + 1) f fd ["_law_one"] (spBs K c) := by
  refine F.ok scBs (fun vs H Q E h => ?_) (fun cdv A outer s H vs Q E hr h => ?_)
  · obtain ⟨a, D, l, rfl, _⟩ := h
    rfl
  · obtain ⟨a, D, l, rfl, ea, E, q⟩ := h
    refine ⟨_, (pss_cons (ps_set (i := 1) scBs.nd rfl (.inl rfl) (pe_lst (pa_cons (pe_callB call_isV (by rfl) mI (by decide +kernel) (pa_cons (pv 0) (pa_cons (pe_glob (v := .ref c.t) rfl T.gt rfl) pa_nil))) (pa_cons (pe_callB call_isV (by rfl) mI (by decide +kernel) (pa_cons (pv 0) (pa_cons (pe_bltn (v := .ty "ValueError") (by rfl) mValueError (by decide +kernel) rfl) pa_nil))) (pa_cons (pe_callB call_isV (by rfl) mI (by decide +kernel) (pa_cons (pv 0) (pa_cons (pe_bltn (v := .ty "IndexError") (by rfl) mIndexError (by decide +kernel) rfl) pa_nil))) pa_nil)))))
      (pss_cons (ps_set (i := 1) scBs.nd rfl (.inl rfl) (pe_op op_cat (pv 1) (pe_lst (pa_cons (pe_callB call_isV (by rfl) mI (by decide +kernel) (pa_cons (pv 0) (pa_cons (pe_bltn (v := .ty "KeyError") (by rfl) mKeyError (by decide +kernel) rfl) pa_nil))) (pa_cons (pe_callB call_isV (by rfl) mI (by decide +kernel) (pa_cons (pv 0) (pa_cons (pe_bltn (v := .ty "OverflowError") (by rfl) mOverflowError (by decide +kernel) rfl) pa_nil))) (pa_cons (pe_callB call_isV (by rfl) mI (by decide +kernel) (pa_cons (pv 0) (pa_cons (pe_bltn (v := .ty "ArithmeticError") (by rfl) mArithmeticError (by decide +kernel) rfl) pa_nil))) pa_nil))))))
      (pss_one (ps_ret (pe_op op_cat (pv 1) (pe_lst (pa_cons (pe_callB call_isV (by rfl) mI (by decide +kernel) (pa_cons (pv 0) (pa_cons (pe_bltn (v := .ty "LookupError") (by rfl) mLookupError (by decide +kernel) rfl) pa_nil))) (pa_cons (pe_callB call_isV (by rfl) mI (by decide +kernel) (pa_cons (pv 0) (pa_cons (pe_bltn (v := .ty "RuntimeError") (by rfl) mRuntimeError (by decide +kernel) rfl) pa_nil))) pa_nil)))))))), ?_⟩
    refine ⟨_, rfl, _, D, _, _, _, rfl, esame ea (Same.refl H), E.ex, .own _, (kit_own E T.et), _, rfl, _, D, _, _, _, rfl, esame ea (Same.refl H), E.ex, .ty _, (kit_typ E (by decide +kernel)), _, rfl, _, D, _, _, _, rfl, esame ea (Same.refl H), E.ex, .ty _, (kit_typ E (by decide +kernel)), by show 3 ≤ sizeLine; decide, fun p1 n1 => ?_⟩
    have e1 : (upd H p1 (.lst [V.bl (lineB D l (.ref c.t)), V.bl (lineB D l (.type "ValueError")), V.bl (lineB D l (.type "IndexError"))])) p1 = some (.lst [V.bl (lineB D l (.ref c.t)), V.bl (lineB D l (.type "ValueError")), V.bl (lineB D l (.type "IndexError"))]) := upd_same
    have s1 : Same H (upd H p1 (.lst [V.bl (lineB D l (.ref c.t)), V.bl (lineB D l (.type "ValueError")), V.bl (lineB D l (.type "IndexError"))])) := same_new n1
    generalize upd H p1 (.lst [V.bl (lineB D l (.ref c.t)), V.bl (lineB D l (.type "ValueError")), V.bl (lineB D l (.type "IndexError"))]) = H1 at *
    refine ⟨.ref p1, rfl, _, rfl, _, D, _, _, _, rfl, esame ea s1, E.ex, .ty _, (kit_typ E (by decide +kernel)), _, rfl, _, D, _, _, _, rfl, esame ea s1, E.ex, .ty _, (kit_typ E (by decide +kernel)), _, rfl, _, D, _, _, _, rfl, esame ea s1, E.ex, .ty _, (kit_typ E (by decide +kernel)), by show 3 ≤ sizeLine; decide, fun p2 n2 => ?_⟩
    have e2 : (upd H1 p2 (.lst [V.bl (lineB D l (.type "KeyError")), V.bl (lineB D l (.type "OverflowError")), V.bl (lineB D l (.type "ArithmeticError"))])) p2 = some (.lst [V.bl (lineB D l (.type "KeyError")), V.bl (lineB D l (.type "OverflowError")), V.bl (lineB D l (.type "ArithmeticError"))]) := upd_same
    have s2 : Same H1 (upd H1 p2 (.lst [V.bl (lineB D l (.type "KeyError")), V.bl (lineB D l (.type "OverflowError")), V.bl (lineB D l (.type "ArithmeticError"))])) := same_new n2
    generalize upd H1 p2 (.lst [V.bl (lineB D l (.type "KeyError")), V.bl (lineB D l (.type "OverflowError")), V.bl (lineB D l (.type "ArithmeticError"))]) = H2 at *
    refine ⟨p1, p2, _, _, rfl, rfl, s2 _ _ e1, e2, by show 6 ≤ sizeLine; decide, fun p3 n3 => ?_⟩
    have e3 : (upd H2 p3 (.lst ([V.bl (lineB D l (.ref c.t)), V.bl (lineB D l (.type "ValueError")), V.bl (lineB D l (.type "IndexError"))] ++ [V.bl (lineB D l (.type "KeyError")), V.bl (lineB D l (.type "OverflowError")), V.bl (lineB D l (.type "ArithmeticError"))]))) p3 = some (.lst ([V.bl (lineB D l (.ref c.t)), V.bl (lineB D l (.type "ValueError")), V.bl (lineB D l (.type "IndexError"))] ++ [V.bl (lineB D l (.type "KeyError")), V.bl (lineB D l (.type "OverflowError")), V.bl (lineB D l (.type "ArithmeticError"))])) := upd_same
    have s3 : Same H2 (upd H2 p3 (.lst ([V.bl (lineB D l (.ref c.t)), V.bl (lineB D l (.type "ValueError")), V.bl (lineB D l (.type "IndexError"))] ++ [V.bl (lineB D l (.type "KeyError")), V.bl (lineB D l (.type "OverflowError")), V.bl (lineB D l (.type "ArithmeticError"))]))) := same_new n3
    generalize upd H2 p3 (.lst ([V.bl (lineB D l (.ref c.t)), V.bl (lineB D l (.type "ValueError")), V.bl (lineB D l (.type "IndexError"))] ++ [V.bl (lineB D l (.type "KeyError")), V.bl (lineB D l (.type "OverflowError")), V.bl (lineB D l (.type "ArithmeticError"))])) = H3 at *
    refine ⟨.ref p3, rfl, _, rfl, _, D, _, _, _, rfl, esame ea ((s1.trans s2).trans s3), E.ex, .ty _, (kit_typ E (by decide +kernel)), _, rfl, _, D, _, _, _, rfl, esame ea ((s1.trans s2).trans s3), E.ex, .ty _, (kit_typ E (by decide +kernel)), by show 2 ≤ sizeLine; decide, fun p4 n4 => ?_⟩
    have e4 : (upd H3 p4 (.lst [V.bl (lineB D l (.type "LookupError")), V.bl (lineB D l (.type "RuntimeError"))])) p4 = some (.lst [V.bl (lineB D l (.type "LookupError")), V.bl (lineB D l (.type "RuntimeError"))]) := upd_same
    have s4 : Same H3 (upd H3 p4 (.lst [V.bl (lineB D l (.type "LookupError")), V.bl (lineB D l (.type "RuntimeError"))])) := same_new n4
    generalize upd H3 p4 (.lst [V.bl (lineB D l (.type "LookupError")), V.bl (lineB D l (.type "RuntimeError"))]) = H4 at *
    refine ⟨p3, p4, _, _, rfl, rfl, s4 _ _ e3, e4, by show 8 ≤ sizeLine; decide, fun p5 n5 => ?_⟩
    have e5 : (upd H4 p5 (.lst (([V.bl (lineB D l (.ref c.t)), V.bl (lineB D l (.type "ValueError")), V.bl (lineB D l (.type "IndexError"))] ++ [V.bl (lineB D l (.type "KeyError")), V.bl (lineB D l (.type "OverflowError")), V.bl (lineB D l (.type "ArithmeticError"))]) ++ [V.bl (lineB D l (.type "LookupError")), V.bl (lineB D l (.type "RuntimeError"))]))) p5 = some (.lst (([V.bl (lineB D l (.ref c.t)), V.bl (lineB D l (.type "ValueError")), V.bl (lineB D l (.type "IndexError"))] ++ [V.bl (lineB D l (.type "KeyError")), V.bl (lineB D l (.type "OverflowError")), V.bl (lineB D l (.type "ArithmeticError"))]) ++ [V.bl (lineB D l (.type "LookupError")), V.bl (lineB D l (.type "RuntimeError"))])) := upd_same
    have s5 : Same H4 (upd H4 p5 (.lst (([V.bl (lineB D l (.ref c.t)), V.bl (lineB D l (.type "ValueError")), V.bl (lineB D l (.type "IndexError"))] ++ [V.bl (lineB D l (.type "KeyError")), V.bl (lineB D l (.type "OverflowError")), V.bl (lineB D l (.type "ArithmeticError"))]) ++ [V.bl (lineB D l (.type "LookupError")), V.bl (lineB D l (.type "RuntimeError"))]))) := same_new n5
    generalize upd H4 p5 (.lst (([V.bl (lineB D l (.ref c.t)), V.bl (lineB D l (.type "ValueError")), V.bl (lineB D l (.type "IndexError"))] ++ [V.bl (lineB D l (.type "KeyError")), V.bl (lineB D l (.type "OverflowError")), V.bl (lineB D l (.type "ArithmeticError"))]) ++ [V.bl (lineB D l (.type "LookupError")), V.bl (lineB D l (.type "RuntimeError"))])) = H5 at *
    exact q p5 H5 ((((s1.trans s2).trans s3).trans s4).trans s5) (new_of (((s1.trans s2).trans s3).trans s4) n5) e5
theorem walk_rangeY {n : Nat} : Walk (Itr 0 n) n (fun _ => True) (YAt ((List.range n).map fun (j : Nat) => V.int j)) :=
  walk_range.mono (fun _ h => h) fun i H x H' hi _ ⟨e1, e2⟩ => ⟨e1, by rw [List.getElem?_map, List.getElem?_range hi, e2]; show some (V.int i) = some (V.int (0 + i)); rw [Int.zero_add]⟩
def spOnly (K : PySem.W.Frag) : Sp := fun vs H Q _ => ∃ (t : Addr) (sp : List Nat) (n : Nat), vs = [.ref t, .int n] ∧ SqT K H t (sp.map fun (i : Nat) => V.int i) ∧ n ≤ 100 ∧ ∀ p H', Same H H' → H p = none → H' p = some (.lst ((onlyB sp n).map V.bl)) → Q (.ref p) H'
theorem flat_nats (sp : List Nat) : (sp.map fun (i : Nat) => V.int i).all flatV = true := by
  rw [List.all_map]
  exact List.all_eq_true.mpr fun _ _ => rfl
theorem ok_only {f : Addr} {fd : FuncData} {k : Nat} (F : Fun K "_law_only" "_law_only" sOnly f fd) (mR : mg "range" = none) : FnOk P w K mg base CX0 (k + 1) f fd ["_law_spots", "_law_total"] (spOnly K) := by
  refine F.ok scOnly (fun vs H Q E h => ?_) (fun cdv A outer s H vs Q E hr h => ?_)
  · obtain ⟨t, sp, n, rfl, _⟩ := h
    rfl
  · obtain ⟨t, sp, n, rfl, ht, hn, q⟩ := h
    refine ⟨_, pss_one (ps_ret (pe_lc (own := [("_law_at", 2)]) (g := gName 2) (tt := tYes) (te := tOp (rIn K false) (tVar 2) (tVar 0)) (by rfl) scOnly.nd (pi_range1 rfl mR (pa_cons (pv 1) pa_nil)) (blkOk_by (own := [("_law_at", 2)]) (N := ["_law_spots", "_law_total", "_law_at"]) (sc := defScope sOnly) (by decide +kernel)) (fun _ _ _ _ _ => pg_name (i := 2) scOnly.nd rfl (Or.inl rfl)) (fun _ _ _ _ _ => pts_nil) (fun _ _ _ _ _ => pe_cmpR op_in_seq (pv 2) (pv 0) (by rfl)))), ?_⟩
    refine ⟨.int n, rfl, _, rfl, by omega, by omega, fun D nD => ?_⟩
    have e : ((n : Int) - 0).toNat = n := by omega
    first | rw [e] | rw [show ((n : Int)).toNat = n from Int.toNat_natCast n]
    refine lc_map (h := fun (j : Nat) => V.int j) (xs := List.range n) walk_rangeY (by simp) (fun j => V.bl (inV (.int j) (sp.map fun (i : Nat) => V.int i))) nD (fun _ _ => trivial) (by simp; omega) (fun j hj H5 s5 Q' q' => ⟨_, rfl, .ref t, rfl, t, _, rfl, .inr (s5.tup ht), rfl, flat_nats sp, q' H5 (Same.refl H5)⟩) fun H3 s3 e3 => ?_
    refine q D H3 s3 nD ?_
    rw [e3]
    unfold onlyB
    rw [List.map_map]
    rfl
theorem pe_tree {X : Cx} {x : Str} {C D fI : Addr} {a : Expr} {ta : TA} {p pos : Pos} {k : Nat} (T : TreeTxt X.prog X.K X.mg x C D fI) (hr : Room k X.A) (ha : PA X [a] ta) (hg : Gl X x := by rfl) (hdb : (x == ("__debug__" : Str)) = false := by decide)
    (he : starEach (a :: []) X.env = (false, eval a X.env) :: starEach [] X.env := by rfl) (hpl : (backTo pos (starEach [] X.env)).any (·.1) = false := by rfl) : PE X (.Call (.Name x p) [a] [] pos) (tMkV C ta) :=
  pe_supV PySem.W.kxs_ValueError (PySem.TfS.init_of PySem.F.excBase_ValueError) PySem.F.excBase_ValueError T hr ha (by decide +kernel) (by decide +kernel) (by decide +kernel) (by decide +kernel) (by decide +kernel) (fun _ _ _ _ _ _ _ _ _ _ _ _ => rfl) hg hdb he hpl
/-- what of the text the classes with a message must have -/
structure Msgs (P : Program) (K : PySem.W.Frag) (mg : Str → Option Value) (c : Cs) : Prop where
  tt : ∃ D f, TreeTxt P K mg "TreeError" c.t D f
  ta : ∃ D f, TreeTxt P K mg "InvalidLanguage" c.a D f
  tb : ∃ D f, TreeTxt P K mg "InvalidStore" c.b D f
  tc : ∃ D f, TreeTxt P K mg "InvalidQuestion" c.c D f
  td : ∃ D f, TreeTxt P K mg "InvalidExamples" c.d D f
  te : ∃ D f, TreeTxt P K mg "InvalidAddress" c.e D f
  tf : ∃ D f, TreeTxt P K mg "InvalidOperation" c.f D f
  tg : ∃ D f, TreeTxt P K mg "InvalidEdit" c.g D f
  th : ∃ D f, TreeTxt P K mg "ParseError" c.h D f
  ti : ∃ D f, TreeTxt P K mg "InvalidCommand" c.i D f
def Cs.msg (c : Cs) : List Addr := [c.a, c.b, c.c, c.d, c.e, c.f, c.g, c.h, c.i]
/-- at the addresses as: errors of the classes Ds -/
inductive ErrsAt (H : Hp) : List Addr → List Addr → Prop
  | nil : ErrsAt H [] []
  | cons {a D : Addr} {as Ds : List Addr} (h : ErrAt H a D) (r : ErrsAt H as Ds) : ErrsAt H (a :: as) (D :: Ds)
theorem ErrsAt.at {H : Hp} : ∀ {as Ds : List Addr} {i : Nat} {a : Addr}, ErrsAt H as Ds → as[i]? = some a → ∃ D, Ds[i]? = some D ∧ ErrAt H a D
  | _, _, _, _, .nil, e => by simp at e
  | _, _, 0, _, .cons h _, e => by simp at e; subst e; exact ⟨_, rfl, h⟩
  | _, _, i + 1, _, .cons _ r, e => by
    obtain ⟨D, h1, h2⟩ := ErrsAt.at (i := i) r (by simpa using e)
    exact ⟨D, by simpa using h1, h2⟩
theorem ErrsAt.same {H H' : Hp} (s : Same H H') : ∀ {as Ds : List Addr}, ErrsAt H as Ds → ErrsAt H' as Ds
  | _, _, .nil => .nil
  | _, _, .cons h r => .cons (esame h s) (ErrsAt.same s r)
def spTold (c : Cs) : Sp := fun vs H Q _ => ∃ v, vs = [v] ∧ ∀ l H' as, Same H H' → H' l = some (.lst (as.map V.ref)) → ErrsAt H' as c.msg → Q (.ref l) H'
theorem ok_told {f : Addr} {fd : FuncData} {k : Nat} (F : Fun K "_law_told" "_law_told" sTold f fd) (M : Msgs P K mg c) : FnOk P w K mg base CX0 (k + 2) f fd ["_law_told_here"] (spTold c) := by
  refine F.ok scTold (fun vs H Q E h => ?_) (fun cdv A outer s H vs Q E hr h => ?_)
  · obtain ⟨v, rfl, _⟩ := h
    rfl
  · obtain ⟨v, rfl, q⟩ := h
    obtain ⟨_, _, ta⟩ := M.ta
    obtain ⟨_, _, tb⟩ := M.tb
    obtain ⟨_, _, tc⟩ := M.tc
    obtain ⟨_, _, td⟩ := M.td
    obtain ⟨_, _, te⟩ := M.te
    obtain ⟨_, _, tf⟩ := M.tf
    obtain ⟨_, _, tg⟩ := M.tg
    obtain ⟨_, _, th⟩ := M.th
    obtain ⟨_, _, ti⟩ := M.ti
    refine ⟨_, (pss_cons (ps_set (i := 1) scTold.nd rfl (.inl rfl) (pe_lst (pa_cons (pe_tree ta hr (pa_cons (pv 0) pa_nil)) (pa_cons (pe_tree tb hr (pa_cons (pv 0) pa_nil)) (pa_cons (pe_tree tc hr (pa_cons (pv 0) pa_nil)) (pa_cons (pe_tree td hr (pa_cons (pv 0) pa_nil)) pa_nil)))))) (pss_cons (ps_set (i := 1) scTold.nd rfl (.inl rfl) (pe_op op_cat (pv 1) (pe_lst (pa_cons (pe_tree te hr (pa_cons (pv 0) pa_nil)) (pa_cons (pe_tree tf hr (pa_cons (pv 0) pa_nil)) (pa_cons (pe_tree tg hr (pa_cons (pv 0) pa_nil)) (pa_cons (pe_tree th hr (pa_cons (pv 0) pa_nil)) pa_nil))))))) (pss_one (ps_ret (pe_op op_cat (pv 1) (pe_lst (pa_cons (pe_tree ti hr (pa_cons (pv 0) pa_nil)) pa_nil))))))), ?_⟩
    refine ⟨_, rfl, _, rfl, fun aa ma => ?_⟩
    have e1 : (upd H aa (ExO (.ref c.a) aa)) aa = some (ExO (.ref c.a) aa) := upd_same
    have s1 : Same H (upd H aa (ExO (.ref c.a) aa)) := same_new ma
    generalize upd H aa (ExO (.ref c.a) aa) = H1 at *
    refine ⟨_, rfl, _, rfl, fun ab mb => ?_⟩
    have e2 : (upd H1 ab (ExO (.ref c.b) ab)) ab = some (ExO (.ref c.b) ab) := upd_same
    have s2 : Same H1 (upd H1 ab (ExO (.ref c.b) ab)) := same_new mb
    generalize upd H1 ab (ExO (.ref c.b) ab) = H2 at *
    refine ⟨_, rfl, _, rfl, fun ac mc => ?_⟩
    have e3 : (upd H2 ac (ExO (.ref c.c) ac)) ac = some (ExO (.ref c.c) ac) := upd_same
    have s3 : Same H2 (upd H2 ac (ExO (.ref c.c) ac)) := same_new mc
    generalize upd H2 ac (ExO (.ref c.c) ac) = H3 at *
    refine ⟨_, rfl, _, rfl, fun ad md => ?_⟩
    have e4 : (upd H3 ad (ExO (.ref c.d) ad)) ad = some (ExO (.ref c.d) ad) := upd_same
    have s4 : Same H3 (upd H3 ad (ExO (.ref c.d) ad)) := same_new md
    generalize upd H3 ad (ExO (.ref c.d) ad) = H4 at *
    refine ⟨by show 4 ≤ sizeLine; decide, fun pa na => ?_⟩
    have e5 : (upd H4 pa (.lst [V.ref aa, V.ref ab, V.ref ac, V.ref ad])) pa = some (.lst [V.ref aa, V.ref ab, V.ref ac, V.ref ad]) := upd_same
    have s5 : Same H4 (upd H4 pa (.lst [V.ref aa, V.ref ab, V.ref ac, V.ref ad])) := same_new na
    generalize upd H4 pa (.lst [V.ref aa, V.ref ab, V.ref ac, V.ref ad]) = H5 at *
    refine ⟨.ref pa, rfl, _, rfl, _, rfl, fun ae me => ?_⟩
    have e6 : (upd H5 ae (ExO (.ref c.e) ae)) ae = some (ExO (.ref c.e) ae) := upd_same
    have s6 : Same H5 (upd H5 ae (ExO (.ref c.e) ae)) := same_new me
    generalize upd H5 ae (ExO (.ref c.e) ae) = H6 at *
    refine ⟨_, rfl, _, rfl, fun af mf => ?_⟩
    have e7 : (upd H6 af (ExO (.ref c.f) af)) af = some (ExO (.ref c.f) af) := upd_same
    have s7 : Same H6 (upd H6 af (ExO (.ref c.f) af)) := same_new mf
    generalize upd H6 af (ExO (.ref c.f) af) = H7 at *
    refine ⟨_, rfl, _, rfl, fun ag mg => ?_⟩
    have e8 : (upd H7 ag (ExO (.ref c.g) ag)) ag = some (ExO (.ref c.g) ag) := upd_same
    have s8 : Same H7 (upd H7 ag (ExO (.ref c.g) ag)) := same_new mg
    generalize upd H7 ag (ExO (.ref c.g) ag) = H8 at *
    refine ⟨_, rfl, _, rfl, fun ah mh => ?_⟩
    have e9 : (upd H8 ah (ExO (.ref c.h) ah)) ah = some (ExO (.ref c.h) ah) := upd_same
    have s9 : Same H8 (upd H8 ah (ExO (.ref c.h) ah)) := same_new mh
    generalize upd H8 ah (ExO (.ref c.h) ah) = H9 at *
    refine ⟨by show 4 ≤ sizeLine; decide, fun pe ne => ?_⟩
    have e10 : (upd H9 pe (.lst [V.ref ae, V.ref af, V.ref ag, V.ref ah])) pe = some (.lst [V.ref ae, V.ref af, V.ref ag, V.ref ah]) := upd_same
    have s10 : Same H9 (upd H9 pe (.lst [V.ref ae, V.ref af, V.ref ag, V.ref ah])) := same_new ne
    generalize upd H9 pe (.lst [V.ref ae, V.ref af, V.ref ag, V.ref ah]) = H10 at *
    refine ⟨pa, pe, _, _, rfl, rfl, (s10 _ _ (s9 _ _ (s8 _ _ (s7 _ _ (s6 _ _ e5))))), e10, by show 8 ≤ sizeLine; decide, fun re oe => ?_⟩
    have e11 : (upd H10 re (.lst ([V.ref aa, V.ref ab, V.ref ac, V.ref ad] ++ [V.ref ae, V.ref af, V.ref ag, V.ref ah]))) re = some (.lst ([V.ref aa, V.ref ab, V.ref ac, V.ref ad] ++ [V.ref ae, V.ref af, V.ref ag, V.ref ah])) := upd_same
    have s11 : Same H10 (upd H10 re (.lst ([V.ref aa, V.ref ab, V.ref ac, V.ref ad] ++ [V.ref ae, V.ref af, V.ref ag, V.ref ah]))) := same_new oe
    generalize upd H10 re (.lst ([V.ref aa, V.ref ab, V.ref ac, V.ref ad] ++ [V.ref ae, V.ref af, V.ref ag, V.ref ah])) = H11 at *
    refine ⟨.ref re, rfl, _, rfl, _, rfl, fun ai mi => ?_⟩
    have e12 : (upd H11 ai (ExO (.ref c.i) ai)) ai = some (ExO (.ref c.i) ai) := upd_same
    have s12 : Same H11 (upd H11 ai (ExO (.ref c.i) ai)) := same_new mi
    generalize upd H11 ai (ExO (.ref c.i) ai) = H12 at *
    refine ⟨by show 1 ≤ sizeLine; decide, fun pi ni => ?_⟩
    have e13 : (upd H12 pi (.lst [V.ref ai])) pi = some (.lst [V.ref ai]) := upd_same
    have s13 : Same H12 (upd H12 pi (.lst [V.ref ai])) := same_new ni
    generalize upd H12 pi (.lst [V.ref ai]) = H13 at *
    refine ⟨re, pi, _, _, rfl, rfl, (s13 _ _ (s12 _ _ e11)), e13, by show 9 ≤ sizeLine; decide, fun ri oi => ?_⟩
    have e14 : (upd H13 ri (.lst (([V.ref aa, V.ref ab, V.ref ac, V.ref ad] ++ [V.ref ae, V.ref af, V.ref ag, V.ref ah]) ++ [V.ref ai]))) ri = some (.lst (([V.ref aa, V.ref ab, V.ref ac, V.ref ad] ++ [V.ref ae, V.ref af, V.ref ag, V.ref ah]) ++ [V.ref ai])) := upd_same
    have s14 : Same H13 (upd H13 ri (.lst (([V.ref aa, V.ref ab, V.ref ac, V.ref ad] ++ [V.ref ae, V.ref af, V.ref ag, V.ref ah]) ++ [V.ref ai]))) := same_new oi
    generalize upd H13 ri (.lst (([V.ref aa, V.ref ab, V.ref ac, V.ref ad] ++ [V.ref ae, V.ref af, V.ref ag, V.ref ah]) ++ [V.ref ai])) = H14 at *
    exact q ri H14 [aa, ab, ac, ad, ae, af, ag, ah, ai] (((((((((((((s1.trans s2).trans s3).trans s4).trans s5).trans s6).trans s7).trans s8).trans s9).trans s10).trans s11).trans s12).trans s13).trans s14) e14 (.cons (esame (Or.inl e1) ((((((((((((s2.trans s3).trans s4).trans s5).trans s6).trans s7).trans s8).trans s9).trans s10).trans s11).trans s12).trans s13).trans s14)) (.cons (esame (Or.inl e2) (((((((((((s3.trans s4).trans s5).trans s6).trans s7).trans s8).trans s9).trans s10).trans s11).trans s12).trans s13).trans s14)) (.cons (esame (Or.inl e3) ((((((((((s4.trans s5).trans s6).trans s7).trans s8).trans s9).trans s10).trans s11).trans s12).trans s13).trans s14)) (.cons (esame (Or.inl e4) (((((((((s5.trans s6).trans s7).trans s8).trans s9).trans s10).trans s11).trans s12).trans s13).trans s14)) (.cons (esame (Or.inl e6) (((((((s7.trans s8).trans s9).trans s10).trans s11).trans s12).trans s13).trans s14)) (.cons (esame (Or.inl e7) ((((((s8.trans s9).trans s10).trans s11).trans s12).trans s13).trans s14)) (.cons (esame (Or.inl e8) (((((s9.trans s10).trans s11).trans s12).trans s13).trans s14)) (.cons (esame (Or.inl e9) ((((s10.trans s11).trans s12).trans s13).trans s14)) (.cons (esame (Or.inl e12) (s13.trans s14)) .nil)))))))))
end
end Tf

/-! k00: the rows of truths; errors with a message -/
namespace Tf
open PySem PySem.Spec PyProof.Rows L2 TfE
/-! ### a def by its name -/
def Cd (P : Program) (w : World) (K : PySem.W.Frag) (mg : Str → Option Value) (base : Heap) (k : Nat) (x : Str) (ps : List Str) (sp : Sp) : Prop := ∃ (f : Addr) (fd : FuncData), FnOk P w K mg base CX0 k f fd ps sp ∧ Binds K fd ps [] ∧ mg x = some (.ref f) ∧ PySem.W.keepIn K (.ref f) = true
theorem pe_cd {X : Cx} {k : Nat} {x : Str} {ps : List Str} {sp : Sp} {e : Expr} {es : List Expr} {t : TA} {p pos : Pos} (F : Cd X.prog X.w X.K X.mg X.base k x ps sp) (hr : Room k X.A) (ha : PA X (e :: es) t) (hg : Gl X x := by rfl) (hdb : (x == ("__debug__" : Str)) = false := by decide)
    (he : starEach (e :: es) X.env = (false, eval e X.env) :: starEach es X.env := by rfl) (hpl : (backTo pos (starEach es X.env)).any (·.1) = false := by rfl) : PE X (.Call (.Name x p) (e :: es) [] pos) (tCall sp [] E0 t) := by
  obtain ⟨f, fd, G, b, g, kp⟩ := F
  exact pe_call G hr hg g kp b .nil pass0 ha hdb he hpl
/-! ### the rows -/
theorem line_ref {D C : Addr} {l : List Value} (h : l.contains (.ref C) = false) : lineB D l (.ref C) = decide (D = C) := by
  unfold lineB
  rw [List.contains_cons, h, Bool.or_false]
  by_cases e : D = C
  · subst e
    simp
  · rw [decide_eq_false e]
    simp
    exact fun z => e z.symm
theorem line_typ {D : Addr} {l : List Value} {n : String} : lineB D l (.type n) = l.contains (.type n) := by
  unfold lineB
  rw [List.contains_cons]
  simp
theorem row_at {cs : List Addr} (nd : cs.Nodup) {i : Nat} {D : Addr} (h : cs[i]? = some D) : cs.map (fun C => decide (D = C)) = (List.range cs.length).map fun j => decide (j = i) := by
  obtain ⟨hi, e⟩ := List.getElem?_eq_some_iff.mp h
  subst e
  refine List.ext_getElem (by simp) fun j h1 h2 => ?_
  have hj : j < cs.length := by simpa using h1
  rw [List.getElem_map, List.getElem_map, List.getElem_range]
  have this : cs[i] = cs[j] ↔ j = i := by
    refine ⟨fun z => ?_, fun z => by subst z; rfl⟩
    have pw := List.pairwise_iff_getElem.mp nd
    rcases Nat.lt_trichotomy i j with g | g | g
    · exact absurd z (pw i j hi hj g)
    · exact g.symm
    · exact absurd z.symm (pw j i hj hi g)
  simp only [this]
theorem only_one : ∀ i < 14, (List.range 14).map (fun j => decide (j = i)) = onlyB [i] 14 := by decide +kernel
section
variable {K : PySem.W.Frag} {mg : Str → Option Value} {c : Cs}
theorem Tab.own (T : Tab K mg c) : c.own.Nodup := (List.nodup_cons.mp T.nd).2
theorem Tab.nt (T : Tab K mg c) : c.t ∉ c.own := (List.nodup_cons.mp T.nd).1
theorem rowM_at (T : Tab K mg c) {i : Nat} {D : Addr} {l : List Value} (h : c.own[i]? = some D) (hi : i < 14) (hl : ∀ C ∈ c.own, l.contains (.ref C) = false) : rowM c D l = onlyB [i] 14 := by
  have e : rowM c D l = c.own.map fun C => decide (D = C) := List.map_congr_left fun C hC => line_ref (hl C hC)
  rw [e, row_at T.own h]
  exact only_one i hi
theorem no_ve (C : Addr) : veBm.contains (.ref C) = false := by simp [veBm]
theorem no_msg (T : Tab K mg c) : ∀ C ∈ c.own, (Value.ref c.t :: veBm).contains (.ref C) = false := fun C hC => by
  have h : C ≠ c.t := fun z => T.nt (z ▸ hC)
  rw [List.contains_cons, no_ve, Bool.or_false]
  simpa using h
theorem rowM_tree (T : Tab K mg c) : rowM c c.t veBm = List.replicate 14 false := by
  have e : rowM c c.t veBm = c.own.map fun _ => false := List.map_congr_left fun C hC => by
    rw [line_ref (no_ve C)]
    exact decide_eq_false fun z => T.nt (z ▸ hC)
  rw [e]
  rfl
theorem rowB_tree : rowB c c.t veBm = onlyB [0, 1] 8 := by
  unfold rowB
  simp only [line_typ]
  have e : lineB c.t veBm (.ref c.t) = true := by simp [lineB]
  rw [e]
  decide +kernel
theorem typ_cons {t : Addr} {l : List Value} {n : String} : (Value.ref t :: l).contains (.type n) = l.contains (.type n) := by
  rw [List.contains_cons]
  simp
theorem rowB_msg {D : Addr} : rowB c D (.ref c.t :: veBm) = onlyB [0, 1] 8 := by
  unfold rowB
  simp only [line_typ, typ_cons]
  have e : lineB D (.ref c.t :: veBm) (.ref c.t) = true := by simp [lineB]
  rw [e]
  decide +kernel
theorem msg_own {i : Nat} {D : Addr} (h : c.msg[i]? = some D) : c.own[i]? = some D ∧ i < 9 := by
  have hi : i < 9 := (List.getElem?_eq_some_iff.mp h).1
  refine ⟨?_, hi⟩
  have : c.own = c.msg ++ [c.j, c.k, c.l, c.m, c.n] := rfl
  rw [this, List.getElem?_append_left (by exact hi)]
  exact h
theorem Tab.msg (T : Tab K mg c) : ∀ D ∈ c.msg, ECls K D (.ref c.t :: veBm) := by
  simp only [Cs.msg, List.forall_mem_cons]
  exact ⟨T.ea, T.eb, T.ec, T.ed, T.ee, T.ef, T.eg, T.eh, T.ei, fun _ h => by cases h⟩
end
/-! ### messages_right -/
abbrev sMsg : Stmt := top 95
theorem scMsg : FnScope ["_law_told_here", "_law_at", "_law_one"] ["_law_told_here"] (defScope sMsg) := ⟨rfl, rfl, rfl, by decide +kernel, rfl, by decide +kernel, by decide +kernel⟩
def spMsg : Sp := fun vs H Q _ => ∃ v, vs = [v] ∧ ∀ H', Same H H' → Q (.bl true) H'
/-- equal rows of truths are not unlike -/
theorem ne_rows {K : PySem.W.Frag} {H : Hp} {p q : Addr} {bs : List Bool} {Q : VK} (h1 : H p = some (.lst (bs.map V.bl))) (h2 : H q = some (.lst (bs.map V.bl))) (k : Q (.bl false) H) : rNeD K (.ref p) (.ref q) H Q :=
  ⟨_, _, dp_bls h1, dp_bls h2, shaped_bls bs, shaped_bls bs, by rw [eqv_bls]; exact k⟩
section
variable {P : Program} {w : World} {K : PySem.W.Frag} {mg : Str → Option Value} {base : Heap} {c : Cs}
theorem ok_msg {f : Addr} {fd : FuncData} {k : Nat} (F : Fun K "_law_messages_right" "_law_messages_right" sMsg f fd) (T : Tab K mg c) (M : Msgs P K mg c) (GT : Cd P w K mg base (k + 2) "_law_told" ["_law_told_here"] (spTold c)) (GM : Cd P w K mg base (k + 2) "_law_marks" ["_law_one"] (spMk K c)) (GB : Cd P w K mg base (k + 2) "_law_bases" ["_law_one"] (spBs K c)) (GO : Cd P w K mg base (k + 2) "_law_only" ["_law_spots", "_law_total"] (spOnly K)) (mE : mg "enumerate" = none) : FnOk P w K mg base CX0 (k + 3) f fd ["_law_told_here"] spMsg := by
  refine F.ok scMsg (fun vs H Q E h => ?_) (fun cdv A outer s H vs Q E hr h => ?_)
  · obtain ⟨v, rfl, _⟩ := h
    rfl
  · obtain ⟨v, rfl, q⟩ := h
    obtain ⟨_, _, tt⟩ := M.tt
    have hu : (A.deeper (envOfC "_law_messages_right" (defScope sMsg) s.heap.objs.size f cdv)).units + 64 < cLine := by have := hr.un; omega
    refine ⟨_, pss_cons (ps_if (PW.pt (pw_or (pt_cmpR (op_neD hu) (pe_cd GM hr (pa_cons (pe_tree tt hr (pa_cons (pv 0) pa_nil)) pa_nil)) (pe_op op_rep (pe_lst (pa_cons pe_bl pa_nil)) pe_int) (nomark _)) (pw_or1 (pt_cmpR (op_neD hu) (pe_cd GB hr (pa_cons (pe_tree tt hr (pa_cons (pv 0) pa_nil)) pa_nil)) (pe_cd GO hr (pa_cons (pe_tup (pa_cons pe_int (pa_cons pe_int pa_nil))) (pa_cons pe_int pa_nil))) (nomark _))))) (pss_one (ps_ret pe_bl)) pss_nil)
      (pss_cons (ps_for PassesOwn.never rfl (pi_enum rfl mE (pa_cons (pe_cd GT hr (pa_cons (pv 0) pa_nil)) pa_nil)) (pg_tup (by rfl) (pgs_cons (pg_name (i := 1) scMsg.nd rfl (.inl rfl)) (pgs_cons (pg_name (i := 2) scMsg.nd rfl (.inl rfl)) pgs_nil)))
        (pss_one (ps_if (PW.pt (pw_or (pt_cmpR (op_neD hu) (pe_cd GM hr (pa_cons (pv 2) pa_nil)) (pe_cd GO hr (pa_cons (pe_tup (pa_cons (pv 1) pa_nil)) (pa_cons pe_int pa_nil))) (nomark _)) (pw_or1 (pt_cmpR (op_neD hu) (pe_cd GB hr (pa_cons (pv 2) pa_nil)) (pe_cd GO hr (pa_cons (pe_tup (pa_cons pe_int (pa_cons pe_int pa_nil))) (pa_cons pe_int pa_nil))) (nomark _))))) (pss_one (ps_ret pe_bl)) pss_nil)))
      (pss_one (ps_ret pe_bl))), ?_⟩
    refine ⟨v, rfl, _, rfl, fun a1 n1 => ?_⟩
    have e1 : (upd H a1 (ExO (.ref c.t) a1)) a1 = some (ExO (.ref c.t) a1) := upd_same
    have s1 : Same H (upd H a1 (ExO (.ref c.t) a1)) := same_new n1
    generalize upd H a1 (ExO (.ref c.t) a1) = H1 at *
    refine ⟨a1, c.t, veBm, rfl, .inl e1, T.et, fun p1 H2 s2 m1 h1 => ?_⟩
    refine ⟨by show 1 ≤ sizeLine; decide, fun l1 n2 => ?_⟩
    have e3 : (upd H2 l1 (.lst [.bl false])) l1 = some (.lst [.bl false]) := upd_same
    have s3 : Same H2 (upd H2 l1 (.lst [.bl false])) := same_new n2
    generalize upd H2 l1 (.lst [.bl false]) = H3 at *
    refine ⟨l1, 14, _, rfl, rfl, e3, by decide, by decide, by decide, fun l2 n3 => ?_⟩
    have e4 : (upd H3 l2 (.lst (List.replicate (14 : Int).toNat [V.bl false]).flatten)) l2 = some (.lst (List.replicate (14 : Int).toNat [V.bl false]).flatten) := upd_same
    have s4 : Same H3 (upd H3 l2 (.lst (List.replicate (14 : Int).toNat [V.bl false]).flatten)) := same_new n3
    generalize upd H3 l2 (.lst (List.replicate (14 : Int).toNat [V.bl false]).flatten) = H4 at *
    have e4' : H4 l2 = some (.lst ((List.replicate 14 false).map V.bl)) := e4
    rw [rowM_tree T] at h1
    refine ne_rows (s4 _ _ (s3 _ _ h1)) e4' ⟨false, rfl, iteF ?_⟩
    refine ⟨v, rfl, _, rfl, fun a2 n4 => ?_⟩
    have e5 : (upd H4 a2 (ExO (.ref c.t) a2)) a2 = some (ExO (.ref c.t) a2) := upd_same
    have s5 : Same H4 (upd H4 a2 (ExO (.ref c.t) a2)) := same_new n4
    generalize upd H4 a2 (ExO (.ref c.t) a2) = H5 at *
    refine ⟨a2, c.t, veBm, rfl, .inl e5, T.et, fun p2 H6 s6 m2 h2 => ?_⟩
    refine ⟨by show 2 ≤ sizeLine; decide, fun t1 n5 => ?_⟩
    have e7 : (upd H6 t1 (.tup [.int 0, .int 1])) t1 = some (.tup [.int 0, .int 1]) := upd_same
    have s7 : Same H6 (upd H6 t1 (.tup [.int 0, .int 1])) := same_new n5
    generalize upd H6 t1 (.tup [.int 0, .int 1]) = H7 at *
    refine ⟨t1, [0, 1], 8, rfl, tup_of e7, by decide, fun p3 H8 s8 m3 h3 => ?_⟩
    rw [rowB_tree] at h2
    refine ne_rows (s8 _ _ (s7 _ _ h2)) h3 ⟨false, rfl, iteF ?_⟩
    have S8 : Same H H8 := s1.trans (s2.trans (s3.trans (s4.trans (s5.trans (s6.trans (s7.trans s8))))))
    clear m3 h3 e7 n5 s7 s8 h2 m2 s6 e5 n4 s5 e4' e4 n3 s4 s3 n2 e3 h1 m1 s2 e1 n1 s1
    refine ⟨v, rfl, v, rfl, fun l H9 as s9 hl er => ?_⟩
    refine ⟨l, _, rfl, lst_of hl, for_it (walk_enum (xs := as.map V.ref)) (fun i σ H' => ∃ o1 o2 : Option V, σ = [some v, o1, o2] ∧ Same H9 H') ⟨none, none, rfl, Same.refl H9⟩ (fun i σ H' _ ⟨_, _, _, s'⟩ => lst_of (s' _ _ hl)) ?_ ?_⟩
    · rintro i x σ G G' hi ⟨o1, o2, rfl, sG⟩ ⟨t, x1, y, rfl, nt, rfl, ex1, ey⟩
      have ex2 : x1 = .int (i : Nat) := (Option.some.inj ex1).symm
      subst ex2
      have s10 : Same G (upd G t (.tup [.int (i : Nat), y])) := same_new nt
      refine ⟨t, _, rfl, tup_of upd_same, rfl, ?_⟩
      have hi' : i < as.length := by simpa using hi
      have ey : (as.map V.ref)[i]? = some y := ey
      rw [List.getElem?_map, List.getElem?_eq_getElem hi'] at ey
      have ey' : V.ref as[i] = y := Option.some.inj ey
      subst ey'
      obtain ⟨D, hD, eD⟩ := er.at (List.getElem?_eq_getElem hi')
      have EC := T.msg D (List.mem_of_getElem? hD)
      obtain ⟨hO, h9⟩ := msg_own hD
      generalize upd G t (.tup [.int (i : Nat), V.ref as[i]]) = G1 at *
      have sT := sG.trans s10
      refine ⟨_, _, rfl, _, _, rfl, rfl, ?_⟩
      refine ⟨_, rfl, as[i], D, _, rfl, esame eD sT, EC, fun p1 H2 s2 m1 h1 => ?_⟩
      refine ⟨_, rfl, by show 1 ≤ sizeLine; decide, fun t1 n5 => ?_⟩
      have e7 : (upd H2 t1 (.tup [.int (i : Nat)])) t1 = some (.tup [.int (i : Nat)]) := upd_same
      have s7 : Same H2 (upd H2 t1 (.tup [.int (i : Nat)])) := same_new n5
      generalize upd H2 t1 (.tup [.int (i : Nat)]) = H7 at *
      refine ⟨t1, [i], 14, rfl, tup_of e7, by decide, fun p3 H8 s8 m3 h3 => ?_⟩
      rw [rowM_at T hO (by omega) (no_msg T)] at h1
      refine ne_rows (s8 _ _ (s7 _ _ h1)) h3 ⟨false, rfl, iteF ?_⟩
      have sU := sT.trans (s2.trans (s7.trans s8))
      refine ⟨_, rfl, as[i], D, _, rfl, esame eD sU, EC, fun p4 H10 s10' m4 h4 => ?_⟩
      refine ⟨by show 2 ≤ sizeLine; decide, fun t2 n6 => ?_⟩
      have e11 : (upd H10 t2 (.tup [.int 0, .int 1])) t2 = some (.tup [.int 0, .int 1]) := upd_same
      have s11 : Same H10 (upd H10 t2 (.tup [.int 0, .int 1])) := same_new n6
      generalize upd H10 t2 (.tup [.int 0, .int 1]) = H11 at *
      refine ⟨t2, [0, 1], 8, rfl, tup_of e11, by decide, fun p5 H12 s12 m5 h5 => ?_⟩
      rw [rowB_msg] at h4
      refine ne_rows (s12 _ _ (s11 _ _ h4)) h5 ⟨false, rfl, iteF ?_⟩
      exact ⟨_, _, rfl, sU.trans (s10'.trans (s11.trans s12))⟩
    · rintro σ G ⟨o1, o2, rfl, sG⟩
      exact q G (S8.trans (s9.trans sG))
end
end Tf

/-! k00: errors with a value -/
namespace Tf
open PySem PySem.Spec PyProof.Rows L2 TfE TfG TfR
/-- an own error class with a field -/
def FldT (P : Program) (K : PySem.W.Frag) (mg : Str → Option Value) (Bn newId B initId : String) (x n q : Str) (C : Addr) : Prop := (∃ (D fI : Addr) (r1 r2 r3 r4 : Pos), PySem.TfS.SupTxt P K mg Bn newId B initId x n q [PySem.TfSF.fB n n r1 r2 r3 r4] C D fI) ∧ PySem.TfSF.FldTxt K C n ∧ FldGet K C n
structure Fives (P : Program) (K : PySem.W.Frag) (mg : Str → Option Value) (c : Cs) : Prop where
  fj : FldT P K mg "IndexError" "IndexError.__new__" "IndexError" "IndexError.__init__" "InvalidNumber" "value" "InvalidNumber.__init__" c.j
  fk : FldT P K mg "LookupError" "LookupError.__new__" "KeyError" "KeyError.__init__" "UnknownName" "name" "UnknownName.__init__" c.k
  fl : FldT P K mg "OverflowError" "OverflowError.__new__" "OverflowError" "OverflowError.__init__" "TooMany" "limit" "TooMany.__init__" c.l
  fm : FldT P K mg "ArithmeticError" "ArithmeticError.__new__" "ArithmeticError" "ArithmeticError.__init__" "NoFit" "paper" "NoFit.__init__" c.m
  fn : FldT P K mg "LookupError" "LookupError.__new__" "LookupError" "LookupError.__init__" "NothingToUndo" "many" "NothingToUndo.__init__" c.n
theorem pe_mkj {X : Cx} {C : Addr} {a : Expr} {ta : TA} {p pos : Pos} {k : Nat} (T : FldT X.prog X.K X.mg "IndexError" "IndexError.__new__" "IndexError" "IndexError.__init__" "InvalidNumber" "value" "InvalidNumber.__init__" C) (hr : Room k X.A) (ha : PA X [a] ta) (hg : Gl X "InvalidNumber" := by rfl)
    (he : starEach (a :: []) X.env = (false, eval a X.env) :: starEach [] X.env := by rfl) (hpl : (backTo pos (starEach [] X.env)).any (·.1) = false := by rfl) : PE X (.Call (.Name "InvalidNumber" p) [a] [] pos) (tMkW C "value" ta) := by
  obtain ⟨⟨D, fI, r1, r2, r3, r4, S⟩, U, _⟩ := T
  exact pe_fieldV PySem.W.kxs_IndexError (PySem.TfS.init_of PySem.F.excBase_IndexError) PySem.F.excBase_IndexError S U hr ha (by decide +kernel) (by decide +kernel) (by decide +kernel) (by decide +kernel) (by decide +kernel) (fun _ _ _ _ _ _ _ _ _ _ _ _ => rfl) hg (by decide) he hpl
theorem pe_mkk {X : Cx} {C : Addr} {a : Expr} {ta : TA} {p pos : Pos} {k : Nat} (T : FldT X.prog X.K X.mg "LookupError" "LookupError.__new__" "KeyError" "KeyError.__init__" "UnknownName" "name" "UnknownName.__init__" C) (hr : Room k X.A) (ha : PA X [a] ta) (hg : Gl X "UnknownName" := by rfl)
    (he : starEach (a :: []) X.env = (false, eval a X.env) :: starEach [] X.env := by rfl) (hpl : (backTo pos (starEach [] X.env)).any (·.1) = false := by rfl) : PE X (.Call (.Name "UnknownName" p) [a] [] pos) (tMkW C "name" ta) := by
  obtain ⟨⟨D, fI, r1, r2, r3, r4, S⟩, U, _⟩ := T
  exact pe_fieldV PySem.TfKE.kxs PySem.TfKE.initKE PySem.F.excBase_LookupError S U hr ha (by decide +kernel) (by decide +kernel) (by decide +kernel) (by decide +kernel) (by decide +kernel) (fun _ _ _ _ _ _ _ _ _ _ _ _ => rfl) hg (by decide) he hpl
theorem pe_mkl {X : Cx} {C : Addr} {a : Expr} {ta : TA} {p pos : Pos} {k : Nat} (T : FldT X.prog X.K X.mg "OverflowError" "OverflowError.__new__" "OverflowError" "OverflowError.__init__" "TooMany" "limit" "TooMany.__init__" C) (hr : Room k X.A) (ha : PA X [a] ta) (hg : Gl X "TooMany" := by rfl)
    (he : starEach (a :: []) X.env = (false, eval a X.env) :: starEach [] X.env := by rfl) (hpl : (backTo pos (starEach [] X.env)).any (·.1) = false := by rfl) : PE X (.Call (.Name "TooMany" p) [a] [] pos) (tMkW C "limit" ta) := by
  obtain ⟨⟨D, fI, r1, r2, r3, r4, S⟩, U, _⟩ := T
  exact pe_fieldV PySem.W.kxs_OverflowError (PySem.TfS.init_of PySem.F.excBase_OverflowError) PySem.F.excBase_OverflowError S U hr ha (by decide +kernel) (by decide +kernel) (by decide +kernel) (by decide +kernel) (by decide +kernel) (fun _ _ _ _ _ _ _ _ _ _ _ _ => rfl) hg (by decide) he hpl
theorem pe_mkm {X : Cx} {C : Addr} {a : Expr} {ta : TA} {p pos : Pos} {k : Nat} (T : FldT X.prog X.K X.mg "ArithmeticError" "ArithmeticError.__new__" "ArithmeticError" "ArithmeticError.__init__" "NoFit" "paper" "NoFit.__init__" C) (hr : Room k X.A) (ha : PA X [a] ta) (hg : Gl X "NoFit" := by rfl)
    (he : starEach (a :: []) X.env = (false, eval a X.env) :: starEach [] X.env := by rfl) (hpl : (backTo pos (starEach [] X.env)).any (·.1) = false := by rfl) : PE X (.Call (.Name "NoFit" p) [a] [] pos) (tMkW C "paper" ta) := by
  obtain ⟨⟨D, fI, r1, r2, r3, r4, S⟩, U, _⟩ := T
  exact pe_fieldV PySem.W.kxs_ArithmeticError (PySem.TfS.init_of PySem.F.excBase_ArithmeticError) PySem.F.excBase_ArithmeticError S U hr ha (by decide +kernel) (by decide +kernel) (by decide +kernel) (by decide +kernel) (by decide +kernel) (fun _ _ _ _ _ _ _ _ _ _ _ _ => rfl) hg (by decide) he hpl
theorem pe_mkn {X : Cx} {C : Addr} {a : Expr} {ta : TA} {p pos : Pos} {k : Nat} (T : FldT X.prog X.K X.mg "LookupError" "LookupError.__new__" "LookupError" "LookupError.__init__" "NothingToUndo" "many" "NothingToUndo.__init__" C) (hr : Room k X.A) (ha : PA X [a] ta) (hg : Gl X "NothingToUndo" := by rfl)
    (he : starEach (a :: []) X.env = (false, eval a X.env) :: starEach [] X.env := by rfl) (hpl : (backTo pos (starEach [] X.env)).any (·.1) = false := by rfl) : PE X (.Call (.Name "NothingToUndo" p) [a] [] pos) (tMkW C "many" ta) := by
  obtain ⟨⟨D, fI, r1, r2, r3, r4, S⟩, U, _⟩ := T
  exact pe_fieldV PySem.W.kxs_LookupError (PySem.TfS.init_of PySem.F.excBase_LookupError) PySem.F.excBase_LookupError S U hr ha (by decide +kernel) (by decide +kernel) (by decide +kernel) (by decide +kernel) (by decide +kernel) (fun _ _ _ _ _ _ _ _ _ _ _ _ => rfl) hg (by decide) he hpl
def Cs.val (c : Cs) : List Addr := [c.j, c.k, c.l, c.m, c.n]
def spotsV : List (List Nat) := [[2, 6], [3, 6], [4, 5], [5], [6]]
theorem no_ix (C : Addr) : ixBm.contains (.ref C) = false := by simp [ixBm]
theorem no_ke (C : Addr) : PySem.TfKE.keBm.contains (.ref C) = false := by simp [PySem.TfKE.keBm]
theorem no_ov (C : Addr) : ovBm.contains (.ref C) = false := by simp [ovBm]
theorem no_ar (C : Addr) : arBm.contains (.ref C) = false := by simp [arBm]
theorem no_lu (C : Addr) : luBm.contains (.ref C) = false := by simp [luBm]
section
variable {K : PySem.W.Frag} {mg : Str → Option Value} {c : Cs}
theorem Tab.ne (T : Tab K mg c) {D : Addr} (h : D ∈ c.own) : D ≠ c.t := fun z => T.nt (z ▸ h)
theorem rowB_of {D : Addr} {l : List Value} {bs : List Bool} (hD : D ≠ c.t) (hl : l.contains (.ref c.t) = false) (h : [false, l.contains (.type "ValueError"), l.contains (.type "IndexError"), l.contains (.type "KeyError"), l.contains (.type "OverflowError"), l.contains (.type "ArithmeticError"), l.contains (.type "LookupError"), l.contains (.type "RuntimeError")] = bs) : rowB c D l = bs := by
  unfold rowB
  simp only [line_typ]
  rw [line_ref hl, decide_eq_false hD]
  exact h
theorem val_rows (T : Tab K mg c) {i : Nat} {D : Addr} (hD : c.val[i]? = some D) : ∃ l sp, ECls K D l ∧ spotsV[i]? = some sp ∧ rowM c D l = onlyB [9 + i] 14 ∧ rowB c D l = onlyB sp 8 := by
  have hi : i < 5 := (List.getElem?_eq_some_iff.mp hD).1
  have h5 : i = 0 ∨ i = 1 ∨ i = 2 ∨ i = 3 ∨ i = 4 := by omega
  rcases h5 with rfl | rfl | rfl | rfl | rfl
  · obtain rfl : c.j = D := Option.some.inj hD
    exact ⟨ixBm, _, T.ej, rfl, rowM_at T (i := 9) rfl (by decide) (fun C _ => no_ix C), rowB_of (T.ne (List.mem_of_getElem? (i := 9) rfl)) (no_ix _) (by decide +kernel)⟩
  · obtain rfl : c.k = D := Option.some.inj hD
    exact ⟨PySem.TfKE.keBm, _, T.ek, rfl, rowM_at T (i := 10) rfl (by decide) (fun C _ => no_ke C), rowB_of (T.ne (List.mem_of_getElem? (i := 10) rfl)) (no_ke _) (by decide +kernel)⟩
  · obtain rfl : c.l = D := Option.some.inj hD
    exact ⟨ovBm, _, T.el, rfl, rowM_at T (i := 11) rfl (by decide) (fun C _ => no_ov C), rowB_of (T.ne (List.mem_of_getElem? (i := 11) rfl)) (no_ov _) (by decide +kernel)⟩
  · obtain rfl : c.m = D := Option.some.inj hD
    exact ⟨arBm, _, T.em, rfl, rowM_at T (i := 12) rfl (by decide) (fun C _ => no_ar C), rowB_of (T.ne (List.mem_of_getElem? (i := 12) rfl)) (no_ar _) (by decide +kernel)⟩
  · obtain rfl : c.n = D := Option.some.inj hD
    exact ⟨luBm, _, T.en, rfl, rowM_at T (i := 13) rfl (by decide) (fun C _ => no_lu C), rowB_of (T.ne (List.mem_of_getElem? (i := 13) rfl)) (no_lu _) (by decide +kernel)⟩
end
inductive SpAt (H : Hp) : List Addr → List (List Nat) → Prop
  | nil : SpAt H [] []
  | cons {a : Addr} {sp : List Nat} {as : List Addr} {ss : List (List Nat)} (h : H a = some (.tup (sp.map fun (i : Nat) => V.int i))) (r : SpAt H as ss) : SpAt H (a :: as) (sp :: ss)
theorem SpAt.at {H : Hp} : ∀ {as : List Addr} {ss : List (List Nat)} {i : Nat} {sp : List Nat}, SpAt H as ss → ss[i]? = some sp → ∃ a, as[i]? = some a ∧ H a = some (.tup (sp.map fun (i : Nat) => V.int i))
  | _, _, _, _, .nil, e => by simp at e
  | _, _, 0, _, .cons h _, e => by simp at e; subst e; exact ⟨_, rfl, h⟩
  | _, _, i + 1, _, .cons _ r, e => by
    obtain ⟨D, h1, h2⟩ := SpAt.at (i := i) r (by simpa using e)
    exact ⟨D, by simpa using h1, h2⟩
/-! ### the texts are short -/
def shortD (d : PyData) : Bool := d.showable && (decide (d.shown.length ≤ 100) && decide (d.depth ≤ 0))
theorem short_of {d : PyData} (h : shortD d = true) : d.showable = true ∧ d.shown.length ≤ 100 ∧ d.depth = 0 := by
  unfold shortD at h
  rw [Bool.and_eq_true, Bool.and_eq_true] at h
  exact ⟨h.1, of_decide_eq_true h.2.1, by have := of_decide_eq_true h.2.2; omega⟩
def numsV : List V := [.int (-1), .int 9, .int ((10 : Int) ^ (39 : Int).toNat), .int 0]
def namsV : List V := [.str "zz", .str "a", .str "", .str "Ann", .str "two things"]
def limsV : List V := [.int 12, .int 200, .int 400, .int 500, .int 1000, .int 2000]
def txtsV : List V := [.str "a", .str "b", .str "aa"]
def flatD : V → PyData
  | .int i => .int i
  | .str z => .str z
  | _ => .none
theorem nums_short : numsV.all (fun v => shortD (flatD v) && (match v with | .int _ => true | _ => false)) = true := by decide +kernel
theorem nams_short : namsV.all (fun v => shortD (flatD v) && (match v with | .str _ => true | _ => false)) = true := by decide +kernel
theorem lims_short : limsV.all (fun v => shortD (flatD v) && (match v with | .int _ => true | _ => false)) = true := by decide +kernel
theorem txts_short : txtsV.all (fun v => shortD (flatD v) && (match v with | .str _ => true | _ => false)) = true := by decide +kernel
theorem ints30_short : (List.range 30).all (fun (r : Nat) => shortD (.int r)) = true := by decide +kernel
theorem rp_short {H : Hp} {v : V} {l : List V} {f : V → Bool} (h : l.all (fun v => shortD (flatD v) && f v) = true) (hf : ∀ v, f v = true → (∃ i, v = .int i) ∨ ∃ z, v = .str z) (m : v ∈ l) : ∃ d, Rp H v d ∧ shortD d = true ∧ (∀ H', Rp H' v d) := by
  have e := List.all_eq_true.mp h v m
  rw [Bool.and_eq_true] at e
  rcases hf v e.2 with ⟨i, rfl⟩ | ⟨z, rfl⟩
  · exact ⟨_, .int i, e.1, fun _ => .int i⟩
  · exact ⟨_, .str z, e.1, fun _ => .str z⟩
theorem int30_short {r : Int} (h0 : 0 ≤ r) (h1 : r < 30) : shortD (.int r) = true := by
  have e := List.all_eq_true.mp ints30_short r.toNat (List.mem_range.mpr (by omega))
  have e2 : ((r.toNat : Nat) : Int) = r := by omega
  rw [e2] at e
  exact e
theorem text_short {d1 d2 d3 d4 d5 d6 : PyData} (h1 : shortD d1 = true) (h2 : shortD d2 = true) (h3 : shortD d3 = true) (h4 : shortD d4 = true) (h5 : shortD d5 = true) (h6 : shortD d6 = true) :
    PyData.showableAll [d1, d2, d3, .tuple [.str "none", d4, .tuple [.tuple [d5, .str "x"]]], d6] = true ∧ (PyData.shown (.list [d1, d2, d3, .tuple [.str "none", d4, .tuple [.tuple [d5, .str "x"]]], d6])).length ≤ sizeLine ∧ PyData.depth (.list [d1, d2, d3, .tuple [.str "none", d4, .tuple [.tuple [d5, .str "x"]]], d6]) ≤ 100 := by
  obtain ⟨a1, b1, e1⟩ := short_of h1
  obtain ⟨a2, b2, e2⟩ := short_of h2
  obtain ⟨a3, b3, e3⟩ := short_of h3
  obtain ⟨a4, b4, e4⟩ := short_of h4
  obtain ⟨a5, b5, e5⟩ := short_of h5
  obtain ⟨a6, b6, e6⟩ := short_of h6
  have n1 : (PyData.shown (.str "none")).length ≤ 10 := by decide +kernel
  have n2 : (PyData.shown (.str "x")).length ≤ 10 := by decide +kernel
  refine ⟨by simp [PyData.showableAll, PyData.showable, a1, a2, a3, a4, a5, a6], ?_, by simp only [PyData.depth, PyData.depthAll, e1, e2, e3, e4, e5, e6]; decide⟩
  have q1 := tupleText_len_le (PyData.shownAll [d5, .str "x"])
  have q2 := tupleText_len_le (PyData.shownAll [.tuple [d5, .str "x"]])
  have q3 := tupleText_len_le (PyData.shownAll [.str "none", d4, .tuple [.tuple [d5, .str "x"]]])
  have q4 := listText_len_le (PyData.shownAll [d1, d2, d3, .tuple [.str "none", d4, .tuple [.tuple [d5, .str "x"]]], d6])
  simp only [PyData.shownAll, PyData.shown, List.map_cons, List.map_nil, List.sum_cons, List.sum_nil, List.length_cons, List.length_nil] at q1 q2 q3 q4 n1 n2 ⊢
  refine Nat.le_trans (m := 1000) ?_ (by decide)
  omega
/-! ### values_right -/
abbrev sVal : Stmt := top 96
abbrev nVal : List Str := ["_law_dice_here", "_law_number", "_law_name", "_law_limit", "_law_many", "_law_paper", "_law_some", "_law_bases_here", "_law_at", "_law_one", "_law_told_here"]
theorem scVal : FnScope nVal ["_law_dice_here"] (defScope sVal) := ⟨rfl, rfl, rfl, by decide +kernel, rfl, by decide +kernel, by decide +kernel⟩
def spVal : Sp := fun vs H Q _ => ∃ d : Addr, vs = [.ref d] ∧ Dice H d ∧ ∀ H', Nr d H H' → Dice H' d → Q (.bl true) H'
section
variable {P : Program} {w : World} {K : PySem.W.Frag} {mg : Str → Option Value} {base : Heap} {c : Cs}
theorem ok_val {f cV : Addr} {fd : FuncData} {k : Nat} (F : FunC K "_law_values_right" "_law_values_right" sVal f fd cV) (T : Tab K mg c) (M : Fives P K mg c) (GP : Cd P w K mg base (k + 2) "_law_pick" ["_law_dice_here", "_law_items"] (spPick K)) (GR : Cd P w K mg base (k + 2) "_law_roll" ["_law_dice_here", "_law_upto"] spRoll) (GM : Cd P w K mg base (k + 2) "_law_marks" ["_law_one"] (spMk K c)) (GB : Cd P w K mg base (k + 2) "_law_bases" ["_law_one"] (spBs K c)) (GO : Cd P w K mg base (k + 2) "_law_only" ["_law_spots", "_law_total"] (spOnly K)) (mE : mg "enumerate" = none) (mRe : mg "repr" = none) : FnG P w K mg base CX0 (k + 3) f fd ["_law_dice_here"] spVal := by
  refine F.okG scVal (fun vs H Q E h => ?_) (fun A outer s H vs Q E hgu hr h => ?_)
  · obtain ⟨d, rfl, _⟩ := h
    rfl
  · obtain ⟨d, rfl, hd, q⟩ := h
    have gu : (A.deeper (envOfC "_law_values_right" (defScope sVal) s.heap.objs.size f (.ref cV))).guards = some [] := hgu
    have hu : (A.deeper (envOfC "_law_values_right" (defScope sVal) s.heap.objs.size f (.ref cV))).units + 64 < cLine := by have := hr.un; omega
    have hu' : (A.deeper (envOfC "_law_values_right" (defScope sVal) s.heap.objs.size f (.ref cV))).units + 110 < cLine := by have := hr.un; omega
    refine ⟨_, (pss_cons (ps_par (i := 1) (j := 2) rfl scVal.nd rfl rfl (by decide) rfl rfl (pa_cons (pe_cd GP hr (pa_cons (pv 0) (pa_cons (pe_lst (pa_cons (pe_un un_neg pe_int) (pa_cons pe_int (pa_cons (pe_op op_pow pe_int pe_int) (pa_cons pe_int pa_nil))))) pa_nil))) (pa_cons (pe_cd GP hr (pa_cons (pv 0) (pa_cons (pe_lst (pa_cons pe_str (pa_cons pe_str (pa_cons pe_str (pa_cons pe_str (pa_cons pe_str pa_nil)))))) pa_nil))) pa_nil)) rfl)
      (pss_cons (ps_par (i := 3) (j := 4) rfl scVal.nd rfl rfl (by decide) rfl rfl (pa_cons (pe_cd GP hr (pa_cons (pv 0) (pa_cons (pe_lst (pa_cons pe_int (pa_cons pe_int (pa_cons pe_int (pa_cons pe_int (pa_cons pe_int (pa_cons pe_int pa_nil))))))) pa_nil))) (pa_cons (pe_cd GR hr (pa_cons (pv 0) (pa_cons pe_int pa_nil))) pa_nil)) rfl)
      (pss_cons (ps_set (i := 5) scVal.nd rfl (.inl rfl) (pe_tup (pa_cons pe_str (pa_cons (pe_cd GR hr (pa_cons (pv 0) (pa_cons pe_int pa_nil))) (pa_cons (pe_tup (pa_cons (pe_tup (pa_cons (pe_cd GP hr (pa_cons (pv 0) (pa_cons (pe_lst (pa_cons pe_str (pa_cons pe_str (pa_cons pe_str pa_nil)))) pa_nil))) (pa_cons pe_str pa_nil))) pa_nil)) pa_nil)))))
      (pss_cons (ps_set (i := 6) scVal.nd rfl (.inl rfl) (pe_lst (pa_cons (pe_mkj M.fj hr (pa_cons (pv 1) pa_nil)) (pa_cons (pe_mkk M.fk hr (pa_cons (pv 2) pa_nil)) (pa_cons (pe_mkl M.fl hr (pa_cons (pv 3) pa_nil)) (pa_cons (pe_mkm M.fm hr (pa_cons (pv 5) pa_nil)) (pa_cons (pe_mkn M.fn hr (pa_cons (pv 4) pa_nil)) pa_nil)))))))
      (pss_cons (ps_set (i := 7) scVal.nd rfl (.inl rfl) (pe_lst (pa_cons (pe_tup (pa_cons pe_int (pa_cons pe_int pa_nil))) (pa_cons (pe_tup (pa_cons pe_int (pa_cons pe_int pa_nil))) (pa_cons (pe_tup (pa_cons pe_int (pa_cons pe_int pa_nil))) (pa_cons (pe_tup (pa_cons pe_int pa_nil)) (pa_cons (pe_tup (pa_cons pe_int pa_nil)) pa_nil)))))))
      (pss_cons (ps_for PassesOwn.never rfl (pi_enum rfl mE (pa_cons (pv 6) pa_nil)) (pg_tup (by rfl) (pgs_cons (pg_name (i := 8) scVal.nd rfl (.inl rfl)) (pgs_cons (pg_name (i := 9) scVal.nd rfl (.inl rfl)) pgs_nil)))
        (pss_one (ps_if (PW.pt (pw_or (pt_cmpR (op_neD hu) (pe_cd GM hr (pa_cons (pv 9) pa_nil)) (pe_cd GO hr (pa_cons (pe_tup (pa_cons (pe_op op_add pe_int (pv 8)) pa_nil)) (pa_cons pe_int pa_nil))) (nomark _)) (pw_or1 (pt_cmpR (op_neD hu) (pe_cd GB hr (pa_cons (pv 9) pa_nil)) (pe_cd GO hr (pa_cons (pe_ix ix_list (pv 7) (pv 8) (fun _ _ => rfl)) (pa_cons pe_int pa_nil))) (nomark _))))) (pss_one (ps_ret pe_bl)) pss_nil)))
      (pss_cons (ps_set (i := 10) scVal.nd rfl (.inl rfl) (pe_lst (pa_cons (pe_fldV (pe_ix ix_list (pv 6) pe_int (fun _ _ => rfl))) (pa_cons (pe_fldV (pe_ix ix_list (pv 6) pe_int (fun _ _ => rfl))) (pa_cons (pe_fldV (pe_ix ix_list (pv 6) pe_int (fun _ _ => rfl))) (pa_cons (pe_fldV (pe_ix ix_list (pv 6) pe_int (fun _ _ => rfl))) (pa_cons (pe_fldV (pe_ix ix_list (pv 6) pe_int (fun _ _ => rfl))) pa_nil)))))))
      (pss_one (ps_ret (pe_cmpR op_eq (pe_callB (TfR.call_repr_lst gu hu') (by rfl) mRe (by decide +kernel) (pa_cons (pv 10) pa_nil)) (pe_callB (TfR.call_repr_lst gu hu') (by rfl) mRe (by decide +kernel) (pa_cons (pe_lst (pa_cons (pv 1) (pa_cons (pv 2) (pa_cons (pv 3) (pa_cons (pv 5) (pa_cons (pv 4) pa_nil)))))) pa_nil)) (nomark _))))))))))), ?_⟩
    have nd : ∀ {G : Hp} {l : Addr}, Dice G d → G l = none → d ≠ l := fun dc n z => by
      obtain ⟨_, _, _, _, e⟩ := dc
      rw [z, n] at e
      cases e
    have up : ∀ {G G' : Hp}, Dice G d → Same G G' → Dice G' d := fun dc s => by
      obtain ⟨x, y, z, p, e⟩ := dc
      exact ⟨x, y, z, p, s _ _ e⟩
    have sn : ∀ {G G' : Hp}, Same G G' → Nr d G G' := fun s b o _ h => s b o h
    refine ⟨.ref d, rfl, ?_⟩
    have N0 : Nr d H H := Nr.refl d H
    have dc0 := hd
    refine ⟨1, rfl, 10, 39, rfl, rfl, ⟨by decide, by decide, by decide⟩, by show 4 ≤ sizeLine; decide, fun l1 n1 => ?_⟩
    have k1 := nd dc0 n1
    have e1 : (upd H l1 (.lst [.int (-1), .int 9, .int ((10 : Int) ^ (39 : Int).toNat), .int 0])) l1 = some (.lst [.int (-1), .int 9, .int ((10 : Int) ^ (39 : Int).toNat), .int 0]) := upd_same
    have s1 : Same H (upd H l1 (.lst [.int (-1), .int 9, .int ((10 : Int) ^ (39 : Int).toNat), .int 0])) := same_new n1
    generalize upd H l1 (.lst [.int (-1), .int 9, .int ((10 : Int) ^ (39 : Int).toNat), .int 0]) = H1 at *
    refine ⟨d, l1, _, rfl, up dc0 s1, e1, k1, by simp, by show 4 < 1000; decide, fun v1 G1 m1 r1 dc1 => ?_⟩
    have N1 := N0.trans ((sn s1).trans r1)
    clear r1 s1 e1 k1 n1
    refine ⟨.ref d, rfl, ?_⟩
    refine ⟨by show 5 ≤ sizeLine; decide, fun l2 n2 => ?_⟩
    have k2 := nd dc1 n2
    have e2 : (upd G1 l2 (.lst [.str "zz", .str "a", .str "", .str "Ann", .str "two things"])) l2 = some (.lst [.str "zz", .str "a", .str "", .str "Ann", .str "two things"]) := upd_same
    have s2 : Same G1 (upd G1 l2 (.lst [.str "zz", .str "a", .str "", .str "Ann", .str "two things"])) := same_new n2
    generalize upd G1 l2 (.lst [.str "zz", .str "a", .str "", .str "Ann", .str "two things"]) = H2 at *
    refine ⟨d, l2, _, rfl, up dc1 s2, e2, k2, by simp, by show 5 < 1000; decide, fun v2 G2 m2 r2 dc2 => ?_⟩
    have N2 := N1.trans ((sn s2).trans r2)
    clear r2 s2 e2 k2 n2
    refine ⟨v1, v2, rfl, ?_⟩
    refine ⟨.ref d, rfl, ?_⟩
    refine ⟨by show 6 ≤ sizeLine; decide, fun l3 n3 => ?_⟩
    have k3 := nd dc2 n3
    have e3 : (upd G2 l3 (.lst [.int 12, .int 200, .int 400, .int 500, .int 1000, .int 2000])) l3 = some (.lst [.int 12, .int 200, .int 400, .int 500, .int 1000, .int 2000]) := upd_same
    have s3 : Same G2 (upd G2 l3 (.lst [.int 12, .int 200, .int 400, .int 500, .int 1000, .int 2000])) := same_new n3
    generalize upd G2 l3 (.lst [.int 12, .int 200, .int 400, .int 500, .int 1000, .int 2000]) = H3 at *
    refine ⟨d, l3, _, rfl, up dc2 s3, e3, k3, by simp, by show 6 < 1000; decide, fun v3 G3 m3 r3 dc3 => ?_⟩
    have N3 := N2.trans ((sn s3).trans r3)
    clear r3 s3 e3 k3 n3
    refine ⟨.ref d, rfl, d, 30, rfl, dc3, by decide, by decide, fun r4 G4 a4 b4 c4 dc4 => ?_⟩
    have N4 := N3.trans c4
    refine ⟨v3, .int r4, rfl, ?_⟩
    refine ⟨.ref d, rfl, d, 4, rfl, dc4, by decide, by decide, fun r5 G5 a5 b5 c5 dc5 => ?_⟩
    have N5 := N4.trans c5
    refine ⟨.ref d, rfl, ?_⟩
    refine ⟨by show 3 ≤ sizeLine; decide, fun l6 n6 => ?_⟩
    have k6 := nd dc5 n6
    have e6 : (upd G5 l6 (.lst [.str "a", .str "b", .str "aa"])) l6 = some (.lst [.str "a", .str "b", .str "aa"]) := upd_same
    have s6 : Same G5 (upd G5 l6 (.lst [.str "a", .str "b", .str "aa"])) := same_new n6
    generalize upd G5 l6 (.lst [.str "a", .str "b", .str "aa"]) = H6 at *
    refine ⟨d, l6, _, rfl, up dc5 s6, e6, k6, by simp, by show 3 < 1000; decide, fun v6 G6 m6 r6 dc6 => ?_⟩
    have N6 := N5.trans ((sn s6).trans r6)
    clear r6 s6 e6 k6 n6
    clear N0 N1 N2 N3 N4 N5 c4 c5 dc0 dc1 dc2 dc3 dc4 dc5
    refine ⟨by show 2 ≤ sizeLine; decide, fun t1 n1 => ?_⟩
    have e1 : (upd G6 t1 (.tup [v6, .str "x"])) t1 = some (.tup [v6, .str "x"]) := upd_same
    have s1 : Same G6 (upd G6 t1 (.tup [v6, .str "x"])) := same_new n1
    generalize upd G6 t1 (.tup [v6, .str "x"]) = J1 at *
    refine ⟨by show 1 ≤ sizeLine; decide, fun t2 n2 => ?_⟩
    have e2 : (upd J1 t2 (.tup [.ref t1])) t2 = some (.tup [.ref t1]) := upd_same
    have s2 : Same J1 (upd J1 t2 (.tup [.ref t1])) := same_new n2
    generalize upd J1 t2 (.tup [.ref t1]) = J2 at *
    refine ⟨by show 3 ≤ sizeLine; decide, fun t3 n3 => ?_⟩
    have e3 : (upd J2 t3 (.tup [.str "none", .int r5, .ref t2])) t3 = some (.tup [.str "none", .int r5, .ref t2]) := upd_same
    have s3 : Same J2 (upd J2 t3 (.tup [.str "none", .int r5, .ref t2])) := same_new n3
    generalize upd J2 t3 (.tup [.str "none", .int r5, .ref t2]) = J3 at *
    have z1 : Same G6 J3 := s1.trans (s2.trans s3)
    have f1 : J3 t1 = some (.tup [v6, .str "x"]) := s3 _ _ (s2 _ _ e1)
    have f2 : J3 t2 = some (.tup [.ref t1]) := s3 _ _ e2
    clear s1 s2 n1 n2 n3 e1 e2 s3
    refine ⟨_, rfl, _, rfl, fun dj bj ndj nbj nej => ?_⟩
    have exj : (upd (upd J3 dj (.xd [(("value" : Str), v1)])) bj (ExF c.j dj bj)) dj = some (.xd [(("value" : Str), v1)]) := by rw [upd_ne (Ne.symm nej), upd_same]
    have ebj : (upd (upd J3 dj (.xd [(("value" : Str), v1)])) bj (ExF c.j dj bj)) bj = some (ExF c.j dj bj) := upd_same
    have sj : Same J3 (upd (upd J3 dj (.xd [(("value" : Str), v1)])) bj (ExF c.j dj bj)) := (same_new ndj).new (by rw [upd_ne nej]; exact nbj)
    generalize upd (upd J3 dj (.xd [(("value" : Str), v1)])) bj (ExF c.j dj bj) = Kj at *
    clear ndj nbj nej
    refine ⟨_, rfl, _, rfl, fun dk bk ndk nbk nek => ?_⟩
    have exk : (upd (upd Kj dk (.xd [(("name" : Str), v2)])) bk (ExF c.k dk bk)) dk = some (.xd [(("name" : Str), v2)]) := by rw [upd_ne (Ne.symm nek), upd_same]
    have ebk : (upd (upd Kj dk (.xd [(("name" : Str), v2)])) bk (ExF c.k dk bk)) bk = some (ExF c.k dk bk) := upd_same
    have sk : Same Kj (upd (upd Kj dk (.xd [(("name" : Str), v2)])) bk (ExF c.k dk bk)) := (same_new ndk).new (by rw [upd_ne nek]; exact nbk)
    generalize upd (upd Kj dk (.xd [(("name" : Str), v2)])) bk (ExF c.k dk bk) = Kk at *
    clear ndk nbk nek
    refine ⟨_, rfl, _, rfl, fun dl bl ndl nbl nel => ?_⟩
    have exl : (upd (upd Kk dl (.xd [(("limit" : Str), v3)])) bl (ExF c.l dl bl)) dl = some (.xd [(("limit" : Str), v3)]) := by rw [upd_ne (Ne.symm nel), upd_same]
    have ebl : (upd (upd Kk dl (.xd [(("limit" : Str), v3)])) bl (ExF c.l dl bl)) bl = some (ExF c.l dl bl) := upd_same
    have sl : Same Kk (upd (upd Kk dl (.xd [(("limit" : Str), v3)])) bl (ExF c.l dl bl)) := (same_new ndl).new (by rw [upd_ne nel]; exact nbl)
    generalize upd (upd Kk dl (.xd [(("limit" : Str), v3)])) bl (ExF c.l dl bl) = Kl at *
    clear ndl nbl nel
    refine ⟨_, rfl, _, rfl, fun dm bm ndm nbm nem => ?_⟩
    have exm : (upd (upd Kl dm (.xd [(("paper" : Str), .ref t3)])) bm (ExF c.m dm bm)) dm = some (.xd [(("paper" : Str), .ref t3)]) := by rw [upd_ne (Ne.symm nem), upd_same]
    have ebm : (upd (upd Kl dm (.xd [(("paper" : Str), .ref t3)])) bm (ExF c.m dm bm)) bm = some (ExF c.m dm bm) := upd_same
    have sm : Same Kl (upd (upd Kl dm (.xd [(("paper" : Str), .ref t3)])) bm (ExF c.m dm bm)) := (same_new ndm).new (by rw [upd_ne nem]; exact nbm)
    generalize upd (upd Kl dm (.xd [(("paper" : Str), .ref t3)])) bm (ExF c.m dm bm) = Km at *
    clear ndm nbm nem
    refine ⟨_, rfl, _, rfl, fun dn bn ndn nbn nen => ?_⟩
    have exn : (upd (upd Km dn (.xd [(("many" : Str), .int r4)])) bn (ExF c.n dn bn)) dn = some (.xd [(("many" : Str), .int r4)]) := by rw [upd_ne (Ne.symm nen), upd_same]
    have ebn : (upd (upd Km dn (.xd [(("many" : Str), .int r4)])) bn (ExF c.n dn bn)) bn = some (ExF c.n dn bn) := upd_same
    have sn : Same Km (upd (upd Km dn (.xd [(("many" : Str), .int r4)])) bn (ExF c.n dn bn)) := (same_new ndn).new (by rw [upd_ne nen]; exact nbn)
    generalize upd (upd Km dn (.xd [(("many" : Str), .int r4)])) bn (ExF c.n dn bn) = Kn at *
    clear ndn nbn nen
    refine ⟨by show 5 ≤ sizeLine; decide, fun l6 n6 => ?_⟩
    have e6 : (upd Kn l6 (.lst [.ref bj, .ref bk, .ref bl, .ref bm, .ref bn])) l6 = some (.lst [.ref bj, .ref bk, .ref bl, .ref bm, .ref bn]) := upd_same
    have s6 : Same Kn (upd Kn l6 (.lst [.ref bj, .ref bk, .ref bl, .ref bm, .ref bn])) := same_new n6
    generalize upd Kn l6 (.lst [.ref bj, .ref bk, .ref bl, .ref bm, .ref bn]) = L0 at *
    have xbj := (sk.trans (sl.trans (sm.trans (sn.trans s6)))) _ _ ebj
    have xdj := (sk.trans (sl.trans (sm.trans (sn.trans s6)))) _ _ exj
    have xbk := (sl.trans (sm.trans (sn.trans s6))) _ _ ebk
    have xdk := (sl.trans (sm.trans (sn.trans s6))) _ _ exk
    have xbl := (sm.trans (sn.trans s6)) _ _ ebl
    have xdl := (sm.trans (sn.trans s6)) _ _ exl
    have xbm := (sn.trans s6) _ _ ebm
    have xdm := (sn.trans s6) _ _ exm
    have xbn := s6 _ _ ebn
    have xdn := s6 _ _ exn
    have z2 : Same J3 L0 := sj.trans (sk.trans (sl.trans (sm.trans (sn.trans s6))))
    have er : ErrsAt L0 [bj, bk, bl, bm, bn] c.val := .cons (.inr ⟨_, _, xbj, xdj⟩) (.cons (.inr ⟨_, _, xbk, xdk⟩) (.cons (.inr ⟨_, _, xbl, xdl⟩) (.cons (.inr ⟨_, _, xbm, xdm⟩) (.cons (.inr ⟨_, _, xbn, xdn⟩) .nil))))
    clear ebj ebk ebl ebm ebn exj exk exl exm exn sj sk sl sm sn s6 n6
    refine ⟨by show 2 ≤ sizeLine; decide, fun u0 n0 => ?_⟩
    have g0 : (upd L0 u0 (.tup [.int 2, .int 6])) u0 = some (.tup [.int 2, .int 6]) := upd_same
    have s0 : Same L0 (upd L0 u0 (.tup [.int 2, .int 6])) := same_new n0
    generalize upd L0 u0 (.tup [.int 2, .int 6]) = L1 at *
    refine ⟨by show 2 ≤ sizeLine; decide, fun u1 n1 => ?_⟩
    have g1 : (upd L1 u1 (.tup [.int 3, .int 6])) u1 = some (.tup [.int 3, .int 6]) := upd_same
    have s1 : Same L1 (upd L1 u1 (.tup [.int 3, .int 6])) := same_new n1
    generalize upd L1 u1 (.tup [.int 3, .int 6]) = L2 at *
    refine ⟨by show 2 ≤ sizeLine; decide, fun u2 n2 => ?_⟩
    have g2 : (upd L2 u2 (.tup [.int 4, .int 5])) u2 = some (.tup [.int 4, .int 5]) := upd_same
    have s2 : Same L2 (upd L2 u2 (.tup [.int 4, .int 5])) := same_new n2
    generalize upd L2 u2 (.tup [.int 4, .int 5]) = L3 at *
    refine ⟨by show 1 ≤ sizeLine; decide, fun u3 n3 => ?_⟩
    have g3 : (upd L3 u3 (.tup [.int 5])) u3 = some (.tup [.int 5]) := upd_same
    have s3 : Same L3 (upd L3 u3 (.tup [.int 5])) := same_new n3
    generalize upd L3 u3 (.tup [.int 5]) = L4 at *
    refine ⟨by show 1 ≤ sizeLine; decide, fun u4 n4 => ?_⟩
    have g4 : (upd L4 u4 (.tup [.int 6])) u4 = some (.tup [.int 6]) := upd_same
    have s4 : Same L4 (upd L4 u4 (.tup [.int 6])) := same_new n4
    generalize upd L4 u4 (.tup [.int 6]) = L5 at *
    refine ⟨by show 5 ≤ sizeLine; decide, fun l7 n7 => ?_⟩
    have e7 : (upd L5 l7 (.lst [.ref u0, .ref u1, .ref u2, .ref u3, .ref u4])) l7 = some (.lst [.ref u0, .ref u1, .ref u2, .ref u3, .ref u4]) := upd_same
    have s7 : Same L5 (upd L5 l7 (.lst [.ref u0, .ref u1, .ref u2, .ref u3, .ref u4])) := same_new n7
    generalize upd L5 l7 (.lst [.ref u0, .ref u1, .ref u2, .ref u3, .ref u4]) = L6 at *
    have z3 : Same L0 L6 := s0.trans (s1.trans (s2.trans (s3.trans (s4.trans s7))))
    have sp : SpAt L6 [u0, u1, u2, u3, u4] spotsV := .cons (s7 _ _ (s4 _ _ (s3 _ _ (s2 _ _ (s1 _ _ g0))))) (.cons (s7 _ _ (s4 _ _ (s3 _ _ (s2 _ _ g1)))) (.cons (s7 _ _ (s4 _ _ (s3 _ _ g2))) (.cons (s7 _ _ (s4 _ _ g3)) (.cons (s7 _ _ g4) .nil))))
    have e6' := z3 _ _ e6
    clear n0 n1 n2 n3 n4 n7 g0 g1 g2 g3 g4 s0 s1 s2 s3 s4 s7
    refine ⟨.ref l6, rfl, l6, _, rfl, lst_of e6', for_it (walk_enum (xs := [.ref bj, .ref bk, .ref bl, .ref bm, .ref bn])) (fun i σ H' => ∃ o8 o9 : Option V, σ = [some (.ref d), some v1, some v2, some v3, some (.int r4), some (.ref t3), some (.ref l6), some (.ref l7), o8, o9, none] ∧ Same L6 H') ⟨none, none, rfl, Same.refl L6⟩ (fun i σ H' _ ⟨_, _, _, s'⟩ => lst_of (s' _ _ e6')) ?_ ?_⟩
    · rintro i x σ G G' hi ⟨o1, o2, rfl, sG⟩ ⟨t, x1, y, rfl, nt, rfl, ex1, ey⟩
      have ex2 : x1 = .int (i : Nat) := (Option.some.inj ex1).symm
      subst ex2
      have s10 : Same G (upd G t (.tup [.int (i : Nat), y])) := same_new nt
      refine ⟨t, _, rfl, tup_of upd_same, rfl, ?_⟩
      have hi' : i < [bj, bk, bl, bm, bn].length := hi
      have ey : ([bj, bk, bl, bm, bn].map V.ref)[i]? = some y := ey
      rw [List.getElem?_map, List.getElem?_eq_getElem hi'] at ey
      have ey' : V.ref [bj, bk, bl, bm, bn][i] = y := Option.some.inj ey
      subst ey'
      obtain ⟨D, hD, eD⟩ := er.at (List.getElem?_eq_getElem hi')
      obtain ⟨ln, sps, EC, hsp, rM, rB⟩ := val_rows T hD
      obtain ⟨u, hu1, hu2⟩ := sp.at hsp
      generalize [bj, bk, bl, bm, bn][i] = b at *
      generalize upd G t (.tup [.int (i : Nat), V.ref b]) = G1 at *
      have sT := sG.trans s10
      refine ⟨_, _, rfl, _, _, rfl, rfl, ?_⟩
      refine ⟨_, rfl, b, D, _, rfl, esame eD (z3.trans sT), EC, fun p1 H2 s2 m1 h1 => ?_⟩
      refine ⟨_, rfl, 9, (i : Int), rfl, rfl, by show 1 ≤ sizeLine; decide, fun t1 n5 => ?_⟩
      have e7' : (upd H2 t1 (.tup [.int (9 + (i : Int))])) t1 = some (.tup [.int (9 + (i : Int))]) := upd_same
      have s7 : Same H2 (upd H2 t1 (.tup [.int (9 + (i : Int))])) := same_new n5
      generalize upd H2 t1 (.tup [.int (9 + (i : Int))]) = H7 at *
      have e9 : (9 : Int) + (i : Int) = ((9 + i : Nat) : Int) := by omega
      rw [e9] at e7'
      refine ⟨t1, [9 + i], 14, rfl, tup_of e7', by decide, fun p3 H8 s8 m3 h3 => ?_⟩
      rw [rM] at h1
      refine ne_rows (s8 _ _ (s7 _ _ h1)) h3 ⟨false, rfl, iteF ?_⟩
      have sU := sT.trans (s2.trans (s7.trans s8))
      refine ⟨_, rfl, b, D, _, rfl, esame eD (z3.trans sU), EC, fun p4 H10 s10' m4 h4 => ?_⟩
      have i5 : i < 5 := hi
      refine ⟨.ref l7, rfl, _, rfl, l7, _, (i : Int), .ref u, rfl, rfl, lst_of (s10' _ _ (sU _ _ e7)), at_of (j := i) (by omega) (show ([u0, u1, u2, u3, u4].map V.ref)[i]? = some (.ref u) by rw [List.getElem?_map, hu1]; rfl), ?_⟩
      refine ⟨u, sps, 8, rfl, tup_of (s10' _ _ (sU _ _ hu2)), by decide, fun p5 H12 s12 m5 h5 => ?_⟩
      rw [rB] at h4
      refine ne_rows (s12 _ _ h4) h5 ⟨false, rfl, iteF ?_⟩
      exact ⟨_, _, rfl, sU.trans (s10'.trans s12)⟩
    rintro σ G ⟨o8, o9, rfl, sG⟩
    refine ⟨.ref l6, rfl, l6, _, 0, .ref bj, rfl, rfl, lst_of (sG _ _ e6'), rfl, bj, c.j, dj, _, rfl, sG _ _ (z3 _ _ xbj), sG _ _ (z3 _ _ xdj), M.fj.2.2, ?_⟩
    refine ⟨.ref l6, rfl, l6, _, 1, .ref bk, rfl, rfl, lst_of (sG _ _ e6'), rfl, bk, c.k, dk, _, rfl, sG _ _ (z3 _ _ xbk), sG _ _ (z3 _ _ xdk), M.fk.2.2, ?_⟩
    refine ⟨.ref l6, rfl, l6, _, 2, .ref bl, rfl, rfl, lst_of (sG _ _ e6'), rfl, bl, c.l, dl, _, rfl, sG _ _ (z3 _ _ xbl), sG _ _ (z3 _ _ xdl), M.fl.2.2, ?_⟩
    refine ⟨.ref l6, rfl, l6, _, 3, .ref bm, rfl, rfl, lst_of (sG _ _ e6'), rfl, bm, c.m, dm, _, rfl, sG _ _ (z3 _ _ xbm), sG _ _ (z3 _ _ xdm), M.fm.2.2, ?_⟩
    refine ⟨.ref l6, rfl, l6, _, 4, .ref bn, rfl, rfl, lst_of (sG _ _ e6'), rfl, bn, c.n, dn, _, rfl, sG _ _ (z3 _ _ xbn), sG _ _ (z3 _ _ xdn), M.fn.2.2, ?_⟩
    refine ⟨by show 5 ≤ sizeLine; decide, fun l10 n10 => ?_⟩
    have e10 : (upd G l10 (.lst [v1, v2, v3, .ref t3, .int r4])) l10 = some (.lst [v1, v2, v3, .ref t3, .int r4]) := upd_same
    have s10 : Same G (upd G l10 (.lst [v1, v2, v3, .ref t3, .int r4])) := same_new n10
    generalize upd G l10 (.lst [v1, v2, v3, .ref t3, .int r4]) = G7 at *
    have isI : ∀ v : V, (match v with | .int _ => true | _ => false) = true → (∃ i, v = .int i) ∨ ∃ z, v = .str z := fun v h => by
      cases v with
      | int i => exact .inl ⟨i, rfl⟩
      | _ => cases h
    have isS : ∀ v : V, (match v with | .str _ => true | _ => false) = true → (∃ i, v = .int i) ∨ ∃ z, v = .str z := fun v h => by
      cases v with
      | str z => exact .inr ⟨z, rfl⟩
      | _ => cases h
    obtain ⟨D1, _, h1, q1⟩ := rp_short (H := G7) nums_short isI m1
    obtain ⟨D2, _, h2, q2⟩ := rp_short (H := G7) nams_short isS m2
    obtain ⟨D3, _, h3, q3⟩ := rp_short (H := G7) lims_short isI m3
    obtain ⟨D6, _, h6, q6⟩ := rp_short (H := G7) txts_short isS m6
    have h4 := int30_short a4 b4
    have h5 := int30_short a5 (show r5 < 30 by omega)
    obtain ⟨w1, w2, w3⟩ := text_short h1 h2 h3 h5 h6 h4
    have sE : Same J3 G7 := z2.trans (z3.trans (sG.trans s10))
    have rp : ∀ {G' : Hp}, Same G7 G' → RpAll G' [v1, v2, v3, .ref t3, .int r4] [D1, D2, D3, .tuple [.str "none", .int r5, .tuple [.tuple [D6, .str "x"]]], .int r4] := fun {G'} s' =>
      .cons (q1 _) (.cons (q2 _) (.cons (q3 _) (.cons (.tup (s' _ _ (sE _ _ e3)) (.cons (.str _) (.cons (.int _) (.cons (.tup (s' _ _ (sE _ _ f2)) (.cons (.tup (s' _ _ (sE _ _ f1)) (.cons (q6 _) (.cons (.str _) .nil))) .nil)) .nil)))) (.cons (.int _) .nil))))
    refine ⟨.ref l10, rfl, l10, _, D1, _, rfl, e10, rp (Same.refl G7), w1, w2, w3, ?_⟩
    refine ⟨v1, rfl, v2, rfl, v3, rfl, .ref t3, rfl, .int r4, rfl, by show 5 ≤ sizeLine; decide, fun l11 n11 => ?_⟩
    have e11 : (upd G7 l11 (.lst [v1, v2, v3, .ref t3, .int r4])) l11 = some (.lst [v1, v2, v3, .ref t3, .int r4]) := upd_same
    have s11 : Same G7 (upd G7 l11 (.lst [v1, v2, v3, .ref t3, .int r4])) := same_new n11
    generalize upd G7 l11 (.lst [v1, v2, v3, .ref t3, .int r4]) = G8 at *
    refine ⟨l11, _, D1, _, rfl, e11, rp s11, w1, w2, w3, ?_⟩
    refine ⟨rfl, ?_⟩
    rw [decide_eq_true rfl]
    have zz : Same G6 G8 := z1.trans (sE.trans s11)
    exact q G8 (N6.trans (fun b o _ h => zz b o h)) (up dc6 zz)
end
end Tf

/-! k00: _law_taken(lambda: ..) -/
namespace Tf
open PySem PySem.Spec PyProof.Rows L2 TfE LamX LamN
abbrev sTk : Stmt := top 97
abbrev nTk : List Str := ["_law_call", "e"]
theorem scTk : FnScope nTk ["_law_call"] (defScope sTk) := ⟨rfl, rfl, rfl, by decide +kernel, rfl, by decide +kernel, by decide +kernel⟩
/-- the marks are told of an error -/
def eTk (K : PySem.W.Frag) (c : Cs) (Q : VK) : XK := fun cls d H => ∃ (D : Addr) (l : List Value), cls = .ref D ∧ d = none ∧ ECls K D l ∧ lineB D l (.ref c.t) = true ∧ ∀ p H', Same H H' → H p = none → H' p = some (.lst ((rowM c D l).map V.bl)) → Q (.ref p) H'
def TTk (K : PySem.W.Frag) (c : Cs) : (XK → Hp → VK → Prop) → List V → Hp → VK → Prop := fun tl vs H Q => vs = [] ∧ tl (eTk K c Q) H (fun _ H' => 0 ≤ sizeLine ∧ ∀ l, H' l = none → Q (.ref l) (upd H' l (.lst [])))
/-- what the suite asks -/
def spTk (K : PySem.W.Frag) (c : Cs) (a : Addr) (cls : Value) (d : Option Addr) : Sp := fun vs H Q _ => ∃ (D : Addr) (l : List Value), vs = [.ref a] ∧ cls = .ref D ∧ d = none ∧ ECls K D l ∧ ∀ p H', Same H H' → H p = none → H' p = some (.lst ((rowM c D l).map V.bl)) → Q (.ref p) H'
def CdP (P : Program) (w : World) (K : PySem.W.Frag) (mg : Str → Option Value) (base : Heap) (k : Nat) (x : Str) (ps : List Str) (sp : Addr × Obj → Sp) : Prop := ∃ (f : Addr) (fd : FuncData), FnP P w K mg base k f fd ps sp ∧ Binds K fd ps [] ∧ mg x = some (.ref f) ∧ PySem.W.keepIn K (.ref f) = true
theorem exm_line {K : PySem.W.Frag} {mg : Str → Option Value} {c : Cs} {D : Addr} {l : List Value} (T : Tab K mg c) (E : ECls K D l) : PySem.W.exmOne K (.ref D) (.ref c.t) = some (lineB D l (.ref c.t)) := PySem.W.exm_ref T.et.ex.hs T.et.ex.hd T.et.ty (mro_line E)
section
variable {X : Cx} {c : Cs}
theorem tk_gives {g : Addr} {k : Nat} (T : Tab X.K X.mg c) (GM : CdP X.prog X.w X.K X.mg X.base k "_law_marks" ["_law_one"] (spMkP X.K c)) (hr : Room (k + 1) X.A) (q : Str) (cdg : Value) : Gives X nTk "_law_taken" (defScope sTk) g cdg (defBody sTk) "_law_call" q (TTk X.K c) := by
  intro f c' s H Q tl vs act hc h
  obtain ⟨rfl, h⟩ := h
  obtain ⟨fM, fdM, HM, bM, gM, kM⟩ := GM
  have hr' : Room k (X.A.deeper (envOfC "_law_taken" (defScope sTk) s.heap.objs.size g cdg)) := hr.deeper _
  refine ⟨_, pss_cons (L2N.ps_try_as (X := (cxOf L2.CX0 X.prog X.w X.K X.mg X.base nTk "_law_taken" (defScope sTk) g cdg X.A X.stack s H E0).nox) (i := 1) (c := .ref c.t) (Wout := fun _ _ _ _ => False)
      (tb := fun W D σ H => ∃ Ech : XK, σ[0]? = some (some (.ref f)) ∧ H c' = some (CodeO c' q) ∧ (∀ cls d H', Ech cls d H' → W cls d σ H') ∧ tl Ech H (fun v H' => D.nx σ H'))
      (ts := fun a cls d => tRet (fun σ H Q => ∃ v, σ[1]? = some (some v) ∧ spTk X.K c a cls d [v] H Q E0))
      rfl rfl scTk.nd rfl rfl ⟨rfl, by decide, .inl T.gt⟩ L2N.takes0 (fun W pn xe tk _ => ?_) (fun a oe cls d pn zn hv => ?_))
    (pss_one (ps_ret (pe_lst pa_nil))), ?_⟩
  · refine ⟨fun pins s' σ H' D I h' => ?_⟩
    obtain ⟨Ech, h1, h2, hW, h3⟩ := h'
    have hp := fun p1 p2 => act W pn xe Ech p1 p2 tk
    exact (pss_one (ps_expr (hp _ _))).run pins s' σ H' D I ⟨h1, h2, hW, h3⟩
  · obtain ⟨vs, ev⟩ := hv
    refine pss_one (ps_ret ⟨fun pins s' σ H' Q' I h' => ?_⟩)
    obtain ⟨v, hv, D, l, e1, e2, e3, EC, hq⟩ := h'
    subst e2 e3
    refine (pe_callP (X := ((cxOf L2.CX0 X.prog X.w X.K X.mg X.base nTk "_law_taken" (defScope sTk) g cdg X.A X.stack s H E0).nox).suite a ((a, oe) :: pn)) (p := (a, oe)) (k := k) HM ⟨hr'.dp, hr'.un⟩ ⟨rfl, vs, ev, zn.2.2 vs ev⟩ List.mem_cons_self (by rfl) gM kM bM (pa_cons (pv 1) pa_nil)).run pins s' σ H' Q' I ⟨v, hv, D, l, e1, zn.zc, EC, hq⟩
  · refine ⟨eTk X.K c Q, rfl, hc, fun cls d H' e => ?_, ?_⟩
    · obtain ⟨D, l, rfl, rfl, EC, ht, hq⟩ := e
      exact ⟨true, (exm_line T EC).trans (by rw [ht]), fun _ a na => ⟨.ref a, rfl, D, l, rfl, rfl, rfl, EC, hq⟩, fun z => Bool.noConfusion z⟩
    · exact h
/-- _law_taken(lambda: body) -/
theorem pe_taken {T' : List (Addr × Str)} {g cd Pt : Addr} {fd : FuncData} {k : Nat} {params : Arguments} {body : Expr} {scope sc : Scope} {t : XK → TE} {p lpos pos : Pos} (T : Tab X.K X.mg c) (F : Fun X.K "_law_taken" "_law_taken" sTk g fd) (bF : Binds X.K fd ["_law_call"] []) (gF : X.mg "_law_taken" = some (.ref g))
    (GM : CdP X.prog X.w X.K X.mg X.base (k + 1) "_law_marks" ["_law_one"] (spMkP X.K c)) (TB : TabB X.base X.mg cd Pt) (hcode : X.env.code = .ref cd)
    (hmT : (Pt, X.env.qual ++ "<lambda>") ∈ T') (hu : ∀ p ∈ T', p.1 = Pt → p.2 = X.env.qual ++ "<lambda>") (hr : Room (k + 2) X.A)
    (hbody : ∀ (A : Around) (outer : List Env) (s : Shared) (H : Hp) (E : XK) (f c : Addr), Room k (A.deeper (lamEnv X scope s.heap.objs.size f c)) → PE (cxB X A outer s H E scope f c) body (t E))
    (L : lamSB sc scope = true := by decide +kernel) (hsc : X.env.scope = sc := by rfl) (hg : Gl X "_law_taken" := by rfl) (hdef : defaultsOf params X.env = ([], []) := by rfl)
    (hbind : ∀ (q : Str) (cl : List (Str × Addr)) (pm cv ctv : Value), bindArgs (PySem.W.kla_fn "<lambda>" q params body scope cl pm cv ctv) ⟨[], []⟩ = pure [] := by intros; rfl)
    (hs : X.stack = X.env :: X.outer := by rfl) (hfm : X.env.frame = some X.env.locals := by rfl) :
    PE X (.Call (.Name "_law_taken" p) [.Lambda params body scope lpos] [] pos) (tGive T' (TTk X.K c) (X.env.qual ++ "<lambda>") 0 t tNil) := by
  subst hsc
  exact pe_give (N := nTk) (as := []) F hg gF bF scTk rfl (.inl rfl) (fun cdv => tk_gives T GM hr _ cdv) TB hcode hmT hu hr (lamS_by L) hbody pa_nil hdef hbind hs hfm
end
end Tf

/-! stores and questions that are refused -/
namespace Tf
open PySem PySem.Spec PyProof.Rows L2
abbrev sRL : Stmt := top 24
abbrev sPr : Stmt := top 54
abbrev sCk : Stmt := top 56
abbrev sFnd : Stmt := top 74
abbrev sIfm : Stmt := top 75
abbrev sSto (i : Nat) : Stmt := (match top 60 with | .ClassDef (body := b) .. => b | _ => []).getD i (.Pass ⟨0, 0, 0, 0⟩)
abbrev sQue (i : Nat) : Stmt := (match top 85 with | .ClassDef (body := b) .. => b | _ => []).getD i (.Pass ⟨0, 0, 0, 0⟩)
abbrev sSin : Stmt := sSto 0
abbrev sSof : Stmt := sSto 1
abbrev sQof : Stmt := sQue 1
theorem scRL : FnScope ["language"] ["language"] (defScope sRL) := ⟨rfl, rfl, rfl, by decide +kernel, rfl, by decide +kernel, by decide +kernel⟩
theorem scPr : FnScope ["language", "things", "pair", "marks", "links"] ["language", "things", "pair"] (defScope sPr) := ⟨rfl, rfl, rfl, by decide +kernel, rfl, by decide +kernel, by decide +kernel⟩
theorem scCk : FnScope ["language", "things", "thing", "found", "marks", "links"] ["language", "things"] (defScope sCk) := ⟨rfl, rfl, rfl, by decide +kernel, rfl, by decide +kernel, by decide +kernel⟩
theorem scFnd : FnScope ["language", "value", "marks", "branches"] ["language", "value"] (defScope sFnd) := ⟨rfl, rfl, rfl, by decide +kernel, rfl, by decide +kernel, by decide +kernel⟩
theorem scIfm : FnScope ["language", "value", "waiting", "size", "form", "levels"] ["language", "value"] (defScope sIfm) := ⟨rfl, rfl, rfl, by decide +kernel, rfl, by decide +kernel, by decide +kernel⟩
theorem scSin : FnScope ["self", "language", "things"] ["self", "language", "things"] (defScope sSin) := ⟨rfl, rfl, rfl, by decide +kernel, rfl, by decide +kernel, by decide +kernel⟩
theorem scSof : FnScope ["cls", "language", "things"] ["cls", "language", "things"] (defScope sSof) := ⟨rfl, rfl, rfl, by decide +kernel, rfl, by decide +kernel, by decide +kernel⟩
theorem scQof : FnScope ["cls", "language", "form"] ["cls", "language", "form"] (defScope sQof) := ⟨rfl, rfl, rfl, by decide +kernel, rfl, by decide +kernel, by decide +kernel⟩
/-! ### a def that may raise, by its name -/
def CdX (P : Program) (w : World) (K : PySem.W.Frag) (mg : Str → Option Value) (base : Heap) (k : Nat) (x : Str) (ps : List Str) (sp : Sp) : Prop := ∃ (f : Addr) (fd : FuncData), FnOk P w K mg base (L2N.CX P w) k f fd ps sp ∧ Binds K fd ps [] ∧ mg x = some (.ref f) ∧ PySem.W.keepIn K (.ref f) = true
theorem pe_cdx {X : Cx} {k : Nat} {x : Str} {ps : List Str} {sp : Sp} {E : XK} {e : Expr} {es : List Expr} {t : TA} {p pos : Pos} (F : CdX X.prog X.w X.K X.mg X.base k x ps sp) (hr : Room k X.A) (hx : Passes (L2N.CX X.prog X.w) X E) (ha : PA X (e :: es) t) (hg : Gl X x := by rfl) (hdb : (x == ("__debug__" : Str)) = false := by decide)
    (he : starEach (e :: es) X.env = (false, eval e X.env) :: starEach es X.env := by rfl) (hpl : (backTo pos (starEach es X.env)).any (·.1) = false := by rfl) : PE X (.Call (.Name x p) (e :: es) [] pos) (tCall sp [] E t) := by
  obtain ⟨f, fd, G, b, g, kp⟩ := F
  exact pe_call G hr hg g kp b .nil hx ha hdb he hpl
/-- a def that does not raise -/
def CdN (P : Program) (w : World) (K : PySem.W.Frag) (mg : Str → Option Value) (base : Heap) (k : Nat) (x : Str) (ps : List Str) (sp : Sp) : Prop := ∃ (f : Addr) (fd : FuncData), FnOk P w K mg base CX0 k f fd ps sp ∧ Binds K fd ps [] ∧ mg x = some (.ref f) ∧ PySem.W.keepIn K (.ref f) = true
theorem pe_cdn {X : Cx} {k : Nat} {x : Str} {ps : List Str} {sp : Sp} {e : Expr} {es : List Expr} {t : TA} {p pos : Pos} (F : CdN X.prog X.w X.K X.mg X.base k x ps sp) (hr : Room k X.A) (ha : PA X (e :: es) t) (hg : Gl X x := by rfl) (hdb : (x == ("__debug__" : Str)) = false := by decide)
    (he : starEach (e :: es) X.env = (false, eval e X.env) :: starEach es X.env := by rfl) (hpl : (backTo pos (starEach es X.env)).any (·.1) = false := by rfl) : PE X (.Call (.Name x p) (e :: es) [] pos) (tCall sp [] E0 t) := by
  obtain ⟨f, fd, G, b, g, kp⟩ := F
  exact pe_call G hr hg g kp b .nil pass0 ha hdb he hpl
/-! ### the promises -/
def NoLg (K : PySem.W.Frag) (C : Addr) (H : Hp) (x : V) : Prop := ∃ t : String, TyX K H x (.type t) ∧ PySem.W.kitOne K (.type t) (.ref C) = some false
def spRL (K : PySem.W.Frag) (C CI : Addr) : Sp := fun vs H Q E => ∃ x, vs = [x] ∧ ((NoLg K C H x ∧ E (.ref CI) none H) ∨ ∃ (a dx : Addr) (fs : List (Str × V)), x = .ref a ∧ H a = some (.ins C dx fs) ∧ Q .non H)
/-- no pair -/
def OdP (K : PySem.W.Frag) (H : Hp) (x : V) : Prop := NoTup K H x ∨ ∃ (a : Addr) (xs : List V), x = .ref a ∧ SqT K H a xs ∧ xs.length ≠ 2
def spPr (K : PySem.W.Frag) (CS : Addr) : Sp := fun vs H _ E => ∃ l t x, vs = [l, t, x] ∧ OdP K H x ∧ E (.ref CS) none H
/-- all but t stays -/
def spCk (K : PySem.W.Frag) (CS : Addr) : Sp := fun vs H _ E => ∃ (l x : V) (t : Addr), vs = [l, .ref t] ∧ H t = some (.dK [(Sum.inr ("one" : Str), x)]) ∧ (∀ H', Nr t H H' → OdP K H' x) ∧ ∀ H', Nr t H H' → E (.ref CS) none H'
def spSof (K : PySem.W.Frag) (C CS : Addr) : Sp := fun vs H _ E => ∃ (c x : V) (a dx t : Addr) (fs : List (Str × V)), vs = [c, .ref a, .ref t] ∧ H a = some (.ins C dx fs) ∧ H t = some (.dK [(Sum.inr ("one" : Str), x)]) ∧ (∀ H', Nr t H H' → OdP K H' x) ∧ ∀ H', Nr t H H' → E (.ref CS) none H'
def spSin (K : PySem.W.Frag) (C CI : Addr) : Sp := fun vs H _ E => ∃ (s x t : V), vs = [s, x, t] ∧ NoLg K C H x ∧ E (.ref CI) none H
def spFnd (K : PySem.W.Frag) : Sp := fun vs H Q _ => ∃ l x, vs = [l, x] ∧ NoTup K H x ∧ Q (.bl false) H
def spIfm : Sp := fun vs H Q _ => ∃ (l : V) (i : Int), vs = [l, .int i] ∧ ∀ H', Same H H' → Q (.bl false) H'
def spQof (K : PySem.W.Frag) (C CQ : Addr) : Sp := fun vs H _ E => ∃ (c : V) (a dx : Addr) (fs : List (Str × V)) (i : Int), vs = [c, .ref a, .int i] ∧ H a = some (.ins C dx fs) ∧ ∀ H', Same H H' → E (.ref CQ) none H'
section
variable {P : Program} {w : World} {K : PySem.W.Frag} {mg : Str → Option Value} {base : Heap}
theorem ok_rl {f CI CT fI C : Addr} {fd : FuncData} {k : Nat} (F : Fun K "require_language" "require_language" sRL f fd) (L : LCls K C) (I : LIs K C) (T : TreeTxt P K mg "InvalidLanguage" CI CT fI) (gC : mg "Language" = some (.ref C)) (mI : mg "isinstance" = none) : FnOk P w K mg base (L2N.CX P w) (k + 1) f fd ["language"] (spRL K C CI) := by
  refine F.okN scRL (fun vs H Q E h => ?_) (fun cdv A outer s H vs Q E hr h => ?_)
  · obtain ⟨x, rfl, _⟩ := h
    rfl
  · obtain ⟨x, rfl, h⟩ := h
    refine ⟨_, pss_one (ps_if (pt_not (pt_val (pe_callB call_isi (by rfl) mI (by decide +kernel) (pa_cons (pv 0) (pa_cons (pe_glob (v := .ref C) rfl gC rfl) pa_nil)))))
        (pss_one (L2N.ps_raise rfl (L2N.takes_of rfl rfl rfl rfl) (pmk_tree T hr (pa_cons pe_str pa_nil)))) pss_nil), ?_⟩
    rcases h with ⟨⟨t, ht, kt⟩, q⟩ | ⟨a, dx, fs, rfl, ha, q⟩
    · exact ⟨x, rfl, x, .ref C, .type t, .ref C, false, rfl, .own C, ht, kt, false, rfl, iteT ⟨_, rfl, q⟩⟩
    · exact ⟨.ref a, rfl, .ref a, .ref C, .ref C, .ref C, true, rfl, .own C, .base (.ins ha L.cl I.ha I.hn I.ht I.hm), I.me, true, rfl, iteF q⟩
theorem ok_pr {f CS CT fI : Addr} {fd : FuncData} {k : Nat} (F : Fun K "require_pair" "require_pair" sPr f fd) (T : TreeTxt P K mg "InvalidStore" CS CT fI) (mI : mg "isinstance" = none) (mT : mg "tuple" = none) (mL : mg "len" = none) : FnOk P w K mg base (L2N.CX P w) (k + 1) f fd ["language", "things", "pair"] (spPr K CS) := by
  refine F.okN scPr (fun vs H Q E h => ?_) (fun cdv A outer s H vs Q E hr h => ?_)
  · obtain ⟨l, t, x, rfl, _⟩ := h
    rfl
  · obtain ⟨l, t, x, rfl, h, q⟩ := h
    refine ⟨_, pss_cons (ps_if (PW.pt (pw_or (pt_not (pt_val (pe_callB call_isi (by rfl) mI (by decide +kernel) (pa_cons (pv 2) (pa_cons (pe_bltn (v := .ty "tuple") (by rfl) mT (by decide +kernel) rfl) pa_nil))))) (pw_or1 (pt_cmpR op_ne (pe_callB call_len_seq (by rfl) mL PySem.boot_len (pa_cons (pv 2) pa_nil)) pe_int (nomark _)))))
        (pss_one (L2N.ps_raise rfl (L2N.takes_of rfl rfl rfl rfl) (pmk_tree T hr (pa_cons pe_str pa_nil)))) pss_nil)
      (pss_cons ps_off (pss_cons ps_off (pss_cons ps_off (pss_one ps_off)))), ?_⟩
    rcases h with ⟨ty, ht, kt⟩ | ⟨a, xs, rfl, ha, hl⟩
    · exact ⟨x, rfl, x, .ty "tuple", ty, .type "tuple", false, rfl, .ty _, ht, kt, false, rfl, iteT (iteT ⟨_, rfl, q⟩)⟩
    · refine ⟨.ref a, rfl, .ref a, .ty "tuple", .type "tuple", .type "tuple", true, rfl, .ty _, ty_tup ha, kit_ty (by decide +kernel), true, rfl, iteF ?_⟩
      refine ⟨.ref a, rfl, a, xs, rfl, .inr ha, rfl, ?_⟩
      have e : decide (V.int (xs.length : Int) = V.int 2) = false := decide_eq_false fun z => hl (by injection z with z; omega)
      rw [e]
      exact ⟨true, rfl, iteT ⟨_, rfl, q⟩⟩
theorem ok_fnd {f : Addr} {fd : FuncData} {k : Nat} (F : Fun K "is_form_node" "is_form_node" sFnd f fd) (mI : mg "isinstance" = none) (mT : mg "tuple" = none) (mL : mg "len" = none) : FnOk P w K mg base CX0 (k + 1) f fd ["language", "value"] (spFnd K) := by
  refine F.ok scFnd (fun vs H Q E h => ?_) (fun cdv A outer s H vs Q E hr h => ?_)
  · obtain ⟨l, x, rfl, _⟩ := h
    rfl
  · obtain ⟨l, x, rfl, ⟨ty, ht, kt⟩, q⟩ := h
    refine ⟨_, pss_cons (ps_if (PW.pt (pw_or (pt_not (pt_val (pe_callB call_isi (by rfl) mI (by decide +kernel) (pa_cons (pv 1) (pa_cons (pe_bltn (v := .ty "tuple") (by rfl) mT (by decide +kernel) rfl) pa_nil))))) (pw_or1 (pt_cmpR op_ne (pe_callB call_len_seq (by rfl) mL PySem.boot_len (pa_cons (pv 1) pa_nil)) pe_int (nomark _)))))
        (pss_one (ps_ret pe_bl)) pss_nil)
      (pss_cons ps_off (pss_cons ps_off (pss_cons ps_off (pss_one ps_off)))), ?_⟩
    exact ⟨x, rfl, x, .ty "tuple", ty, .type "tuple", false, rfl, .ty _, ht, kt, false, rfl, iteT (iteT q)⟩
theorem walk_keysY {d : Addr} {o : Obj} {kvs : List (Key × V)} : Walk (Itk d o kvs) kvs.length (fun H => H d = some (.frz o (.dK kvs))) (YAt (kvs.map fun kv => kV kv.1)) :=
  walk_keys.mono (fun _ h => h) fun i H x H' hi _ ⟨e, k, v, h1, h2⟩ => ⟨e, by rw [List.getElem?_map, h1, h2]; rfl⟩
theorem ok_ck {f CS CT fI : Addr} {fd : FuncData} {k : Nat} (F : Fun K "checked_things" "checked_things" sCk f fd) (T : TreeTxt P K mg "InvalidStore" CS CT fI) (GN : CdN P w K mg base (k + 1) "is_name" ["value"] (spName K)) (GP : CdX P w K mg base (k + 1) "require_pair" ["language", "things", "pair"] (spPr K CS)) (mI : mg "isinstance" = none) (mD : mg "dict" = none) (mA : mg "all" = none) : FnOk P w K mg base (L2N.CX P w) (k + 2) f fd ["language", "things"] (spCk K CS) := by
  refine F.okN scCk (fun vs H Q E h => ?_) (fun cdv A outer s H vs Q E hr h => ?_)
  · obtain ⟨l, x, t, rfl, _⟩ := h
    rfl
  · obtain ⟨l, x, t, rfl, ht, hx, q⟩ := h
    have hu : (A.deeper (envOfC "checked_things" (defScope sCk) s.heap.objs.size f cdv)).units + 1 < cLine := by have := hr.un; omega
    refine ⟨_, pss_cons (ps_if (PW.pt (pw_or (pt_not (pt_val (pe_callB call_isi (by rfl) mI (by decide +kernel) (pa_cons (pv 1) (pa_cons (pe_bltn (v := .ty "dict") (by rfl) mD (by decide +kernel) rfl) pa_nil))))) (pw_or1 (pt_not (pt_val (pe_callB (cr_all rfl) (by rfl) mA (by decide +kernel) (pa_cons (pe_lock (pe_lc (own := [("thing", 2)]) (g := gName 2) (tt := tYes) (te := tCall (spName K) [] E0 (tCons (tVar 2) tNil)) (by rfl) scCk.nd (pi_keys (pv 1)) (blkOk_by (own := [("thing", 2)]) (N := ["language", "things", "thing", "found", "marks", "links"]) (sc := defScope sCk) (by decide +kernel)) (fun _ _ _ _ _ => pg_name (i := 2) scCk.nd rfl (Or.inl rfl)) (fun _ _ _ _ _ => pts_nil) (fun _ _ _ _ _ => pe_cdn GN hr (pa_cons (pv 2) pa_nil)))) pa_nil)))))))
        (pss_one (L2N.ps_raise rfl (L2N.takes_of rfl rfl rfl rfl) (pmk_tree T hr (pa_cons pe_str pa_nil)))) pss_nil)
      (pss_cons (ps_lock (ps_for (passes_of rfl) rfl (pi_keys (pv 1)) (pg_name (i := 2) scCk.nd rfl (Or.inl rfl)) (pss_one (ps_expr (pe_cdx GP hr (L2N.passes_call (L2N.takes_of rfl rfl rfl rfl) (fun _ _ _ _ h => h)) (pa_cons (pv 0) (pa_cons (pv 1) (pa_cons (pe_dget hu (pv 1) (pv 2) (fun _ _ => rfl)) pa_nil))))))))
      (pss_cons ps_off (pss_cons ps_off (pss_cons ps_off (pss_one ps_off))))), ?_⟩
    refine ⟨.ref t, rfl, .ref t, .ty "dict", .type "dict", .type "dict", true, rfl, .ty _, .base (.dK ht), kit_ty (by decide +kernel), true, rfl, iteF ?_⟩
    refine ⟨t, _, ht, trivial, fun od => ⟨.ref t, rfl, t, od, rfl, .inl ⟨_, upd_same, fun D nD => ?_⟩⟩⟩
    have eL : (upd H t (.frz od (.dK [(Sum.inr ("one" : Str), x)]))) t = some (.frz od (.dK [(Sum.inr ("one" : Str), x)])) := upd_same
    have n1 : Nr t H (upd H t (.frz od (.dK [(Sum.inr ("one" : Str), x)]))) := Nr.upd
    generalize upd H t (.frz od (.dK [(Sum.inr ("one" : Str), x)])) = H1 at *
    refine lc_map (h := fun (kv : Key × V) => kV kv.1) (xs := [(Sum.inr ("one" : Str), x)]) walk_keysY rfl (fun _ => V.bl true) nD (fun H' s' => s' _ _ eL) (by show 1 < 100000; decide) (fun a ha H' s' Q' q' => ?_) fun H3 s3 e3 => ?_
    · have ea : a = (Sum.inr ("one" : Str), x) := by simpa using ha
      subst ea
      exact ⟨.str "one", rfl, .str "one", rfl, .inl ⟨"one", rfl, by decide⟩, .inl ⟨"one", rfl⟩, fun H5 s5 => q' H5 s5⟩
    have eT := s3 _ _ eL
    have n2 : Nr t H (upd H3 t (.dK [(Sum.inr ("one" : Str), x)])) := (n1.trans (fun b o _ h => s3 b o h)).trans Nr.upd
    have e4 : (upd H3 t (.dK [(Sum.inr ("one" : Str), x)])) D = some (.lst [.bl true]) := by
      rw [upd_ne (fun z => by rw [z, eT] at e3; cases e3)]
      exact e3
    have e5 : (upd H3 t (.dK [(Sum.inr ("one" : Str), x)])) t = some (.dK [(Sum.inr ("one" : Str), x)]) := upd_same
    refine ⟨eT, ?_⟩
    generalize upd H3 t (.dK [(Sum.inr ("one" : Str), x)]) = H4 at *
    refine ⟨D, [true], rfl, lst_of e4, true, rfl, iteF ?_⟩
    refine ⟨t, _, e5, trivial, fun od2 => ⟨.ref t, rfl, t, od2, rfl, .inl ⟨_, upd_same, ?_⟩⟩⟩
    have n3 : Nr t H (upd H4 t (.frz od2 (.dK [(Sum.inr ("one" : Str), x)]))) := n2.trans Nr.upd
    have e6 : (upd H4 t (.frz od2 (.dK [(Sum.inr ("one" : Str), x)]))) t = some (.frz od2 (.dK [(Sum.inr ("one" : Str), x)])) := upd_same
    generalize upd H4 t (.frz od2 (.dK [(Sum.inr ("one" : Str), x)])) = H5 at *
    refine for_it walk_keysY (fun i σ H' => i = 0 ∧ σ = [some l, some (.ref t), none, none, none, none] ∧ H' = H5) ⟨rfl, rfl, rfl⟩ (fun i σ H' _ ⟨_, _, e⟩ => by rw [e]; exact e6) ?_ (fun σ H' ⟨z, _⟩ => by cases z)
    rintro i y σ G G' hi ⟨rfl, rfl, rfl⟩ ⟨rfl, ey⟩
    obtain rfl : V.str "one" = y := Option.some.inj ey
    exact ⟨l, rfl, .ref t, rfl, .ref t, rfl, .str "one", rfl, t, x, rfl, .inl ⟨_, Sum.inr ("one" : Str), .inr ⟨od2, e6⟩, rfl, by simp [valV]⟩, l, .ref t, x, rfl, hx _ n3, q _ n3⟩
theorem ok_sin {f CI C : Addr} {fd : FuncData} {k : Nat} (F : Fun K "__init__" "Store.__init__" sSin f fd) (GR : CdX P w K mg base k "require_language" ["language"] (spRL K C CI)) : FnR P w K mg base (L2N.CX P w) (k + 1) f (fun vs H Q E => ∃ a b, vs = [a, b] ∧ ∀ d, H d = none → spSin K C CI [a, b, V.ref d] (upd H d (.dK [])) Q E) := by
  obtain ⟨oc, od, kV, doc, pm, an, cdv, ct, osl, rfl, lk, hcd⟩ := F.ex
  refine TfW.fn_kw0 (p1 := "self") (p2 := "language") (pd := "things") lk hcd scSin cxUpN (fun a b => rfl) fun A outer s H vs Q E hr h => ?_
  obtain ⟨s', x, t, rfl, hx, q⟩ := h
  exact ⟨_, pss_cons (ps_expr (pe_cdx GR hr (L2N.passes_call (L2N.takes_of rfl rfl rfl rfl) (fun _ _ _ _ h => h)) (pa_cons (pv 1) pa_nil))) (pss_cons ps_off (pss_one ps_off)), x, rfl, x, rfl, .inl ⟨hx, q⟩⟩
theorem ok_sof {f CI CS C CM fM : Addr} {fd : FuncData} {k : Nat} (F : Fun K "of" "Store.of" sSof f fd) (GR : CdX P w K mg base (k + 2) "require_language" ["language"] (spRL K C CI)) (GC : CdX P w K mg base (k + 2) "checked_things" ["language", "things"] (spCk K CS)) (MM : Mk K CM fM) (gM : mg "MadeStore" = some (.ref CM)) : FnOk P w K mg base (L2N.CX P w) (k + 3) f fd ["cls", "language", "things"] (spSof K C CS) := by
  refine F.okN scSof (fun vs H Q E h => ?_) (fun cdv A outer s H vs Q E hr h => ?_)
  · obtain ⟨c, x, a, dx, t, fs, rfl, _⟩ := h
    rfl
  · obtain ⟨c, x, a, dx, t, fs, rfl, ha, ht, hx, q⟩ := h
    have FM : FnR P w K mg base (L2N.CX P w) (k + 1) fM (fun _ _ _ _ => False) := fun A outer s H us vs Q E _ _ _ z => z.elim
    exact ⟨_, pss_cons (ps_expr (pe_cdx GR hr (L2N.passes_call (L2N.takes_of rfl rfl rfl rfl) (fun _ _ _ _ h => h)) (pa_cons (pv 1) pa_nil)))
      (pss_one (ps_ret (StX.pe_makeR MM FM hr (by rfl) gM (L2N.passes_call (L2N.takes_of rfl rfl rfl rfl) (fun _ _ _ _ h => h)) (pa_cons (pv 1) (pa_cons (pe_cdx GC hr (L2N.passes_call (L2N.takes_of rfl rfl rfl rfl) (fun _ _ _ _ h => h)) (pa_cons (pv 1) (pa_cons (pv 2) pa_nil))) pa_nil))))),
      .ref a, rfl, .ref a, rfl, .inr ⟨a, dx, fs, rfl, ha, .ref a, rfl, .ref a, rfl, .ref t, rfl, .ref a, x, t, rfl, ht, hx, q⟩⟩
theorem ok_ifm {f : Addr} {fd : FuncData} {k : Nat} {tN tL : Tok} (F : Fun K "is_form" "is_form" sIfm f fd) (GF : CdN P w K mg base (k + 1) "is_form_node" ["language", "value"] (spFnd K)) (gN : mg "MAX_NODES" = some (.int 2000 tN)) (gL : mg "MAX_LEVELS" = some (.int 10 tL)) : FnOk P w K mg base CX0 (k + 2) f fd ["language", "value"] spIfm := by
  refine F.ok scIfm (fun vs H Q E h => ?_) (fun cdv A outer s H vs Q E hr h => ?_)
  · obtain ⟨l, i, rfl, _⟩ := h
    rfl
  · obtain ⟨l, i, rfl, q⟩ := h
    have hu : (A.deeper (envOfC "is_form" (defScope sIfm) s.heap.objs.size f cdv)).units + 64 < cLine := by have := hr.un; omega
    refine ⟨_, pss_cons (ps_par (i := 2) (j := 3) rfl scIfm.nd rfl rfl (by decide) rfl rfl (pa_cons (pe_lst (pa_cons (pe_tup (pa_cons (pv 1) (pa_cons pe_int pa_nil))) pa_nil)) (pa_cons pe_int pa_nil)) rfl)
      (pss_cons (ps_while PassesOwn.never (pt_cmpR (op_neD hu) (pv 2) (pe_lst pa_nil) (nomark _))
        (pss_cons (ps_asg (pe_bm0 PySem.F.plainAttrs_list PySem.F.slot_list_pop PySem.F.type_list_pop mt_pop (pv 2)) (pg_tup (by rfl) (pgs_cons (pg_name (i := 4) scIfm.nd rfl (.inl rfl)) (pgs_cons (pg_name (i := 5) scIfm.nd rfl (.inr rfl)) pgs_nil))))
        (pss_cons (ps_aug (i := 3) scIfm.nd rfl (.inl rfl) pe_int ip_add)
        (pss_cons (ps_if (PW.pt (pw_or (pt_cmpR op_gt (pv 3) (pe_glob (v := .int 2000) rfl gN ⟨_, rfl⟩) (nomark _)) (pw_or (pt_cmpR op_gt (pv 5) (pe_glob (v := .int 10) rfl gL ⟨_, rfl⟩) (nomark _)) (pw_or1 (pt_not (pt_val (pe_cdn GF hr (pa_cons (pv 0) (pa_cons (pv 4) pa_nil))))))))) (pss_one (ps_ret pe_bl)) pss_nil)
        (pss_one ps_off)))))
      (pss_one (ps_ret pe_bl))), ?_⟩
    refine ⟨_, rfl, by show 2 ≤ sizeLine; decide, fun p1 n1 => ?_⟩
    have e1 : (upd H p1 (.tup [.int i, .int 0])) p1 = some (.tup [.int i, .int 0]) := upd_same
    have s1 : Same H (upd H p1 (.tup [.int i, .int 0])) := same_new n1
    generalize upd H p1 (.tup [.int i, .int 0]) = H1 at *
    refine ⟨by show 1 ≤ sizeLine; decide, fun p2 n2 => ?_⟩
    have s2 : Same H (upd H1 p2 (.lst [.ref p1])) := s1.new n2
    have m2 : H p2 = none := s1.free n2
    have e2 : (upd H1 p2 (.lst [.ref p1])) p2 = some (.lst [.ref p1]) := upd_same
    have s2' : Same H1 (upd H1 p2 (.lst [.ref p1])) := same_new n2
    generalize upd H1 p2 (.lst [.ref p1]) = H2 at *
    have e1' := s2' _ _ e1
    refine ⟨_, _, rfl, ?_⟩
    refine ⟨fun m σ H' => m = 0 ∧ σ = [some l, some (.int i), some (.ref p2), some (.int 0), none, none] ∧ H' = H2, ⟨0, rfl, rfl, rfl⟩, ?_⟩
    rintro m σ H' ⟨rfl, rfl, rfl⟩
    refine ⟨.ref p2, rfl, Nat.zero_le _, fun p3 n3 => ?_⟩
    have s3 : Same H (upd H' p3 (.lst [])) := s2.new n3
    have e3 : (upd H' p3 (.lst [])) p3 = some (.lst []) := upd_same
    have s3' : Same H' (upd H' p3 (.lst [])) := same_new n3
    generalize upd H' p3 (.lst []) = H3 at *
    have dd : Dp K H3 (.ref p2) (.list [.tuple [.int i, .int 0]]) := .lst (lst_of (s3' _ _ e2)) (.cons (.tup (tup_of (s3' _ _ e1')) (.cons (.int _) (.cons (.int _) .nil))) .nil)
    refine ⟨_, _, dd, .lst (lst_of e3) .nil, ?_, ?_, ?_⟩
    · show (PyData.canLay0 _ && decide (PyData.depth _ ≤ 64)) = true
      simp [PyData.canLay0, PyData.canLayAll0, PyData.depth, PyData.depthAll]
    · decide
    have ne : p1 ≠ p2 := fun z => by
      rw [z, e2] at e1'
      cases e1'
    have e1'' : (upd H3 p2 (.lst [])) p1 = some (.tup [.int i, .int 0]) := by
      rw [upd_ne ne]
      exact s3' _ _ e1'
    have sF : Same H (upd H3 p2 (.lst [])) := s3.mut m2
    refine ⟨true, by simp [PyData.eqv, PyData.eqvAll], iteT ⟨fun _ _ => False, fun _ _ z => z.elim, ?_⟩⟩
    refine ⟨.ref p2, rfl, .inl ⟨rfl, _, lst_of (s3' _ _ e2)⟩, p2, _, .ref p1, rfl, rfl, s3' _ _ e2, rfl, ?_⟩
    refine ⟨p1, _, rfl, tup_of e1'', rfl, _, _, rfl, _, _, rfl, rfl, ?_⟩
    refine ⟨.int 0, rfl, 0, 1, rfl, rfl, ?_⟩
    refine ⟨_, rfl, 0 + 1, 2000, rfl, rfl, false, rfl, iteF ?_⟩
    refine ⟨_, rfl, 0, 10, rfl, rfl, false, rfl, iteF ?_⟩
    refine ⟨l, rfl, .int i, rfl, l, .int i, rfl, ⟨_, .base (.int i), kit_ty (by decide +kernel)⟩, false, rfl, iteT ?_⟩
    exact q _ sF
theorem ok_qof {f CI CQ CT fI C : Addr} {fd : FuncData} {k : Nat} (F : Fun K "of" "Question.of" sQof f fd) (T : TreeTxt P K mg "InvalidQuestion" CQ CT fI) (GR : CdX P w K mg base (k + 2) "require_language" ["language"] (spRL K C CI)) (GF : CdN P w K mg base (k + 2) "is_form" ["language", "value"] spIfm) : FnOk P w K mg base (L2N.CX P w) (k + 3) f fd ["cls", "language", "form"] (spQof K C CQ) := by
  refine F.okN scQof (fun vs H Q E h => ?_) (fun cdv A outer s H vs Q E hr h => ?_)
  · obtain ⟨c, a, dx, fs, i, rfl, _⟩ := h
    rfl
  · obtain ⟨c, a, dx, fs, i, rfl, ha, q⟩ := h
    exact ⟨_, pss_cons (ps_expr (pe_cdx GR hr (L2N.passes_call (L2N.takes_of rfl rfl rfl rfl) (fun _ _ _ _ h => h)) (pa_cons (pv 1) pa_nil)))
      (pss_cons (ps_if (pt_not (pt_val (pe_cdn GF hr (pa_cons (pv 1) (pa_cons (pv 2) pa_nil))))) (pss_one (L2N.ps_raise rfl (L2N.takes_of rfl rfl rfl rfl) (pmk_tree T hr (pa_cons pe_str pa_nil)))) pss_nil) (pss_one ps_off)),
      .ref a, rfl, .ref a, rfl, .inr ⟨a, dx, fs, rfl, ha, .ref a, rfl, .int i, rfl, .ref a, i, rfl, fun H' s' => ⟨false, rfl, iteT ⟨_, rfl, q H' s'⟩⟩⟩⟩
end
end Tf

/-! k00: the law -/
namespace Tf
open PySem PySem.Spec PyProof.Rows L2 TfE LamX LamN TfG
/-! ### plain words -/
theorem nmBy : Nms ["by"] := by unfold Nms; decide +kernel
theorem lang_by : langOk [] ["by"] = true := by
  have e : canon (["by"] : List Str) = (["by"] : List Str) := canon_self (List.nodup_cons.mpr ⟨List.not_mem_nil, List.nodup_nil⟩) (List.pairwise_cons.mpr ⟨fun _ h => (nomatch h), .nil⟩)
  have e0 : canon ([] : List Str) = [] := canon_self List.nodup_nil .nil
  unfold langOk
  rw [e, e0]
  decide
/-- Language.of((), ("by",)) -/
theorem made_by {K : PySem.W.Frag} {C : Addr} {H : Hp} {e b : Addr} {Q : V → Hp → Prop} {bad : Hp → Prop} (he : H e = some (.tup [])) (hb : H b = some (.tup [.str "by"])) (h : ∀ (x : Addr) (H' : Hp), Same H H' → H x = none → LangAt C H' x (canon []) (canon ["by"]) → Q (.ref x) H') : Made K C H (.ref e) (.ref b) Q bad := by
  refine .inr ⟨e, [], rfl, tup_of he, fun y hy => (nomatch hy), by decide, fun c => Bool.noConfusion c, fun _ => .inr ⟨b, (["by"] : List Str).map V.str, rfl, tup_of hb, items_strs nmBy, by decide, fun c => ?_, fun _ c => ?_, fun _ _ => ?_⟩⟩
  · rw [all_strs nmBy] at c
    cases c
  · rw [txts_strs] at c
    rw [show txts [] = [] from rfl, lang_by] at c
    cases c
  · rw [txts_strs]
    exact h
/-! ### odd values -/
inductive OdV (H : Hp) : V → Prop
  | non : OdV H .non
  | bl (b : Bool) : OdV H (.bl b)
  | int (i : Int) : OdV H (.int i)
  | str (z : Str) (h : nameB z = false) (l : z.length ≤ 1000) : OdV H (.str z)
  | lst {a : Addr} (h : H a = some (.lst [])) : OdV H (.ref a)
  | dct {a : Addr} (h : H a = some (.dK [])) : OdV H (.ref a)
  | tup {a : Addr} (h : H a = some (.tup [.str "new"])) : OdV H (.ref a)
/-- what is needed of a heap that comes behind -/
def Keeps (H H' : Hp) : Prop := ∀ a o, H a = some o → (o = .lst [] ∨ o = .dK [] ∨ o = .tup [.str "new"]) → H' a = some o
theorem OdV.keeps {H H' : Hp} {x : V} (o : OdV H x) (k : Keeps H H') : OdV H' x := by
  cases o with
  | non => exact .non
  | bl b => exact .bl b
  | int i => exact .int i
  | str z h l => exact .str z h l
  | lst h => exact .lst (k _ _ h (.inl rfl))
  | dct h => exact .dct (k _ _ h (.inr (.inl rfl)))
  | tup h => exact .tup (k _ _ h (.inr (.inr rfl)))
theorem keeps_same {H H' : Hp} (s : Same H H') : Keeps H H' := fun a o h _ => s a o h
theorem keeps_ext {H H' : Hp} (s : ExtN H H') : Keeps H H' := fun a o h k => s a o h fun ps z => by
  rcases k with rfl | rfl | rfl <;> cases z
theorem Keeps.trans {H H1 H2 : Hp} (a : Keeps H H1) (b : Keeps H1 H2) : Keeps H H2 := fun c o h k => b c o (a c o h k) k
theorem OdV.isN {H : Hp} {x : V} (o : OdV H x) : isN x = false := by
  cases o with
  | str z h l => exact h
  | _ => rfl
theorem OdV.item {K : PySem.W.Frag} {H : Hp} {x : V} (o : OdV H x) : Item K H x := by
  refine ⟨?_, .inr o.isN⟩
  cases o with
  | non => exact .inr ⟨_, .base .non, by decide +kernel⟩
  | bl b => exact .inr ⟨_, .base (.bl b), by decide +kernel⟩
  | int i => exact .inr ⟨_, .base (.int i), by decide +kernel⟩
  | str z h l => exact .inl ⟨z, rfl, l⟩
  | lst h => exact .inr ⟨_, .base (.lst h), by decide +kernel⟩
  | dct h => exact .inr ⟨_, .base (.dK h), by decide +kernel⟩
  | tup h => exact .inr ⟨_, .base (.tup h), by decide +kernel⟩
def tys0 : List String := ["NoneType", "bool", "int", "str", "list", "tuple", "dict"]
theorem OdV.lang {K : PySem.W.Frag} {C : Addr} {H : Hp} {x : V} (o : OdV H x) (T : ∀ t ∈ tys0, PySem.W.kitOne K (.type t) (.ref C) = some false) : NoLg K C H x := by
  cases o with
  | non => exact ⟨_, .base .non, T _ (by simp [tys0])⟩
  | bl b => exact ⟨_, .base (.bl b), T _ (by simp [tys0])⟩
  | int i => exact ⟨_, .base (.int i), T _ (by simp [tys0])⟩
  | str z h l => exact ⟨_, .base (.str z), T _ (by simp [tys0])⟩
  | lst h => exact ⟨_, .base (.lst h), T _ (by simp [tys0])⟩
  | dct h => exact ⟨_, .base (.dK h), T _ (by simp [tys0])⟩
  | tup h => exact ⟨_, .base (.tup h), T _ (by simp [tys0])⟩
theorem OdV.pair {K : PySem.W.Frag} {H : Hp} {x : V} (o : OdV H x) : OdP K H x := by
  cases o with
  | non => exact .inl ⟨_, .base .non, kit_ty (by decide +kernel)⟩
  | bl b => exact .inl ⟨_, .base (.bl b), kit_ty (by decide +kernel)⟩
  | int i => exact .inl ⟨_, .base (.int i), kit_ty (by decide +kernel)⟩
  | str z h l => exact .inl ⟨_, .base (.str z), kit_ty (by decide +kernel)⟩
  | lst h => exact .inl ⟨_, .base (.lst h), kit_ty (by decide +kernel)⟩
  | dct h => exact .inl ⟨_, .base (.dK h), kit_ty (by decide +kernel)⟩
  | tup h => exact .inr ⟨_, _, rfl, tup_of h, by decide⟩
/-! ### lists of rows -/
abbrev dBB (bss : List (List Bool)) : List PyData := bss.map fun bs => .list (dB bs)
inductive RowsAt (l : Addr) (H : Hp) : List Addr → List (List Bool) → Prop
  | nil : RowsAt l H [] []
  | cons {p : Addr} {bs : List Bool} {ps : List Addr} {bss : List (List Bool)} (ne : p ≠ l) (h : H p = some (.lst (bs.map V.bl))) (r : RowsAt l H ps bss) : RowsAt l H (p :: ps) (bs :: bss)
theorem RowsAt.imp {l : Addr} {H H' : Hp} (k : ∀ (p : Addr) (bs : List Bool), p ≠ l → H p = some (.lst (bs.map V.bl)) → H' p = some (.lst (bs.map V.bl))) : ∀ {ps : List Addr} {bss : List (List Bool)}, RowsAt l H ps bss → RowsAt l H' ps bss
  | _, _, .nil => .nil
  | _, _, .cons ne h r => .cons ne (k _ _ ne h) (RowsAt.imp k r)
theorem RowsAt.snoc {l : Addr} {H : Hp} {p : Addr} {bs : List Bool} (ne : p ≠ l) (h : H p = some (.lst (bs.map V.bl))) : ∀ {ps : List Addr} {bss : List (List Bool)}, RowsAt l H ps bss → RowsAt l H (ps ++ [p]) (bss ++ [bs])
  | _, _, .nil => .cons ne h .nil
  | _, _, .cons ne' h' r => .cons ne' h' (RowsAt.snoc ne h r)
theorem RowsAt.len {l : Addr} {H : Hp} : ∀ {ps : List Addr} {bss : List (List Bool)}, RowsAt l H ps bss → ps.length = bss.length
  | _, _, .nil => rfl
  | _, _, .cons _ _ r => by rw [List.length_cons, List.length_cons, RowsAt.len r]
theorem RowsAt.dp {K : PySem.W.Frag} {l : Addr} {H : Hp} : ∀ {ps : List Addr} {bss : List (List Bool)}, RowsAt l H ps bss → DpAll K H (ps.map V.ref) (dBB bss)
  | _, _, .nil => .nil
  | _, _, .cons _ h r => .cons (dp_bls h) (RowsAt.dp r)
theorem lay_rows : ∀ bss : List (List Bool), PyData.canLayAll0 (dBB bss) = true
  | [] => by simp [PyData.canLayAll0, dBB]
  | bs :: bss => by
    show PyData.canLayAll0 (PyData.list (dB bs) :: dBB bss) = true
    simp only [PyData.canLayAll0, PyData.canLay0, lay_rows bss, lay_bls bs, Bool.and_self]
theorem depth_rows : ∀ bss : List (List Bool), PyData.depthAll (dBB bss) ≤ 1
  | [] => by simp [PyData.depthAll, dBB]
  | bs :: bss => by
    show PyData.depthAll (PyData.list (dB bs) :: dBB bss) ≤ 1
    simp only [PyData.depthAll, PyData.depth, depth_bls bs]
    exact Nat.max_le.mpr ⟨Nat.le_refl _, depth_rows bss⟩
theorem shaped_rows (bss : List (List Bool)) : SeqAt.shaped (.list (dBB bss)) = true := by
  show (PyData.canLay0 (.list (dBB bss)) && decide (PyData.depth (.list (dBB bss)) ≤ 64)) = true
  rw [Bool.and_eq_true]
  refine ⟨by simp only [PyData.canLay0]; exact lay_rows bss, decide_eq_true ?_⟩
  have := depth_rows bss
  simp only [PyData.depth]
  omega
theorem eqvAll_rows : ∀ bss : List (List Bool), PyData.eqvAll (dBB bss) (dBB bss) = true
  | [] => by simp [PyData.eqvAll, dBB]
  | bs :: bss => by
    show PyData.eqvAll (PyData.list (dB bs) :: dBB bss) (PyData.list (dB bs) :: dBB bss) = true
    simp only [PyData.eqvAll, eqvAll_rows bss, eqv_bls, Bool.and_self]
theorem eqv_rows (bss : List (List Bool)) : PyData.eqv (.list (dBB bss)) (.list (dBB bss)) = true := by
  simp only [PyData.eqv]
  exact eqvAll_rows bss
/-- a list of rows that grows while all else stays -/
structure Fd (T : List (Addr × Str)) (Hb : Hp) (l : Addr) (ps : List Addr) (bss : List (List Bool)) (H : Hp) : Prop where
  kp : ExtN Hb H
  tb : Tabs T H
  nl : ∀ o, Hb l = some o → (∀ ps, o ≠ .tbl ps) → False
  el : H l = some (.lst (ps.map V.ref))
  rw : RowsAt l H ps bss
theorem Fd.app {l p : Addr} {T : List (Addr × Str)} {Hb H G H' : Hp} {ps : List Addr} {bss : List (List Bool)} {bs : List Bool} {R : Hp → Prop} (f : Fd T Hb l ps bss H) (ex : ExtN H G) (tg : Tabs T G) (s : Same G H') (np : p ≠ l) (hp : H' p = some (.lst (bs.map V.bl))) (hl : ps.length < 100) (k : ∀ H3, Fd T Hb l (ps ++ [p]) (bss ++ [bs]) H3 → R H3) : rAppend (.ref l) [.ref p] H' (fun _ H4 => R H4) := by
  have e : H' l = some (.lst (ps.map V.ref)) := s _ _ (ex _ _ f.el fun ps z => by cases z)
  refine ⟨l, _, .ref p, rfl, rfl, e, by rw [List.length_map]; exact Nat.lt_trans hl (by decide), k _ ⟨fun b o h t => ?_, (tg.same s).lst e, f.nl, by rw [upd_same, List.map_append]; rfl, ?_⟩⟩
  · have nb : b ≠ l := fun z => f.nl o (by rw [← z]; exact h) t
    rw [upd_ne nb]
    exact s _ _ (ex _ _ (f.kp b o h t) t)
  · refine RowsAt.snoc np (by rw [upd_ne np]; exact hp) (f.rw.imp fun q qs nq hq => ?_)
    rw [upd_ne nq]
    exact s _ _ (ex _ _ hq fun ps z => by cases z)
theorem Fd.new {p : Addr} {T : List (Addr × Str)} {Hb G H' : Hp} {bs : List Bool} {R : Addr → Hp → Prop} (ex : ExtN Hb G) (tg : Tabs T G) (s : Same G H') (hp : H' p = some (.lst (bs.map V.bl))) (k : ∀ l H3, Fd T Hb l [p] [bs] H3 → R l H3) : [V.ref p].length ≤ sizeLine ∧ ∀ l, H' l = none → R l (upd H' l (.lst [V.ref p])) := by
  refine ⟨by show 1 ≤ sizeLine; decide, fun l n => k l _ ⟨fun b o h t => ?_, tg.same (s.new n), fun o h t => ?_, upd_same, .cons (fun z => ?_) ?_ .nil⟩⟩
  · have e := s _ _ (ex _ _ h t)
    rw [upd_ne (ne_of_none e n)]
    exact e
  · rw [s _ _ (ex _ _ h t)] at n
    cases n
  · rw [z, n] at hp
    cases hp
  · rw [upd_ne (ne_of_none hp n)]
    exact hp
theorem sql_kept {K : PySem.W.Frag} {H H1 H2 : Hp} {a d : Addr} {xs : List V} (h : SqL K H a xs) (nd : H d = none) (s : Same H H1) (n : KpD d H1 H2) : SqL K H2 a xs := by
  rcases h with (h | ⟨o, h⟩) | h
  · exact .inl (.inl (n _ _ (ne_of_none h nd) (s _ _ h) fun ps z => by cases z))
  · exact .inl (.inr ⟨o, n _ _ (ne_of_none h nd) (s _ _ h) fun ps z => by cases z⟩)
  · exact .inr h
/-! ### calls -/
def CdG (P : Program) (w : World) (K : PySem.W.Frag) (mg : Str → Option Value) (base : Heap) (k : Nat) (x : Str) (ps : List Str) (sp : Sp) : Prop := ∃ (f : Addr) (fd : FuncData), FnG P w K mg base CX0 k f fd ps sp ∧ Binds K fd ps [] ∧ mg x = some (.ref f) ∧ PySem.W.keepIn K (.ref f) = true
theorem pe_cdg {X : Cx} {k : Nat} {x : Str} {ps : List Str} {sp : Sp} {e : Expr} {es : List Expr} {t : TA} {p pos : Pos} (F : CdG X.prog X.w X.K X.mg X.base k x ps sp) (gu : X.A.guards = some []) (hr : Room k X.A) (ha : PA X (e :: es) t) (hg : Gl X x := by rfl) (hdb : (x == ("__debug__" : Str)) = false := by decide)
    (he : starEach (e :: es) X.env = (false, eval e X.env) :: starEach es X.env := by rfl) (hpl : (backTo pos (starEach es X.env)).any (·.1) = false := by rfl) : PE X (.Call (.Name x p) (e :: es) [] pos) (tCall sp [] E0 t) := by
  obtain ⟨f, fd, G, b, g, kp⟩ := F
  exact pe_callG G gu hr hg g kp b pass0 ha hdb he hpl
/-- C.of(..) -/
structure CmX (P : Program) (w : World) (K : PySem.W.Frag) (mg : Str → Option Value) (base : Heap) (k : Nat) (x : Str) (C : Addr) (m : Str) (ps : List Str) (sp : Sp) : Prop where
  g : mg x = some (.ref C)
  ex : ∃ (mc : Value) (pO fO : Addr) (fdO : FuncData), ClX.CRead K C mc ∧ ClX.CMet K C mc m pO fO ∧ FnOk P w K mg base (L2N.CX P w) k fO fdO ps sp ∧ Binds K fdO ps []
theorem pe_cm {X : Cx} {k : Nat} {x m : Str} {C : Addr} {ps : List Str} {sp : Sp} {E : XK} {e : Expr} {es : List Expr} {t : TA} {p apos pos : Pos} {pl : Sem Bool} (F : CmX X.prog X.w X.K X.mg X.base k x C m ps sp) (hr : Room k X.A) (hx : Passes (L2N.CX X.prog X.w) X E) (ha : PA X (e :: es) t) (hg : Gl X x := by rfl) (hdb : (x == ("__debug__" : Str)) = false := by decide)
    (hst : starEach (e :: es) X.env = (false, eval e X.env) :: starEach es X.env := by rfl) (hpl : (backTo pos (starEach es X.env)).any (·.1) = false := by rfl)
    (ht : eval (.Call (.Attribute (.Name x p) m apos) (e :: es) [] pos) X.env = (do
      let ov ← eval (.Name x p) X.env
      standAt apos.atName
      let (f, first) ← holding [ov] (getMethod ov m pl)
      callWith pos f first (backTo pos (starEach (e :: es) X.env)) (backToKw pos (keywordEach [] X.env))) := by rfl) :
    PE X (.Call (.Attribute (.Name x p) m apos) (e :: es) [] pos) (ClX.tCMeth C sp E (tC (.ref C)) t) := by
  obtain ⟨mc, pO, fO, fdO, cr, cm, G, b⟩ := F.ex
  exact ClX.pe_cmeth (pl := pl) (pe_glob (v := .ref C) hg F.g rfl hdb) cr cm (fun A outer s H us vs Q E hr e0 r h => G.raw b .nil A outer s H us vs Q E hr e0 r (by show sp (vs ++ []) H Q E; rw [List.append_nil]; exact h)) hr hx ha hst hpl ht
end Tf

/-! k00: the law itself -/
namespace Tf
open PySem PySem.Spec PyProof.Rows L2 TfE LamX LamN TfG
abbrev sLaw : Stmt := top 98
abbrev nLaw : List Str := ["_law_script", "_law_spot", "_law_dice_here", "_law_found", "_law_odd", "_law_at"]
theorem scLaw : FnScope nLaw ["_law_script"] (defScope sLaw) := ⟨rfl, rfl, rfl, by decide +kernel, rfl, by decide +kernel, by decide +kernel⟩
def spLaw (K : PySem.W.Frag) (T : List (Addr × Str)) : Sp := fun vs H Q _ => ∃ (a : Addr) (ns : List Int), vs = [.ref a] ∧ SqL K H a (ns.map V.int) ∧ ns.length ≤ 63 ∧ Tabs T H ∧ ∀ H', Q (.bl true) H'
/-- what the law asks of the written part -/
structure Lw (P : Program) (w : World) (K : PySem.W.Frag) (mg : Str → Option Value) (base : Heap) (k : Nat) (c : Cs) (C St Qu fS : Addr) : Prop where
  GDi : CdN P w K mg base (k + 2) "_law_dice" ["_law_script", "_law_spot"] (spDice K)
  GPi : CdN P w K mg base (k + 2) "_law_pick" ["_law_dice_here", "_law_items"] (spPick K)
  GMs : CdN P w K mg base (k + 2) "_law_messages_right" ["_law_told_here"] spMsg
  GVa : CdG P w K mg base (k + 2) "_law_values_right" ["_law_dice_here"] spVal
  GOn : CdN P w K mg base (k + 2) "_law_only" ["_law_spots", "_law_total"] (spOnly K)
  GMk : CdP P w K mg base (k + 1) "_law_marks" ["_law_one"] (spMkP K c)
  GLa : CmX P w K mg base k "Language" C "of" ["cls", "marks", "kinds"] (spOf K C c.a)
  GSt : CmX P w K mg base k "Store" St "of" ["cls", "language", "things"] (spSof K C c.b)
  GQu : CmX P w K mg base k "Question" Qu "of" ["cls", "language", "form"] (spQof K C c.c)
  MS : Mk K St fS
  FS : ∃ j, j + 1 ≤ k ∧ FnR P w K mg base (L2N.CX P w) j fS (fun vs H Q E => ∃ a b, vs = [a, b] ∧ ∀ d, H d = none → spSin K C c.a [a, b, V.ref d] (upd H d (.dK [])) Q E)
  tn : ∀ t ∈ tys0, PySem.W.kitOne K (.type t) (.ref C) = some false
section
variable {P : Program} {w : World} {K : PySem.W.Frag} {mg : Str → Option Value} {base : Heap} {c : Cs}
/-- an error with a message comes: its row -/
theorem row_msg (T : Tab K mg c) {D : Addr} {i : Nat} (hD : c.msg[i]? = some D) {Q : VK} {H : Hp} (h : ∀ p H', Same H H' → H p = none → H' p = some (.lst ((onlyB [i] 14).map V.bl)) → Q (.ref p) H') : eTk K c Q (.ref D) none H := by
  obtain ⟨hO, h9⟩ := msg_own hD
  refine ⟨D, _, rfl, rfl, T.msg D (List.mem_of_getElem? hD), by simp [lineB], fun p H' s n e => h p H' s n ?_⟩
  rw [rowM_at T hO (by omega) (no_msg T)] at e
  exact e
theorem ok_law {T' : List (Addr × Str)} {f g cd Pt C St Qu fS : Addr} {fd fdT : FuncData} {k : Nat} (F : FunC K "law" "law" sLaw f fd cd) (T : Tab K mg c) (G : Lw P w K mg base k c C St Qu fS) (FT : Fun K "_law_taken" "_law_taken" sTk g fdT) (bT : Binds K fdT ["_law_call"] []) (gT : mg "_law_taken" = some (.ref g)) (TB : TabB base mg cd Pt) (hT : (Pt, (("law" : Str) ++ ".<locals>.") ++ "<lambda>") ∈ T') (hU : ∀ p ∈ T', p.1 = Pt → p.2 = (("law" : Str) ++ ".<locals>.") ++ "<lambda>")
    (mRg : mg "range" = none) (mMx : mg "max" = none) (mMn : mg "min" = none) (mLe : mg "len" = none) : FnG P w K mg base CX0 (k + 3) f fd ["_law_script"] (spLaw K T') := by
  refine F.okG scLaw (fun vs H Q E h => ?_) (fun A outer s H vs Q E hgu hr h => ?_)
  · obtain ⟨a, ns, rfl, _⟩ := h
    rfl
  · obtain ⟨a, ns, rfl, hS, hl, tb, q⟩ := h
    obtain ⟨j, hj, FS⟩ := G.FS
    have gu : (A.deeper (envOfC "law" (defScope sLaw) s.heap.objs.size f (.ref cd))).guards = some [] := hgu
    have hu : (A.deeper (envOfC "law" (defScope sLaw) s.heap.objs.size f (.ref cd))).units + 64 < cLine := by have := hr.un; omega
    refine ⟨_, (pss_cons (ps_for PassesOwn.never rfl (pi_range1 rfl mRg (pa_cons (pe_callB (call_max2 rfl) (by rfl) mMx (by decide +kernel) (pa_cons pe_int (pa_cons (pe_callB (call_min2 rfl) (by rfl) mMn (by decide +kernel) (pa_cons pe_int (pa_cons (pe_callB call_len_seq (by rfl) mLe PySem.boot_len (pa_cons (pv 0) pa_nil)) pa_nil))) pa_nil))) pa_nil)) (pg_name (i := 1) scLaw.nd rfl (Or.inl rfl))
        (pss_cons (ps_set (i := 2) scLaw.nd rfl (.inl rfl) (pe_cdn G.GDi hr (pa_cons (pv 0) (pa_cons (pv 1) pa_nil))))
        (pss_cons (ps_if (pt_not (pt_val (pe_cdn G.GMs hr (pa_cons (pe_cdn G.GPi hr (pa_cons (pv 2) (pa_cons (pe_lst (pa_cons pe_str (pa_cons pe_str (pa_cons pe_str (pa_cons pe_str (pa_cons pe_str (pa_cons pe_str pa_nil))))))) pa_nil))) pa_nil)))) (pss_one (ps_ret pe_bl)) pss_nil)
        (pss_cons (ps_if (pt_not (pt_val (pe_cdg G.GVa gu hr (pa_cons (pv 2) pa_nil)))) (pss_one (ps_ret pe_bl)) pss_nil)
        (pss_cons (ps_set (i := 4) scLaw.nd rfl (.inr rfl) (pe_cdn G.GPi hr (pa_cons (pv 2) (pa_cons (pe_lst (pa_cons pe_non (pa_cons pe_int (pa_cons pe_str (pa_cons (pe_lst pa_nil) (pa_cons pe_dnewK (pa_cons (pe_tup (pa_cons pe_str pa_nil)) (pa_cons pe_str (pa_cons pe_bl pa_nil))))))))) pa_nil))))
        (pss_cons (ps_set (i := 3) scLaw.nd rfl (.inl rfl) (pe_lst (pa_cons (pe_taken (k := k) (sc := defScope sLaw) T FT bT gT G.GMk TB rfl hT hU hr (fun A' outer' s' H' E' f' c' hr' => pe_cm G.GLa hr' (L2N.passes_call (L2N.takes_of rfl rfl rfl rfl) (fun _ _ _ _ h => h)) (pa_cons (pe_tup (pa_cons pe_str (pa_cons (pv 4) pa_nil))) (pa_cons (pe_tup (pa_cons pe_str pa_nil)) pa_nil)))) pa_nil)))
        (pss_cons (ps_expr (pe_bm PySem.F.plainAttrs_list PySem.F.slot_list_append PySem.F.type_list_append mt_append (pv 3) (pa_cons (pe_taken (k := k) (sc := defScope sLaw) T FT bT gT G.GMk TB rfl hT hU hr (fun A' outer' s' H' E' f' c' hr' => StX.pe_makeR G.MS FS (hr'.mono hj) (by rfl) G.GSt.g (L2N.passes_call (L2N.takes_of rfl rfl rfl rfl) (fun _ _ _ _ h => h)) (pa_cons (pv 4) pa_nil))) pa_nil)))
        (pss_cons (ps_expr (pe_bm PySem.F.plainAttrs_list PySem.F.slot_list_append PySem.F.type_list_append mt_append (pv 3) (pa_cons (pe_taken (k := k) (sc := defScope sLaw) T FT bT gT G.GMk TB rfl hT hU hr (fun A' outer' s' H' E' f' c' hr' => pe_cm G.GSt hr' (L2N.passes_call (L2N.takes_of rfl rfl rfl rfl) (fun _ _ _ _ h => h)) (pa_cons (pe_cm (E := E') G.GLa hr' (L2N.passes_call (L2N.takes_of rfl rfl rfl rfl) (fun _ _ _ _ h => h)) (pa_cons (pe_tup pa_nil) (pa_cons (pe_tup (pa_cons pe_str pa_nil)) pa_nil))) (pa_cons (pe_disp (pps_cons pe_str (pv 4) pps_nil) rfl rfl (by intro z; cases z) (by decide)) pa_nil)))) pa_nil)))
        (pss_cons (ps_expr (pe_bm PySem.F.plainAttrs_list PySem.F.slot_list_append PySem.F.type_list_append mt_append (pv 3) (pa_cons (pe_taken (k := k) (sc := defScope sLaw) T FT bT gT G.GMk TB rfl hT hU hr (fun A' outer' s' H' E' f' c' hr' => pe_cm G.GQu hr' (L2N.passes_call (L2N.takes_of rfl rfl rfl rfl) (fun _ _ _ _ h => h)) (pa_cons (pe_cm (E := E') G.GLa hr' (L2N.passes_call (L2N.takes_of rfl rfl rfl rfl) (fun _ _ _ _ h => h)) (pa_cons (pe_tup pa_nil) (pa_cons (pe_tup (pa_cons pe_str pa_nil)) pa_nil))) (pa_cons pe_int pa_nil)))) pa_nil)))
        (pss_one (ps_if (pt_cmpR (op_neD hu) (pv 3) (pe_lc (own := [("_law_at", 5)]) (g := gName 5) (tt := tYes) (te := tCall (spOnly K) [] E0 (tCons (tTup (tCons (tVar 5) tNil)) (tCons (tC (.int 14)) tNil))) (by rfl) scLaw.nd (pi_tup (pe_tup (pa_cons pe_int (pa_cons pe_int (pa_cons pe_int (pa_cons pe_int pa_nil)))))) (blkOk_by (own := [("_law_at", 5)]) (N := nLaw) (sc := defScope sLaw) (by decide +kernel)) (fun _ _ _ _ _ => pg_name (i := 5) scLaw.nd rfl (Or.inl rfl)) (fun _ _ _ _ _ => pts_nil) (fun _ _ _ _ _ => pe_cdn G.GOn hr (pa_cons (pe_tup (pa_cons (pv 5) pa_nil)) (pa_cons pe_int pa_nil)))) (nomark _)) (pss_one (ps_ret pe_bl)) pss_nil)))))))))))
      (pss_one (ps_ret (pe_cmpR (op_eqD hu) (pe_taken (k := k) (sc := defScope sLaw) T FT bT gT G.GMk TB rfl hT hU hr (fun A' outer' s' H' E' f' c' hr' => pe_cm G.GLa hr' (L2N.passes_call (L2N.takes_of rfl rfl rfl rfl) (fun _ _ _ _ h => h)) (pa_cons (pe_tup pa_nil) (pa_cons (pe_tup (pa_cons pe_str pa_nil)) pa_nil)))) (pe_lst pa_nil) (nomark _))))), ?_⟩
    have kT : (k + 2) = k + 2 := rfl
    -- the draws
    refine ⟨.ref a, rfl, a, _, rfl, .inl hS, 8, _, rfl, 1, _, rfl, ?_⟩
    obtain ⟨N, eN⟩ : ∃ N : Int, N = (if (if ((ns.map V.int).length : Int) < 8 then ((ns.map V.int).length : Int) else 8) > 1 then (if ((ns.map V.int).length : Int) < 8 then ((ns.map V.int).length : Int) else 8) else 1) := ⟨_, rfl⟩
    rw [← eN]
    have n1 : 1 ≤ N ∧ N ≤ 8 := by
      rw [eN]
      split <;> split <;> omega
    refine ⟨N, rfl, by omega, by omega, for_range (n := N.toNat) (fun i σ H' => ∃ o1 o2 o3 o4 : Option V, σ = [some (.ref a), o1, o2, o3, o4, none] ∧ SqL K H' a (ns.map V.int) ∧ Tabs T' H') ⟨none, none, none, none, rfl, hS, tb⟩ ?_ ?_⟩
    · rintro i σ H1 hi ⟨o1, o2, o3, o4, rfl, hS1, tb1⟩
      refine ⟨.ref a, rfl, _, rfl, a, ns, _, rfl, hS1, by omega, by omega, fun d H2 s2 nd dc2 => ?_⟩
      have tb2 := tb1.same s2
      have ndd : ∀ {G : Hp} {l : Addr}, Dice G d → G l = none → d ≠ l := fun dc n z => by
        obtain ⟨_, _, _, _, e⟩ := dc
        rw [z, n] at e
        cases e
      have up : ∀ {G G' : Hp}, Dice G d → Same G G' → Dice G' d := fun dc s => by
        obtain ⟨x, y, z, p, e⟩ := dc
        exact ⟨x, y, z, p, s _ _ e⟩
      have sn : ∀ {G G' : Hp}, Same G G' → Nr d G G' := fun s b o _ h => s b o h
      -- messages
      refine ⟨.ref d, rfl, by show 6 ≤ sizeLine; decide, fun l1 m1 => ?_⟩
      have k1 := ndd dc2 m1
      have e3 : (upd H2 l1 (.lst [.str "", .str "a store is expected", .str "no", .str "one: new / -", .str " ", .str "1"])) l1 = some (.lst [.str "", .str "a store is expected", .str "no", .str "one: new / -", .str " ", .str "1"]) := upd_same
      have s3 : Same H2 (upd H2 l1 (.lst [.str "", .str "a store is expected", .str "no", .str "one: new / -", .str " ", .str "1"])) := same_new m1
      generalize upd H2 l1 (.lst [.str "", .str "a store is expected", .str "no", .str "one: new / -", .str " ", .str "1"]) = H3 at *
      refine ⟨d, l1, _, rfl, up dc2 s3, e3, k1, by simp, by show 6 < 1000; decide, fun v1 H4 _ r4 dc4 => ?_⟩
      refine ⟨v1, rfl, fun H5 s5 => ⟨true, rfl, iteF ?_⟩⟩
      have n5 : Nr d H2 H5 := (sn s3).trans (r4.trans (sn s5))
      have dc5 := up dc4 s5
      -- values
      refine ⟨.ref d, rfl, d, rfl, dc5, fun H6 r6 dc6 => ⟨true, rfl, iteF ?_⟩⟩
      have n6 := n5.trans r6
      clear n5 dc5 s5 dc4 r4 e3 s3 k1 m1
      -- the odd value
      refine ⟨.ref d, rfl, by show 0 ≤ sizeLine; decide, fun a1 m1 => ?_⟩
      have e7 : (upd H6 a1 (.lst [])) a1 = some (.lst []) := upd_same
      have s7 : Same H6 (upd H6 a1 (.lst [])) := same_new m1
      generalize upd H6 a1 (.lst []) = H7 at *
      refine fun a2 m2 => ?_
      have e8 : (upd H7 a2 (.dK [])) a2 = some (.dK []) := upd_same
      have s8 : Same H7 (upd H7 a2 (.dK [])) := same_new m2
      generalize upd H7 a2 (.dK []) = H8 at *
      refine ⟨by show 1 ≤ sizeLine; decide, fun a3 m3 => ?_⟩
      have e9 : (upd H8 a3 (.tup [.str "new"])) a3 = some (.tup [.str "new"]) := upd_same
      have s9 : Same H8 (upd H8 a3 (.tup [.str "new"])) := same_new m3
      generalize upd H8 a3 (.tup [.str "new"]) = H9 at *
      refine ⟨by show 8 ≤ sizeLine; decide, fun l2 m4 => ?_⟩
      have dc9 := up dc6 (s7.trans (s8.trans s9))
      have k2 := ndd dc9 m4
      have e10 : (upd H9 l2 (.lst [.non, .int 0, .str "A", .ref a1, .ref a2, .ref a3, .str "ninechars", .bl true])) l2 = some (.lst [.non, .int 0, .str "A", .ref a1, .ref a2, .ref a3, .str "ninechars", .bl true]) := upd_same
      have s10 : Same H9 (upd H9 l2 (.lst [.non, .int 0, .str "A", .ref a1, .ref a2, .ref a3, .str "ninechars", .bl true])) := same_new m4
      generalize upd H9 l2 (.lst [.non, .int 0, .str "A", .ref a1, .ref a2, .ref a3, .str "ninechars", .bl true]) = H10 at *
      refine ⟨d, l2, _, rfl, up dc9 s10, e10, k2, by simp, by show 8 < 1000; decide, fun x H11 mx r11 dc11 => ?_⟩
      have kL : ∀ {b : Addr} {o : HO}, H10 b = some o → (∀ x y z : Int, o ≠ .lst [.int x, .int y, .int z]) → H11 b = some o := fun {b o} h no => r11 b o (fun z => by
        obtain ⟨x, y, w', _, e⟩ := up dc9 s10
        rw [z, e] at h
        exact no x y w' (Option.some.inj h).symm) h
      have ox : OdV H11 x := by
        have h1 := kL (s10 _ _ (s9 _ _ (s8 _ _ e7))) (fun x y z e => by cases e)
        have h2 := kL (s10 _ _ (s9 _ _ e8)) (fun x y z e => by cases e)
        have h3 := kL (s10 _ _ e9) (fun x y z e => by cases e)
        simp only [List.mem_cons, List.not_mem_nil, or_false] at mx
        rcases mx with rfl | rfl | rfl | rfl | rfl | rfl | rfl | rfl
        · exact .non
        · exact .int 0
        · exact .str _ (by decide +kernel) (by decide +kernel)
        · exact .lst h1
        · exact .dct h2
        · exact .tup h3
        · exact .str _ (by decide +kernel) (by decide +kernel)
        · exact .bl true
      have n11 : Nr d H2 H11 := n6.trans ((sn (s7.trans (s8.trans (s9.trans s10)))).trans r11)
      have tb11 : Tabs T' H11 := tb2.nr n11 dc2
      have S11 : SqL K H11 a (ns.map V.int) := sql_kept hS1 nd s2 n11.kpd
      clear kL r11 k2 e10 s10 m4 dc9 e9 s9 m3 e8 s8 m2 e7 s7 m1 n6 dc6 r6 n11 tb2 tb1 hS1 s2 dc2
      -- the first call
      refine ⟨tb11, fun G1 c1 ex1 tg1 hc1 => ⟨rfl, hc1, rfl, rfl, x, rfl, by show 2 ≤ sizeLine; decide, fun t1 m1 => ?_⟩⟩
      have e2 : (upd G1 t1 (.tup [.str "new", x])) t1 = some (.tup [.str "new", x]) := upd_same
      have s2 : Same G1 (upd G1 t1 (.tup [.str "new", x])) := same_new m1
      generalize upd G1 t1 (.tup [.str "new", x]) = G2 at *
      refine ⟨by show 1 ≤ sizeLine; decide, fun t2 m2 => ?_⟩
      have e3 : (upd G2 t2 (.tup [.str "by"])) t2 = some (.tup [.str "by"]) := upd_same
      have s3 : Same G2 (upd G2 t2 (.tup [.str "by"])) := same_new m2
      generalize upd G2 t2 (.tup [.str "by"]) = G3 at *
      have o3 : ∀ G', Same G3 G' → OdV G' x := fun G' s' => ox.keeps ((keeps_ext ex1).trans (keeps_same (s2.trans (s3.trans s'))))
      refine ⟨_, _, rfl, .inr ⟨t1, _, rfl, tup_of (s3 _ _ e2), fun y hy G' s' => ?_, by show 2 ≤ 60; decide, fun _ => ?_, fun cc => ?_⟩⟩
      · rcases List.mem_cons.mp hy with rfl | hy
        · exact ⟨.inl ⟨"new", rfl, by decide⟩, .inl ⟨"new", rfl⟩⟩
        · obtain rfl : y = x := by simpa using hy
          exact (o3 G' s').item
      rotate_left
      · have : ([V.str "new", x].all isN) = false := by
          simp [(o3 G3 (Same.refl G3)).isN]
        rw [this] at cc
        cases cc
      intro G4 s4
      refine row_msg T (i := 0) rfl fun p1 G5 s5 np1 h1 => ?_
      refine Fd.new ex1 tg1 (s2.trans (s3.trans (s4.trans s5))) h1 fun l G6 fd1 => ?_
      clear h1 np1 s5 s4 o3 e3 s3 m2 e2 s2 m1 hc1 tg1 ex1
      -- Store(x)
      refine ⟨.ref l, rfl, .inl ⟨rfl, _, lst_of fd1.el⟩, fd1.tb, fun G1 c1 ex1 tg1 hc1 => ⟨rfl, hc1, rfl, x, rfl, fun y dy ny ndy nyd => ?_⟩⟩
      have s2 : Same G1 (upd (upd G1 dy (.own y)) y (.ins St dy [])) := (same_new ndy).mut ny
      refine ⟨_, _, rfl, fun d0 nd0 => ?_⟩
      have s3 := s2.new (o := .dK []) nd0
      generalize upd (upd (upd G1 dy (.own y)) y (.ins St dy [])) d0 (.dK []) = G2 at s3 ⊢
      have o2 : OdV G2 x := ox.keeps ((keeps_ext fd1.kp).trans ((keeps_ext ex1).trans (keeps_same s3)))
      refine ⟨_, _, _, rfl, o2.lang G.tn, row_msg T (i := 0) rfl fun p2 G5 s5 np2 h2 => ?_⟩
      have hl2 : G2 l = some (.lst _) := s3 _ _ (ex1 _ _ fd1.el fun ps z => by cases z)
      refine fd1.app ex1 tg1 (s3.trans s5) (fun z => by rw [z, hl2] at np2; cases np2) h2 (by show 1 < 100; decide) fun G7 fd2 => ?_
      clear hl2 h2 np2 s5 o2 s3 s2 nd0 ny ndy nyd hc1 tg1 ex1 fd1
      -- Store.of
      refine ⟨.ref l, rfl, .inl ⟨rfl, _, lst_of fd2.el⟩, fd2.tb, fun G1 c1 ex1 tg1 hc1 => ⟨rfl, hc1, rfl, rfl, rfl, by show 0 ≤ sizeLine; decide, fun t1 m1 => ?_⟩⟩
      have e2 : (upd G1 t1 (.tup [])) t1 = some (.tup []) := upd_same
      have s2 : Same G1 (upd G1 t1 (.tup [])) := same_new m1
      generalize upd G1 t1 (.tup []) = G2 at *
      refine ⟨by show 1 ≤ sizeLine; decide, fun t2 m2 => ?_⟩
      have e3 : (upd G2 t2 (.tup [.str "by"])) t2 = some (.tup [.str "by"]) := upd_same
      have s3 : Same G2 (upd G2 t2 (.tup [.str "by"])) := same_new m2
      generalize upd G2 t2 (.tup [.str "by"]) = G3 at *
      refine ⟨_, _, rfl, made_by (s3 _ _ e2) e3 fun lx G4 s4 _ la => ?_⟩
      refine fun pd npd => ⟨x, rfl, upd_same, [(Sum.inr ("one" : Str), x)], rfl, by show 1 ≤ 15; decide, ?_⟩
      obtain ⟨dx, fs, _, _, h1, -⟩ := la
      have sG : Same G1 G4 := s2.trans (s3.trans s4)
      have o4 : OdV G4 x := ox.keeps ((keeps_ext fd2.kp).trans ((keeps_ext ex1).trans (keeps_same sG)))
      have nD : ∀ {b : Addr} {o : HO}, G4 b = some o → (upd (upd G4 pd (.dK [])) pd (.dK (mergeK [] [(Sum.inr ("one" : Str), x)]))) b = some o := fun {b o} h => by
        have nb := ne_of_none h npd
        rw [upd_ne nb, upd_ne nb]
        exact h
      have nE : ∀ {H' : Hp}, Nr pd (upd (upd G4 pd (.dK [])) pd (.dK (mergeK [] [(Sum.inr ("one" : Str), x)]))) H' → Same G4 H' := fun n b o h => n b o (ne_of_none h npd) (nD h)
      refine ⟨_, x, lx, dx, pd, fs, rfl, nD h1, upd_same, fun H' n => (o4.keeps (keeps_same (nE n))).pair, fun H' n => row_msg T (i := 1) rfl fun p3 G5 s5 np3 h3 => ?_⟩
      have sH : Same G1 H' := sG.trans (nE n)
      have hl3 : H' l = some (.lst _) := sH _ _ (ex1 _ _ fd2.el fun ps z => by cases z)
      refine fd2.app ex1 tg1 (sH.trans s5) (fun z => by rw [z, hl3] at np3; cases np3) h3 (by show 2 < 100; decide) fun G8 fd3 => ?_
      clear hl3 sH h3 np3 s5 n nE nD o4 sG h1 npd s4 e3 s3 m2 e2 s2 m1 hc1 tg1 ex1 fd2
      -- Question.of
      refine ⟨.ref l, rfl, .inl ⟨rfl, _, lst_of fd3.el⟩, fd3.tb, fun G1 c1 ex1 tg1 hc1 => ⟨rfl, hc1, rfl, rfl, rfl, by show 0 ≤ sizeLine; decide, fun t1 m1 => ?_⟩⟩
      have e2 : (upd G1 t1 (.tup [])) t1 = some (.tup []) := upd_same
      have s2 : Same G1 (upd G1 t1 (.tup [])) := same_new m1
      generalize upd G1 t1 (.tup []) = G2 at *
      refine ⟨by show 1 ≤ sizeLine; decide, fun t2 m2 => ?_⟩
      have e3 : (upd G2 t2 (.tup [.str "by"])) t2 = some (.tup [.str "by"]) := upd_same
      have s3 : Same G2 (upd G2 t2 (.tup [.str "by"])) := same_new m2
      generalize upd G2 t2 (.tup [.str "by"]) = G3 at *
      refine ⟨_, _, rfl, made_by (s3 _ _ e2) e3 fun lx G4 s4 _ la => ?_⟩
      obtain ⟨dx, fs, _, _, h1, -⟩ := la
      have sG : Same G1 G4 := s2.trans (s3.trans s4)
      refine ⟨_, lx, dx, fs, 7, rfl, h1, fun H' s' => row_msg T (i := 2) rfl fun p4 G5 s5 np4 h4 => ?_⟩
      have sH : Same G1 H' := sG.trans s'
      have hl4 : H' l = some (.lst _) := sH _ _ (ex1 _ _ fd3.el fun ps z => by cases z)
      refine fd3.app ex1 tg1 (sH.trans s5) (fun z => by rw [z, hl4] at np4; cases np4) h4 (by show 3 < 100; decide) fun G9 fd4 => ?_
      clear hl4 sH h4 np4 s5 s' sG h1 s4 e3 s3 m2 e2 s2 m1 hc1 tg1 ex1 fd3
      -- the rows
      refine ⟨.ref l, rfl, by show 4 ≤ sizeLine; decide, fun tq mq => ?_⟩
      have eA : (upd G9 tq (.tup [.int 0, .int 0, .int 1, .int 2])) tq = some (.tup [.int 0, .int 0, .int 1, .int 2]) := upd_same
      have sA : Same G9 (upd G9 tq (.tup [.int 0, .int 0, .int 1, .int 2])) := same_new mq
      generalize upd G9 tq (.tup [.int 0, .int 0, .int 1, .int 2]) = GA at *
      refine ⟨tq, rfl, ⟨_, tup_of eA⟩, fun D nD => ?_⟩
      refine lc_it (walk_tup (xs := [.int 0, .int 0, .int 1, .int 2])) (fun i H' => Same GA H' ∧ ∃ ps : List Addr, H' D = some (.lst (ps.map V.ref)) ∧ RowsAt D H' ps ((([0, 0, 1, 2] : List Nat).take i).map fun j => onlyB [j] 14)) ⟨same_new nD, [], upd_same, .nil⟩ (fun i H' _ p => tup_of (p.1 _ _ eA)) ?_ ?_
      · rintro i y H' H'' hi ⟨sB, ps, eD, rw'⟩ ⟨rfl, ey⟩
        have hi4 : i < 4 := hi
        have hj : (([0, 0, 1, 2] : List Nat).map fun (j : Nat) => V.int j)[i]? = some y := ey
        have hi5 : i < ([0, 0, 1, 2] : List Nat).length := hi
        rw [List.getElem?_map, List.getElem?_eq_getElem hi5] at hj
        have ey' : V.int (([0, 0, 1, 2] : List Nat)[i] : Nat) = y := Option.some.inj hj
        subst ey'
        have tk : ([0, 0, 1, 2] : List Nat).take (i + 1) = ([0, 0, 1, 2] : List Nat).take i ++ [([0, 0, 1, 2] : List Nat)[i]] := by rw [List.take_add_one, List.getElem?_eq_getElem hi5]; rfl
        generalize ([0, 0, 1, 2] : List Nat)[i] = jj at tk
        refine ⟨rfl, ?_⟩
        unfold tYes
        show ite _ _ _
        rw [if_pos rfl]
        refine ⟨_, rfl, by show 1 ≤ sizeLine; decide, fun t m => ?_⟩
        have e3 : (upd H'' t (.tup [.int (jj : Int)])) t = some (.tup [.int (jj : Int)]) := upd_same
        have s3 : Same H'' (upd H'' t (.tup [.int (jj : Int)])) := same_new m
        generalize upd H'' t (.tup [.int (jj : Int)]) = H3 at *
        refine ⟨t, [jj], 14, rfl, tup_of e3, by decide, fun p H4 s4 np h4 => ?_⟩
        have eD4 := s4 _ _ (s3 _ _ eD)
        have neD : p ≠ D := fun z => by
          rw [z, s3 _ _ eD] at np
          cases np
        have lp := rw'.len
        rw [List.length_map, List.length_take] at lp
        refine ⟨_, eD4, by rw [List.length_map]; exact Nat.lt_of_le_of_lt (show ps.length ≤ 100 by omega) (by decide), (sB.trans (s3.trans s4)).mut nD, ps ++ [p], by rw [upd_same, List.map_append]; rfl, ?_⟩
        rw [tk, List.map_append]
        refine RowsAt.snoc neD (by rw [upd_ne neD]; exact h4) (rw'.imp fun q qs nq hq => ?_)
        rw [upd_ne nq]
        exact s4 _ _ (s3 _ _ hq)
      · rintro GB ⟨sB, ps, eD, rw'⟩
        have sC := sA.trans sB
        refine ⟨_, _, .lst (lst_of (sC _ _ fd4.el)) ((fd4.rw.imp fun q qs _ hq => sC _ _ hq).dp), .lst (lst_of eD) rw'.dp, shaped_rows _, shaped_rows _, ?_⟩
        have e4 : PyData.eqv (.list (dBB ((([onlyB [0] 14] ++ [onlyB [0] 14]) ++ [onlyB [1] 14]) ++ [onlyB [2] 14]))) (.list (dBB ((([0, 0, 1, 2] : List Nat).take 4).map fun j => onlyB [j] 14))) = true := eqv_rows _
        refine ⟨false, ?_, iteF ⟨_, _, _, _, rfl, ?_, fd4.tb.same sC⟩⟩
        · show V.bl (!PyData.eqv _ _) = V.bl false
          exact congrArg (fun b => V.bl (!b)) e4
        · rcases S11 with (h | ⟨o, h⟩) | h
          · exact .inl (.inl (sC _ _ (fd4.kp _ _ h fun ps z => by cases z)))
          · exact .inl (.inr ⟨o, sC _ _ (fd4.kp _ _ h fun ps z => by cases z)⟩)
          · exact .inr h
    rintro σ H1 ⟨o1, o2, o3, o4, rfl, hS1, tb1⟩
    refine ⟨tb1, fun G1 c1 ex1 tg1 hc1 => ⟨rfl, hc1, rfl, rfl, by show 0 ≤ sizeLine; decide, fun t1 m1 => ?_⟩⟩
    have e2 : (upd G1 t1 (.tup [])) t1 = some (.tup []) := upd_same
    have s2 : Same G1 (upd G1 t1 (.tup [])) := same_new m1
    generalize upd G1 t1 (.tup []) = G2 at *
    refine ⟨by show 1 ≤ sizeLine; decide, fun t2 m2 => ?_⟩
    have e3 : (upd G2 t2 (.tup [.str "by"])) t2 = some (.tup [.str "by"]) := upd_same
    have s3 : Same G2 (upd G2 t2 (.tup [.str "by"])) := same_new m2
    generalize upd G2 t2 (.tup [.str "by"]) = G3 at *
    refine ⟨_, _, rfl, made_by (s3 _ _ e2) e3 fun lx G4 s4 _ la => ?_⟩
    refine ⟨by decide, fun l m => ?_⟩
    have e5 : (upd G4 l (.lst [])) l = some (.lst []) := upd_same
    have s5 : Same G4 (upd G4 l (.lst [])) := same_new m
    generalize upd G4 l (.lst []) = G5 at *
    refine ⟨by show 0 ≤ sizeLine; decide, fun l' m' => ?_⟩
    have e6 : (upd G5 l' (.lst [])) l' = some (.lst []) := upd_same
    have s6 : Same G5 (upd G5 l' (.lst [])) := same_new m'
    generalize upd G5 l' (.lst []) = G6 at *
    exact ⟨_, _, .lst (lst_of (s6 _ _ e5)) .nil, .lst (lst_of e6) .nil, by decide, by decide, q _⟩
end
end Tf

/-! the end of a law over a head by one kernel run -/
namespace TfHd
open PySem PySem.Spec PyProof.Rows L2 TfG
theorem walk_H {l : PySem.W.OpenLaw} {n k : Nat} {q : Program} {loose : List Str} {XP : (Str → Option Value) → Heap → Prop} {YP : World → Heap → Prop} {d : DefRec} {CX : World → CXT} {x : Str}
    (hn : l.most = some n) (hn2 : n ≤ sizeLine) (hdf : d.params.defaults = []) (hr : Room k callerA)
    (F : ∀ (w : World) (mg : Str → Option Value) (fa : Addr) (h : Heap), YP w h → h.Ns mainGlobals mg → (∀ K : PySem.W.Frag, K.In h → ∀ (x : Str) (c P : Addr), ((recsOf q).any fun e => e.name == x) = true → PySem.W.tabIn K x = some (c, P) → PySem.W.CodeHd h c P ∧ h.get? P = some { cls := .none, data := .fields #[] }) → mg d.name = some (.ref fa) → ∃ K : PySem.W.Frag, K.In h ∧ LawG l w K (CX w) k n x mg fa h)
    (hCX : ∀ (w : World) (H : Hp) (s : Shared) (e : Value) (s' : Shared), CX w [] H s (fun _ _ _ => False) e s' → False) : PySem.W.WalkO q loose XP YP l.row.toRowW d [] (fun f vs => PySem.call f vs) :=
  Att.attach_callB hn hdf fun w s₀ s₁ mg mb fa o pm cd doc a vs ns G Y _ _ _ hmg hobj hints hlen hbits hg => by
    obtain ⟨K, KX, fd, cs, sp, ⟨hT, nT, C⟩, hb, hsp, hF⟩ := F w mg fa _ Y G.T.g (fun K KX x c P' hr ht => by
      obtain ⟨e, he⟩ := Option.isSome_iff_exists.mp (show ((recsOf q).find? fun e => e.name == x).isSome = true by rw [List.find?_isSome]; exact List.any_eq_true.mp hr)
      exact PySem.W.tab_of G.T KX he ht) hmg
    exact law_callG KX G.T.g G.T.b G.T.builtins G.T.nolimit hg hT nT C G.T.bmain hobj hints (Nat.le_trans hlen hn2) hr hF hb (fun H hH hS => hsp H a ns hlen hbits hH hS) fun H e s' => hCX w H s₁ e s'
end TfHd

/-! the end: what the written part tells -/
namespace Tf
open PySem PySem.Spec PyProof.Rows L2 ClX LamX TfG TfE
theorem kit_ref {K : PySem.W.Frag} {t : Value} {C : Addr} {b : Bool} (hc : PySem.W.isClsIn K C = true) (ht : PySem.W.typeIn K (.ref C) = some (.type "type")) (hne : (t == Value.ref C) = false) (h : PySem.W.subIn K t (.ref C) = some b) : PySem.W.kitOne K t (.ref C) = some b := by
  have e2 : ((PySem.W.clsIn K C).isSome && PySem.W.typeIn K (.ref C) == some (.type "type")) = true := by
    have h2' : (PySem.W.clsIn K C).isSome = true := hc
    rw [h2', ht] <;> rfl
  unfold PySem.W.kitOne PySem.W.kitCls
  rw [hne, if_neg Bool.false_ne_true]
  show (if ((PySem.W.clsIn K C).isSome && PySem.W.typeIn K (.ref C) == some (.type "type")) = true then PySem.W.subIn K t (.ref C) else none) = some b
  rw [if_pos e2]
  exact h
theorem kit_refT {K : PySem.W.Frag} {t : Value} {C : Addr} (hc : PySem.W.isClsIn K C = true) (ht : PySem.W.typeIn K (.ref C) = some (.type "type")) (h : PySem.W.subIn K t (.ref C) = some true) : PySem.W.kitOne K t (.ref C) = some true := by
  cases e : (t == Value.ref C) with
  | false => exact kit_ref hc ht e h
  | true =>
    unfold PySem.W.kitOne
    rw [e, if_pos rfl]
theorem kit_refB {K : PySem.W.Frag} {C : Addr} {T : String} {b : Bool} (hm : PySem.W.kitMeta T = true) (h : PySem.W.subIn K (.ref C) (.type T) = some b) : PySem.W.kitOne K (.ref C) (.type T) = some b := by
  have e : (Value.ref C == Value.type T) = false := beq_eq_false_iff_ne.mpr (fun z => by cases z)
  unfold PySem.W.kitOne PySem.W.kitCls
  rw [e, if_neg Bool.false_ne_true]
  show (if PySem.W.kitMeta T = true then PySem.W.subIn K (.ref C) (.type T) else none) = some b
  rw [if_pos hm]
  exact h
theorem ty_ne (t : String) (C : Addr) : (Value.type t == Value.ref C) = false := beq_eq_false_iff_ne.mpr (fun z => by cases z)
theorem sup_in {K : PySem.W.Frag} {CI CT : Addr} {nm q : Str} {N : Addr} {bs : List Value} {sn : List Str} {sub : List Value} {ab : Bool} {col : Option Bool} {dd : Option Addr} {m0 m1 m2 m3 m5 : Option Value}
    (l : K.lookup CI = some (excClassObj nm q CI N bs (.ref CT :: veBm) true sn sub ab col dd m0 m1 m2 m3 m5 "ValueError.__new__")) (ne : CI ≠ CT) : PySem.W.ks_superIn K CI CT "__init__" = some (some (.builtin "ValueError.__init__")) := by
  unfold PySem.W.ks_superIn PySem.W.clsIn
  rw [l]
  show PySem.W.alongIn K "__init__" (((Value.ref CI :: Value.ref CT :: veBm).dropWhile (· != .ref CT)).drop 1) = _
  have e1 : (Value.ref CI != Value.ref CT) = true := bne_iff_ne.mpr (fun z => ne (Value.ref.inj z))
  have e2 : (Value.ref CT != Value.ref CT) = false := bne_self_eq_false _
  rw [List.dropWhile_cons_of_pos (by exact e1), List.dropWhile_cons_of_neg (by rw [e2]; exact Bool.false_ne_true)]
  show PySem.W.alongIn K "__init__" veBm = _
  have e3 : PySem.fastBuiltinOwn "ValueError" "__init__" = some (.builtin "ValueError.__init__") := by decide +kernel
  have e4 : PySem.W.ownIn K "__init__" (.type "ValueError") = some (some (.builtin "ValueError.__init__")) := congrArg some e3
  show PySem.W.alongIn K "__init__" (.type "ValueError" :: [.type "Exception", .type "BaseException", .type "object"]) = _
  unfold PySem.W.alongIn
  rw [e4]
theorem line_tree {CI CT : Addr} : PySem.TfKE.LineOk "ValueError" (Value.ref CI :: Value.ref CT :: veBm) := by
  refine ⟨?_, ?_, ?_⟩ <;> rw [List.contains_cons, ty_ne, List.contains_cons, ty_ne] <;> decide +kernel
theorem line_ve {C : Addr} : PySem.TfKE.LineOk "ValueError" (Value.ref C :: veBm) := by
  refine ⟨?_, ?_, ?_⟩ <;> rw [List.contains_cons, ty_ne] <;> decide +kernel
theorem line_j {C : Addr} : PySem.TfKE.LineOk "IndexError" (Value.ref C :: ixBm) := by
  refine ⟨?_, ?_, ?_⟩ <;> rw [List.contains_cons, ty_ne] <;> decide +kernel
theorem line_k {C : Addr} : PySem.TfKE.LineOk "LookupError" (Value.ref C :: PySem.TfKE.keBm) := by
  refine ⟨?_, ?_, ?_⟩ <;> rw [List.contains_cons, ty_ne] <;> decide +kernel
theorem line_l {C : Addr} : PySem.TfKE.LineOk "OverflowError" (Value.ref C :: ovBm) := by
  refine ⟨?_, ?_, ?_⟩ <;> rw [List.contains_cons, ty_ne] <;> decide +kernel
theorem line_m {C : Addr} : PySem.TfKE.LineOk "ArithmeticError" (Value.ref C :: arBm) := by
  refine ⟨?_, ?_, ?_⟩ <;> rw [List.contains_cons, ty_ne] <;> decide +kernel
theorem line_n {C : Addr} : PySem.TfKE.LineOk "LookupError" (Value.ref C :: luBm) := by
  refine ⟨?_, ?_, ?_⟩ <;> rw [List.contains_cons, ty_ne] <;> decide +kernel
section
variable {K : PySem.W.Frag} {C : Addr} {nm q : Str} {N : Addr} {bs : List Value} {sn : List Str} {sub : List Value} {ab : Bool} {col : Option Bool} {dd : Option Addr} {m0 m1 m2 m3 m5 : Option Value} {bm : List Value} {newId : String}
theorem cls_of (l : K.lookup C = some (excClassObj nm q C N bs bm true sn sub ab col dd m0 m1 m2 m3 m5 newId)) : PySem.W.clsIn K C = some { name := nm, bases := bs, mro := .ref C :: bm, ns := N, qualname := q, hasDict := true, slotNames := sn, subclasses := sub, abstract := ab, collection := col, hasDel := false } := by
  unfold PySem.W.clsIn
  rw [l] <;> rfl
theorem sup_self {B i : String} {r : List Value} (l : K.lookup C = some (excClassObj nm q C N bs (.type B :: r) true sn sub ab col dd m0 m1 m2 m3 m5 newId)) (e3 : PySem.fastBuiltinOwn B "__init__" = some (.builtin i)) : PySem.W.ks_superIn K C C "__init__" = some (some (.builtin i)) := by
  unfold PySem.W.ks_superIn
  rw [cls_of l]
  show PySem.W.alongIn K "__init__" (((Value.ref C :: .type B :: r).dropWhile (· != .ref C)).drop 1) = _
  have e2 : (Value.ref C != Value.ref C) = false := bne_self_eq_false _
  rw [List.dropWhile_cons_of_neg (by rw [e2]; exact Bool.false_ne_true)]
  have e4 : PySem.W.ownIn K "__init__" (.type B) = some (some (.builtin i)) := congrArg some e3
  show PySem.W.alongIn K "__init__" (.type B :: r) = _
  unfold PySem.W.alongIn
  rw [e4]
theorem fld_self {f : Str} (l : K.lookup C = some (excClassObj nm q C N bs bm true sn sub ab col dd m0 m1 m2 m3 m5 newId)) (h1 : PySem.W.findIn K (.ref C) "__setattr__" = some (some (.builtin "object.__setattr__"))) (h2 : PySem.W.findIn K (.ref C) f = some none) (h3 : PySem.W.mroIn K C (.type "object") = some true) (h4 : ∀ self : Value, refuseLoop self "__setattr__" bm = pure ()) : PySem.TfSF.FldTxt K C f :=
  ⟨h1, h2, h3, _, bm, cls_of l, rfl, h4, rfl⟩
theorem ecls_of (l : K.lookup C = some (excClassObj nm q C N bs bm true sn sub ab col dd m0 m1 m2 m3 m5 newId)) (h1 : PySem.W.findIn K (.ref C) "__getattribute__" = some (some (.builtin "BaseException.__getattribute__"))) (h2 : PySem.W.findIn K (.ref C) "__getattr__" = some none) (h3 : PySem.W.subIn K (.ref C) (.type "BaseException") = some true) (h4 : PySem.W.hasDictIn K C = true) (h5 : PySem.W.findIn K (.ref C) "__class__" = some (some (.builtin "object.__class__")))
    (h6 : PySem.W.specialIn K (.builtin "object.__class__") "__get__" = some (some (.builtin "getset_descriptor.__get__"))) (h7 : PySem.W.takesIn K (.builtin "object.__class__") = some true) (h8 : PySem.W.mroIn K C (.type "object") = some true) (h9 : PySem.W.typeIn K (.ref C) = some (.type "type")) : ECls K C bm :=
  ⟨⟨h1, h2, h3, h4, h5, h6, h7, h8⟩, ⟨_, cls_of l, rfl⟩, h9⟩
end
theorem all_mk {P : Program} {w : World} {K : PySem.W.Frag} {h : Heap} {mg : Str → Option Value} {fa : Addr} (X : K.In h) (G : h.Ns mainGlobals mg) (hfa : mg "law" = some (.ref fa)) {l : PySem.W.OpenLaw} (hP : l.prog = P)
    {rec : Str → Prop} (tab : ∀ (x : Str) (c P : Addr), rec x → PySem.W.tabIn K x = some (c, P) → PySem.W.CodeHd h c P ∧ h.get? P = some { cls := .none, data := .fields #[] }) (rc1 : rec "law")
    {C St Qu CM pOf pSo pQo fMi : Addr}
    {t8 t4 t9 ts tN tL : Tok} {rOf rSo rQo : List Value}
    {CEt : Addr} {nmEt qEt : Str} {NEt : Addr} {bsEt : List Value} {snEt : List Str} {subEt : List Value} {abEt : Bool} {colEt : Option Bool} {ddEt : Option Addr} {m0Et m1Et m2Et m3Et m5Et : Option Value}
    {fEt ccEt cdaEt : Addr} {ocEt dcEt pmEt ctEt cclEt clEt : Value} {odEt anEt cddEt cldEt : Option Addr} {slEt ccsEt cslEt : Array (Option Value)} {vsEt : Array Value} {p1Et p2Et q1Et q2Et q3Et q4Et q5Et q6Et : Pos} {fileEt : Str} {tfEt : Tok}
    {CEa : Addr} {nmEa qEa : Str} {NEa : Addr} {bsEa : List Value} {snEa : List Str} {subEa : List Value} {abEa : Bool} {colEa : Option Bool} {ddEa : Option Addr} {m0Ea m1Ea m2Ea m3Ea m5Ea : Option Value}
    {CEb : Addr} {nmEb qEb : Str} {NEb : Addr} {bsEb : List Value} {snEb : List Str} {subEb : List Value} {abEb : Bool} {colEb : Option Bool} {ddEb : Option Addr} {m0Eb m1Eb m2Eb m3Eb m5Eb : Option Value}
    {CEc : Addr} {nmEc qEc : Str} {NEc : Addr} {bsEc : List Value} {snEc : List Str} {subEc : List Value} {abEc : Bool} {colEc : Option Bool} {ddEc : Option Addr} {m0Ec m1Ec m2Ec m3Ec m5Ec : Option Value}
    {CEd : Addr} {nmEd qEd : Str} {NEd : Addr} {bsEd : List Value} {snEd : List Str} {subEd : List Value} {abEd : Bool} {colEd : Option Bool} {ddEd : Option Addr} {m0Ed m1Ed m2Ed m3Ed m5Ed : Option Value}
    {CEe : Addr} {nmEe qEe : Str} {NEe : Addr} {bsEe : List Value} {snEe : List Str} {subEe : List Value} {abEe : Bool} {colEe : Option Bool} {ddEe : Option Addr} {m0Ee m1Ee m2Ee m3Ee m5Ee : Option Value}
    {CEf : Addr} {nmEf qEf : Str} {NEf : Addr} {bsEf : List Value} {snEf : List Str} {subEf : List Value} {abEf : Bool} {colEf : Option Bool} {ddEf : Option Addr} {m0Ef m1Ef m2Ef m3Ef m5Ef : Option Value}
    {CEg : Addr} {nmEg qEg : Str} {NEg : Addr} {bsEg : List Value} {snEg : List Str} {subEg : List Value} {abEg : Bool} {colEg : Option Bool} {ddEg : Option Addr} {m0Eg m1Eg m2Eg m3Eg m5Eg : Option Value}
    {CEh : Addr} {nmEh qEh : Str} {NEh : Addr} {bsEh : List Value} {snEh : List Str} {subEh : List Value} {abEh : Bool} {colEh : Option Bool} {ddEh : Option Addr} {m0Eh m1Eh m2Eh m3Eh m5Eh : Option Value}
    {CEi : Addr} {nmEi qEi : Str} {NEi : Addr} {bsEi : List Value} {snEi : List Str} {subEi : List Value} {abEi : Bool} {colEi : Option Bool} {ddEi : Option Addr} {m0Ei m1Ei m2Ei m3Ei m5Ei : Option Value}
    {r1Ej r2Ej r3Ej r4Ej : Pos}
    {CEj : Addr} {nmEj qEj : Str} {NEj : Addr} {bsEj : List Value} {snEj : List Str} {subEj : List Value} {abEj : Bool} {colEj : Option Bool} {ddEj : Option Addr} {m0Ej m1Ej m2Ej m3Ej m5Ej : Option Value}
    {fEj ccEj cdaEj : Addr} {ocEj dcEj pmEj ctEj cclEj clEj : Value} {odEj anEj cddEj cldEj : Option Addr} {slEj ccsEj cslEj : Array (Option Value)} {vsEj : Array Value} {p1Ej p2Ej q1Ej q2Ej q3Ej q4Ej q5Ej q6Ej : Pos} {fileEj : Str} {tfEj : Tok}
    {r1Ek r2Ek r3Ek r4Ek : Pos}
    {CEk : Addr} {nmEk qEk : Str} {NEk : Addr} {bsEk : List Value} {snEk : List Str} {subEk : List Value} {abEk : Bool} {colEk : Option Bool} {ddEk : Option Addr} {m0Ek m1Ek m2Ek m3Ek m5Ek : Option Value}
    {fEk ccEk cdaEk : Addr} {ocEk dcEk pmEk ctEk cclEk clEk : Value} {odEk anEk cddEk cldEk : Option Addr} {slEk ccsEk cslEk : Array (Option Value)} {vsEk : Array Value} {p1Ek p2Ek q1Ek q2Ek q3Ek q4Ek q5Ek q6Ek : Pos} {fileEk : Str} {tfEk : Tok}
    {r1El r2El r3El r4El : Pos}
    {CEl : Addr} {nmEl qEl : Str} {NEl : Addr} {bsEl : List Value} {snEl : List Str} {subEl : List Value} {abEl : Bool} {colEl : Option Bool} {ddEl : Option Addr} {m0El m1El m2El m3El m5El : Option Value}
    {fEl ccEl cdaEl : Addr} {ocEl dcEl pmEl ctEl cclEl clEl : Value} {odEl anEl cddEl cldEl : Option Addr} {slEl ccsEl cslEl : Array (Option Value)} {vsEl : Array Value} {p1El p2El q1El q2El q3El q4El q5El q6El : Pos} {fileEl : Str} {tfEl : Tok}
    {r1Em r2Em r3Em r4Em : Pos}
    {CEm : Addr} {nmEm qEm : Str} {NEm : Addr} {bsEm : List Value} {snEm : List Str} {subEm : List Value} {abEm : Bool} {colEm : Option Bool} {ddEm : Option Addr} {m0Em m1Em m2Em m3Em m5Em : Option Value}
    {fEm ccEm cdaEm : Addr} {ocEm dcEm pmEm ctEm cclEm clEm : Value} {odEm anEm cddEm cldEm : Option Addr} {slEm ccsEm cslEm : Array (Option Value)} {vsEm : Array Value} {p1Em p2Em q1Em q2Em q3Em q4Em q5Em q6Em : Pos} {fileEm : Str} {tfEm : Tok}
    {r1En r2En r3En r4En : Pos}
    {CEn : Addr} {nmEn qEn : Str} {NEn : Addr} {bsEn : List Value} {snEn : List Str} {subEn : List Value} {abEn : Bool} {colEn : Option Bool} {ddEn : Option Addr} {m0En m1En m2En m3En m5En : Option Value}
    {fEn ccEn cdaEn : Addr} {ocEn dcEn pmEn ctEn cclEn clEn : Value} {odEn anEn cddEn cldEn : Option Addr} {slEn ccsEn cslEn : Array (Option Value)} {vsEn : Array Value} {p1En p2En q1En q2En q3En q4En q5En q6En : Pos} {fileEn : Str} {tfEn : Tok}
    {fNa : Addr} {odNa anNa : Option Addr} {slNa : Array (Option Value)} {ocNa kVNa dcNa pmNa cdNa ctNa : Value}
    {fDf : Addr} {odDf anDf : Option Addr} {slDf : Array (Option Value)} {ocDf kVDf dcDf pmDf cdDf ctDf : Value}
    {fRl : Addr} {odRl anRl : Option Addr} {slRl : Array (Option Value)} {ocRl kVRl dcRl pmRl cdRl ctRl : Value}
    {fPr : Addr} {odPr anPr : Option Addr} {slPr : Array (Option Value)} {ocPr kVPr dcPr pmPr cdPr ctPr : Value}
    {fCk : Addr} {odCk anCk : Option Addr} {slCk : Array (Option Value)} {ocCk kVCk dcCk pmCk cdCk ctCk : Value}
    {fFo : Addr} {odFo anFo : Option Addr} {slFo : Array (Option Value)} {ocFo kVFo dcFo pmFo cdFo ctFo : Value}
    {fIf : Addr} {odIf anIf : Option Addr} {slIf : Array (Option Value)} {ocIf kVIf dcIf pmIf cdIf ctIf : Value}
    {fDi : Addr} {odDi anDi : Option Addr} {slDi : Array (Option Value)} {ocDi kVDi dcDi pmDi cdDi ctDi : Value}
    {fRo : Addr} {odRo anRo : Option Addr} {slRo : Array (Option Value)} {ocRo kVRo dcRo pmRo cdRo ctRo : Value}
    {fPi : Addr} {odPi anPi : Option Addr} {slPi : Array (Option Value)} {ocPi kVPi dcPi pmPi cdPi ctPi : Value}
    {fTo : Addr} {odTo anTo : Option Addr} {slTo : Array (Option Value)} {ocTo kVTo dcTo pmTo cdTo ctTo : Value}
    {fMk : Addr} {odMk anMk : Option Addr} {slMk : Array (Option Value)} {ocMk kVMk dcMk pmMk cdMk ctMk : Value}
    {fBs : Addr} {odBs anBs : Option Addr} {slBs : Array (Option Value)} {ocBs kVBs dcBs pmBs cdBs ctBs : Value}
    {fOn : Addr} {odOn anOn : Option Addr} {slOn : Array (Option Value)} {ocOn kVOn dcOn pmOn cdOn ctOn : Value}
    {fMs : Addr} {odMs anMs : Option Addr} {slMs : Array (Option Value)} {ocMs kVMs dcMs pmMs cdMs ctMs : Value}
    {fVa cVa : Addr} {odVa anVa : Option Addr} {slVa : Array (Option Value)} {ocVa kVVa dcVa pmVa ctVa : Value}
    {fTk : Addr} {odTk anTk : Option Addr} {slTk : Array (Option Value)} {ocTk kVTk dcTk pmTk cdTk ctTk : Value}
    {fLa cLa PLa : Addr} {odLa anLa oeLa : Option Addr} {slLa seLa : Array (Option Value)} {ocLa kVLa dcLa pmLa ctLa veLa : Value} {vsLa : Array Value}
    {fIn : Addr} {odIn anIn : Option Addr} {slIn : Array (Option Value)} {ocIn kVIn dcIn pmIn cdIn ctIn : Value}
    {fOf : Addr} {odOf anOf : Option Addr} {slOf : Array (Option Value)} {ocOf kVOf dcOf pmOf cdOf ctOf : Value}
    {fSi : Addr} {odSi anSi : Option Addr} {slSi : Array (Option Value)} {ocSi kVSi dcSi pmSi cdSi ctSi : Value}
    {fSo : Addr} {odSo anSo : Option Addr} {slSo : Array (Option Value)} {ocSo kVSo dcSo pmSo cdSo ctSo : Value}
    {fQo : Addr} {odQo anQo : Option Addr} {slQo : Array (Option Value)} {ocQo kVQo dcQo pmQo cdQo ctQo : Value}
    (aC : PySem.W.nsIn K mainGlobals "Language" = some (some (.ref C)))
    (aSt : PySem.W.nsIn K mainGlobals "Store" = some (some (.ref St)))
    (aQu : PySem.W.nsIn K mainGlobals "Question" = some (some (.ref Qu)))
    (aCM : PySem.W.nsIn K mainGlobals "MadeStore" = some (some (.ref CM)))
    (opq : PySem.W.nsIn K cStatics "thirdparty.any" = some none)
    (tS : (P.main.scope.names.lookup ("super" : Str)).isSome = false)
    (aEt : PySem.W.nsIn K mainGlobals "TreeError" = some (some (.ref CEt)))
    (xEt : K.lookup CEt = some (excClassObj nmEt qEt CEt NEt bsEt veBm true snEt subEt abEt colEt ddEt m0Et m1Et m2Et m3Et m5Et "ValueError.__new__"))
    (iEt : PySem.W.findIn K (.ref CEt) "__init__" = some (some (.ref fEt)))
    (kEt : PySem.W.keepIn K (.ref CEt) = true)
    (bEt : PySem.W.subIn K (.ref CEt) (.type "BaseException") = some true)
    (tEt : PySem.W.typeIn K (.ref CEt) = some (.type "type"))
    (vEt : PySem.W.subIn K (.ref CEt) (.type "ValueError") = some true)
    (h1Et : PySem.W.findIn K (.ref CEt) "__getattribute__" = some (some (.builtin "BaseException.__getattribute__")))
    (h2Et : PySem.W.findIn K (.ref CEt) "__getattr__" = some none)
    (h3Et : PySem.W.hasDictIn K CEt = true)
    (h4Et : PySem.W.findIn K (.ref CEt) "__class__" = some (some (.builtin "object.__class__")))
    (h5Et : PySem.W.mroIn K CEt (.type "object") = some true)
    (yEt : PySem.W.typeIn K (.ref fEt) = some (.type "function"))
    (lEt : K.lookup fEt = some ⟨ocEt, odEt, .func (PySem.W.ksFn "__init__" "TreeError.__init__" (PySem.TfS.iA "message" p1Et p2Et) (PySem.TfS.sB "message" q1Et q2Et q3Et q4Et q5Et q6Et :: []) (PySem.TfS.iS "message") .none .none dcEt pmEt anEt (.ref cdaEt) ctEt ccEt), slEt⟩)
    (cEt : PySem.W.codeIn K (.ref cdaEt) "TreeError.__init__" = true)
    (lcEt : K.lookup cdaEt = some ⟨cclEt, cddEt, .fields vsEt, ccsEt⟩)
    (lvEt : vsEt[2]? = some (.str fileEt tfEt))
    (lfEt : ((P.main.file : Str) == fileEt) = true)
    (lxEt : K.lookup ccEt = some ⟨clEt, cldEt, .cell (some (.ref CEt)), cslEt⟩)
    (evEt : ∀ env : Env, ∃ pl : Sem Bool, eval (PySem.TfS.cB "message" q1Et q2Et q3Et q4Et q5Et) env = (do let ov ← attributeBase (.Call (.Name "super" q1Et) [] [] q2Et) "__init__" env (eval (.Call (.Name "super" q1Et) [] [] q2Et) env); standAt q3Et.atName; let (f, first) ← holding [ov] (getMethod ov "__init__" pl); callWith q5Et f first (backTo q5Et (starEach [.Name "message" q4Et] env)) []))
    (aEa : PySem.W.nsIn K mainGlobals "InvalidLanguage" = some (some (.ref CEa)))
    (xEa : K.lookup CEa = some (excClassObj nmEa qEa CEa NEa bsEa (.ref CEt :: veBm) true snEa subEa abEa colEa ddEa m0Ea m1Ea m2Ea m3Ea m5Ea "ValueError.__new__"))
    (iEa : PySem.W.findIn K (.ref CEa) "__init__" = some (some (.ref fEt)))
    (kEa : PySem.W.keepIn K (.ref CEa) = true)
    (bEa : PySem.W.subIn K (.ref CEa) (.type "BaseException") = some true)
    (tEa : PySem.W.typeIn K (.ref CEa) = some (.type "type"))
    (vEa : PySem.W.subIn K (.ref CEa) (.type "ValueError") = some true)
    (h1Ea : PySem.W.findIn K (.ref CEa) "__getattribute__" = some (some (.builtin "BaseException.__getattribute__")))
    (h2Ea : PySem.W.findIn K (.ref CEa) "__getattr__" = some none)
    (h3Ea : PySem.W.hasDictIn K CEa = true)
    (h4Ea : PySem.W.findIn K (.ref CEa) "__class__" = some (some (.builtin "object.__class__")))
    (h5Ea : PySem.W.mroIn K CEa (.type "object") = some true)
    (mEa : PySem.W.mroIn K CEa (.ref CEt) = some true)
    (neEa : CEa ≠ CEt)
    (aEb : PySem.W.nsIn K mainGlobals "InvalidStore" = some (some (.ref CEb)))
    (xEb : K.lookup CEb = some (excClassObj nmEb qEb CEb NEb bsEb (.ref CEt :: veBm) true snEb subEb abEb colEb ddEb m0Eb m1Eb m2Eb m3Eb m5Eb "ValueError.__new__"))
    (iEb : PySem.W.findIn K (.ref CEb) "__init__" = some (some (.ref fEt)))
    (kEb : PySem.W.keepIn K (.ref CEb) = true)
    (bEb : PySem.W.subIn K (.ref CEb) (.type "BaseException") = some true)
    (tEb : PySem.W.typeIn K (.ref CEb) = some (.type "type"))
    (vEb : PySem.W.subIn K (.ref CEb) (.type "ValueError") = some true)
    (h1Eb : PySem.W.findIn K (.ref CEb) "__getattribute__" = some (some (.builtin "BaseException.__getattribute__")))
    (h2Eb : PySem.W.findIn K (.ref CEb) "__getattr__" = some none)
    (h3Eb : PySem.W.hasDictIn K CEb = true)
    (h4Eb : PySem.W.findIn K (.ref CEb) "__class__" = some (some (.builtin "object.__class__")))
    (h5Eb : PySem.W.mroIn K CEb (.type "object") = some true)
    (mEb : PySem.W.mroIn K CEb (.ref CEt) = some true)
    (neEb : CEb ≠ CEt)
    (aEc : PySem.W.nsIn K mainGlobals "InvalidQuestion" = some (some (.ref CEc)))
    (xEc : K.lookup CEc = some (excClassObj nmEc qEc CEc NEc bsEc (.ref CEt :: veBm) true snEc subEc abEc colEc ddEc m0Ec m1Ec m2Ec m3Ec m5Ec "ValueError.__new__"))
    (iEc : PySem.W.findIn K (.ref CEc) "__init__" = some (some (.ref fEt)))
    (kEc : PySem.W.keepIn K (.ref CEc) = true)
    (bEc : PySem.W.subIn K (.ref CEc) (.type "BaseException") = some true)
    (tEc : PySem.W.typeIn K (.ref CEc) = some (.type "type"))
    (vEc : PySem.W.subIn K (.ref CEc) (.type "ValueError") = some true)
    (h1Ec : PySem.W.findIn K (.ref CEc) "__getattribute__" = some (some (.builtin "BaseException.__getattribute__")))
    (h2Ec : PySem.W.findIn K (.ref CEc) "__getattr__" = some none)
    (h3Ec : PySem.W.hasDictIn K CEc = true)
    (h4Ec : PySem.W.findIn K (.ref CEc) "__class__" = some (some (.builtin "object.__class__")))
    (h5Ec : PySem.W.mroIn K CEc (.type "object") = some true)
    (mEc : PySem.W.mroIn K CEc (.ref CEt) = some true)
    (neEc : CEc ≠ CEt)
    (aEd : PySem.W.nsIn K mainGlobals "InvalidExamples" = some (some (.ref CEd)))
    (xEd : K.lookup CEd = some (excClassObj nmEd qEd CEd NEd bsEd (.ref CEt :: veBm) true snEd subEd abEd colEd ddEd m0Ed m1Ed m2Ed m3Ed m5Ed "ValueError.__new__"))
    (iEd : PySem.W.findIn K (.ref CEd) "__init__" = some (some (.ref fEt)))
    (kEd : PySem.W.keepIn K (.ref CEd) = true)
    (bEd : PySem.W.subIn K (.ref CEd) (.type "BaseException") = some true)
    (tEd : PySem.W.typeIn K (.ref CEd) = some (.type "type"))
    (vEd : PySem.W.subIn K (.ref CEd) (.type "ValueError") = some true)
    (h1Ed : PySem.W.findIn K (.ref CEd) "__getattribute__" = some (some (.builtin "BaseException.__getattribute__")))
    (h2Ed : PySem.W.findIn K (.ref CEd) "__getattr__" = some none)
    (h3Ed : PySem.W.hasDictIn K CEd = true)
    (h4Ed : PySem.W.findIn K (.ref CEd) "__class__" = some (some (.builtin "object.__class__")))
    (h5Ed : PySem.W.mroIn K CEd (.type "object") = some true)
    (mEd : PySem.W.mroIn K CEd (.ref CEt) = some true)
    (neEd : CEd ≠ CEt)
    (aEe : PySem.W.nsIn K mainGlobals "InvalidAddress" = some (some (.ref CEe)))
    (xEe : K.lookup CEe = some (excClassObj nmEe qEe CEe NEe bsEe (.ref CEt :: veBm) true snEe subEe abEe colEe ddEe m0Ee m1Ee m2Ee m3Ee m5Ee "ValueError.__new__"))
    (iEe : PySem.W.findIn K (.ref CEe) "__init__" = some (some (.ref fEt)))
    (kEe : PySem.W.keepIn K (.ref CEe) = true)
    (bEe : PySem.W.subIn K (.ref CEe) (.type "BaseException") = some true)
    (tEe : PySem.W.typeIn K (.ref CEe) = some (.type "type"))
    (vEe : PySem.W.subIn K (.ref CEe) (.type "ValueError") = some true)
    (h1Ee : PySem.W.findIn K (.ref CEe) "__getattribute__" = some (some (.builtin "BaseException.__getattribute__")))
    (h2Ee : PySem.W.findIn K (.ref CEe) "__getattr__" = some none)
    (h3Ee : PySem.W.hasDictIn K CEe = true)
    (h4Ee : PySem.W.findIn K (.ref CEe) "__class__" = some (some (.builtin "object.__class__")))
    (h5Ee : PySem.W.mroIn K CEe (.type "object") = some true)
    (mEe : PySem.W.mroIn K CEe (.ref CEt) = some true)
    (neEe : CEe ≠ CEt)
    (aEf : PySem.W.nsIn K mainGlobals "InvalidOperation" = some (some (.ref CEf)))
    (xEf : K.lookup CEf = some (excClassObj nmEf qEf CEf NEf bsEf (.ref CEt :: veBm) true snEf subEf abEf colEf ddEf m0Ef m1Ef m2Ef m3Ef m5Ef "ValueError.__new__"))
    (iEf : PySem.W.findIn K (.ref CEf) "__init__" = some (some (.ref fEt)))
    (kEf : PySem.W.keepIn K (.ref CEf) = true)
    (bEf : PySem.W.subIn K (.ref CEf) (.type "BaseException") = some true)
    (tEf : PySem.W.typeIn K (.ref CEf) = some (.type "type"))
    (vEf : PySem.W.subIn K (.ref CEf) (.type "ValueError") = some true)
    (h1Ef : PySem.W.findIn K (.ref CEf) "__getattribute__" = some (some (.builtin "BaseException.__getattribute__")))
    (h2Ef : PySem.W.findIn K (.ref CEf) "__getattr__" = some none)
    (h3Ef : PySem.W.hasDictIn K CEf = true)
    (h4Ef : PySem.W.findIn K (.ref CEf) "__class__" = some (some (.builtin "object.__class__")))
    (h5Ef : PySem.W.mroIn K CEf (.type "object") = some true)
    (mEf : PySem.W.mroIn K CEf (.ref CEt) = some true)
    (neEf : CEf ≠ CEt)
    (aEg : PySem.W.nsIn K mainGlobals "InvalidEdit" = some (some (.ref CEg)))
    (xEg : K.lookup CEg = some (excClassObj nmEg qEg CEg NEg bsEg (.ref CEt :: veBm) true snEg subEg abEg colEg ddEg m0Eg m1Eg m2Eg m3Eg m5Eg "ValueError.__new__"))
    (iEg : PySem.W.findIn K (.ref CEg) "__init__" = some (some (.ref fEt)))
    (kEg : PySem.W.keepIn K (.ref CEg) = true)
    (bEg : PySem.W.subIn K (.ref CEg) (.type "BaseException") = some true)
    (tEg : PySem.W.typeIn K (.ref CEg) = some (.type "type"))
    (vEg : PySem.W.subIn K (.ref CEg) (.type "ValueError") = some true)
    (h1Eg : PySem.W.findIn K (.ref CEg) "__getattribute__" = some (some (.builtin "BaseException.__getattribute__")))
    (h2Eg : PySem.W.findIn K (.ref CEg) "__getattr__" = some none)
    (h3Eg : PySem.W.hasDictIn K CEg = true)
    (h4Eg : PySem.W.findIn K (.ref CEg) "__class__" = some (some (.builtin "object.__class__")))
    (h5Eg : PySem.W.mroIn K CEg (.type "object") = some true)
    (mEg : PySem.W.mroIn K CEg (.ref CEt) = some true)
    (neEg : CEg ≠ CEt)
    (aEh : PySem.W.nsIn K mainGlobals "ParseError" = some (some (.ref CEh)))
    (xEh : K.lookup CEh = some (excClassObj nmEh qEh CEh NEh bsEh (.ref CEt :: veBm) true snEh subEh abEh colEh ddEh m0Eh m1Eh m2Eh m3Eh m5Eh "ValueError.__new__"))
    (iEh : PySem.W.findIn K (.ref CEh) "__init__" = some (some (.ref fEt)))
    (kEh : PySem.W.keepIn K (.ref CEh) = true)
    (bEh : PySem.W.subIn K (.ref CEh) (.type "BaseException") = some true)
    (tEh : PySem.W.typeIn K (.ref CEh) = some (.type "type"))
    (vEh : PySem.W.subIn K (.ref CEh) (.type "ValueError") = some true)
    (h1Eh : PySem.W.findIn K (.ref CEh) "__getattribute__" = some (some (.builtin "BaseException.__getattribute__")))
    (h2Eh : PySem.W.findIn K (.ref CEh) "__getattr__" = some none)
    (h3Eh : PySem.W.hasDictIn K CEh = true)
    (h4Eh : PySem.W.findIn K (.ref CEh) "__class__" = some (some (.builtin "object.__class__")))
    (h5Eh : PySem.W.mroIn K CEh (.type "object") = some true)
    (mEh : PySem.W.mroIn K CEh (.ref CEt) = some true)
    (neEh : CEh ≠ CEt)
    (aEi : PySem.W.nsIn K mainGlobals "InvalidCommand" = some (some (.ref CEi)))
    (xEi : K.lookup CEi = some (excClassObj nmEi qEi CEi NEi bsEi (.ref CEt :: veBm) true snEi subEi abEi colEi ddEi m0Ei m1Ei m2Ei m3Ei m5Ei "ValueError.__new__"))
    (iEi : PySem.W.findIn K (.ref CEi) "__init__" = some (some (.ref fEt)))
    (kEi : PySem.W.keepIn K (.ref CEi) = true)
    (bEi : PySem.W.subIn K (.ref CEi) (.type "BaseException") = some true)
    (tEi : PySem.W.typeIn K (.ref CEi) = some (.type "type"))
    (vEi : PySem.W.subIn K (.ref CEi) (.type "ValueError") = some true)
    (h1Ei : PySem.W.findIn K (.ref CEi) "__getattribute__" = some (some (.builtin "BaseException.__getattribute__")))
    (h2Ei : PySem.W.findIn K (.ref CEi) "__getattr__" = some none)
    (h3Ei : PySem.W.hasDictIn K CEi = true)
    (h4Ei : PySem.W.findIn K (.ref CEi) "__class__" = some (some (.builtin "object.__class__")))
    (h5Ei : PySem.W.mroIn K CEi (.type "object") = some true)
    (mEi : PySem.W.mroIn K CEi (.ref CEt) = some true)
    (neEi : CEi ≠ CEt)
    (aEj : PySem.W.nsIn K mainGlobals "InvalidNumber" = some (some (.ref CEj)))
    (xEj : K.lookup CEj = some (excClassObj nmEj qEj CEj NEj bsEj ixBm true snEj subEj abEj colEj ddEj m0Ej m1Ej m2Ej m3Ej m5Ej "IndexError.__new__"))
    (iEj : PySem.W.findIn K (.ref CEj) "__init__" = some (some (.ref fEj)))
    (kEj : PySem.W.keepIn K (.ref CEj) = true)
    (bEj : PySem.W.subIn K (.ref CEj) (.type "BaseException") = some true)
    (tEj : PySem.W.typeIn K (.ref CEj) = some (.type "type"))
    (vEj : PySem.W.subIn K (.ref CEj) (.type "IndexError") = some true)
    (h1Ej : PySem.W.findIn K (.ref CEj) "__getattribute__" = some (some (.builtin "BaseException.__getattribute__")))
    (h2Ej : PySem.W.findIn K (.ref CEj) "__getattr__" = some none)
    (h3Ej : PySem.W.hasDictIn K CEj = true)
    (h4Ej : PySem.W.findIn K (.ref CEj) "__class__" = some (some (.builtin "object.__class__")))
    (h5Ej : PySem.W.mroIn K CEj (.type "object") = some true)
    (yEj : PySem.W.typeIn K (.ref fEj) = some (.type "function"))
    (lEj : K.lookup fEj = some ⟨ocEj, odEj, .func (PySem.W.ksFn "__init__" "InvalidNumber.__init__" (PySem.TfS.iA "value" p1Ej p2Ej) (PySem.TfS.sB "value" q1Ej q2Ej q3Ej q4Ej q5Ej q6Ej :: [PySem.TfSF.fB "value" "value" r1Ej r2Ej r3Ej r4Ej]) (PySem.TfS.iS "value") .none .none dcEj pmEj anEj (.ref cdaEj) ctEj ccEj), slEj⟩)
    (cEj : PySem.W.codeIn K (.ref cdaEj) "InvalidNumber.__init__" = true)
    (lcEj : K.lookup cdaEj = some ⟨cclEj, cddEj, .fields vsEj, ccsEj⟩)
    (lvEj : vsEj[2]? = some (.str fileEj tfEj))
    (lfEj : ((P.main.file : Str) == fileEj) = true)
    (lxEj : K.lookup ccEj = some ⟨clEj, cldEj, .cell (some (.ref CEj)), cslEj⟩)
    (evEj : ∀ env : Env, ∃ pl : Sem Bool, eval (PySem.TfS.cB "value" q1Ej q2Ej q3Ej q4Ej q5Ej) env = (do let ov ← attributeBase (.Call (.Name "super" q1Ej) [] [] q2Ej) "__init__" env (eval (.Call (.Name "super" q1Ej) [] [] q2Ej) env); standAt q3Ej.atName; let (f, first) ← holding [ov] (getMethod ov "__init__" pl); callWith q5Ej f first (backTo q5Ej (starEach [.Name "value" q4Ej] env)) []))
    (mEj : PySem.W.mroIn K CEj (.ref CEj) = some true)
    (g1Ej : PySem.W.findIn K (.ref CEj) "__setattr__" = some (some (.builtin "object.__setattr__")))
    (g2Ej : PySem.W.findIn K (.ref CEj) "value" = some none)
    (aEk : PySem.W.nsIn K mainGlobals "UnknownName" = some (some (.ref CEk)))
    (xEk : K.lookup CEk = some (excClassObj nmEk qEk CEk NEk bsEk PySem.TfKE.keBm true snEk subEk abEk colEk ddEk m0Ek m1Ek m2Ek m3Ek m5Ek "LookupError.__new__"))
    (iEk : PySem.W.findIn K (.ref CEk) "__init__" = some (some (.ref fEk)))
    (kEk : PySem.W.keepIn K (.ref CEk) = true)
    (bEk : PySem.W.subIn K (.ref CEk) (.type "BaseException") = some true)
    (tEk : PySem.W.typeIn K (.ref CEk) = some (.type "type"))
    (vEk : PySem.W.subIn K (.ref CEk) (.type "KeyError") = some true)
    (h1Ek : PySem.W.findIn K (.ref CEk) "__getattribute__" = some (some (.builtin "BaseException.__getattribute__")))
    (h2Ek : PySem.W.findIn K (.ref CEk) "__getattr__" = some none)
    (h3Ek : PySem.W.hasDictIn K CEk = true)
    (h4Ek : PySem.W.findIn K (.ref CEk) "__class__" = some (some (.builtin "object.__class__")))
    (h5Ek : PySem.W.mroIn K CEk (.type "object") = some true)
    (yEk : PySem.W.typeIn K (.ref fEk) = some (.type "function"))
    (lEk : K.lookup fEk = some ⟨ocEk, odEk, .func (PySem.W.ksFn "__init__" "UnknownName.__init__" (PySem.TfS.iA "name" p1Ek p2Ek) (PySem.TfS.sB "name" q1Ek q2Ek q3Ek q4Ek q5Ek q6Ek :: [PySem.TfSF.fB "name" "name" r1Ek r2Ek r3Ek r4Ek]) (PySem.TfS.iS "name") .none .none dcEk pmEk anEk (.ref cdaEk) ctEk ccEk), slEk⟩)
    (cEk : PySem.W.codeIn K (.ref cdaEk) "UnknownName.__init__" = true)
    (lcEk : K.lookup cdaEk = some ⟨cclEk, cddEk, .fields vsEk, ccsEk⟩)
    (lvEk : vsEk[2]? = some (.str fileEk tfEk))
    (lfEk : ((P.main.file : Str) == fileEk) = true)
    (lxEk : K.lookup ccEk = some ⟨clEk, cldEk, .cell (some (.ref CEk)), cslEk⟩)
    (evEk : ∀ env : Env, ∃ pl : Sem Bool, eval (PySem.TfS.cB "name" q1Ek q2Ek q3Ek q4Ek q5Ek) env = (do let ov ← attributeBase (.Call (.Name "super" q1Ek) [] [] q2Ek) "__init__" env (eval (.Call (.Name "super" q1Ek) [] [] q2Ek) env); standAt q3Ek.atName; let (f, first) ← holding [ov] (getMethod ov "__init__" pl); callWith q5Ek f first (backTo q5Ek (starEach [.Name "name" q4Ek] env)) []))
    (mEk : PySem.W.mroIn K CEk (.ref CEk) = some true)
    (g1Ek : PySem.W.findIn K (.ref CEk) "__setattr__" = some (some (.builtin "object.__setattr__")))
    (g2Ek : PySem.W.findIn K (.ref CEk) "name" = some none)
    (aEl : PySem.W.nsIn K mainGlobals "TooMany" = some (some (.ref CEl)))
    (xEl : K.lookup CEl = some (excClassObj nmEl qEl CEl NEl bsEl ovBm true snEl subEl abEl colEl ddEl m0El m1El m2El m3El m5El "OverflowError.__new__"))
    (iEl : PySem.W.findIn K (.ref CEl) "__init__" = some (some (.ref fEl)))
    (kEl : PySem.W.keepIn K (.ref CEl) = true)
    (bEl : PySem.W.subIn K (.ref CEl) (.type "BaseException") = some true)
    (tEl : PySem.W.typeIn K (.ref CEl) = some (.type "type"))
    (vEl : PySem.W.subIn K (.ref CEl) (.type "OverflowError") = some true)
    (h1El : PySem.W.findIn K (.ref CEl) "__getattribute__" = some (some (.builtin "BaseException.__getattribute__")))
    (h2El : PySem.W.findIn K (.ref CEl) "__getattr__" = some none)
    (h3El : PySem.W.hasDictIn K CEl = true)
    (h4El : PySem.W.findIn K (.ref CEl) "__class__" = some (some (.builtin "object.__class__")))
    (h5El : PySem.W.mroIn K CEl (.type "object") = some true)
    (yEl : PySem.W.typeIn K (.ref fEl) = some (.type "function"))
    (lEl : K.lookup fEl = some ⟨ocEl, odEl, .func (PySem.W.ksFn "__init__" "TooMany.__init__" (PySem.TfS.iA "limit" p1El p2El) (PySem.TfS.sB "limit" q1El q2El q3El q4El q5El q6El :: [PySem.TfSF.fB "limit" "limit" r1El r2El r3El r4El]) (PySem.TfS.iS "limit") .none .none dcEl pmEl anEl (.ref cdaEl) ctEl ccEl), slEl⟩)
    (cEl : PySem.W.codeIn K (.ref cdaEl) "TooMany.__init__" = true)
    (lcEl : K.lookup cdaEl = some ⟨cclEl, cddEl, .fields vsEl, ccsEl⟩)
    (lvEl : vsEl[2]? = some (.str fileEl tfEl))
    (lfEl : ((P.main.file : Str) == fileEl) = true)
    (lxEl : K.lookup ccEl = some ⟨clEl, cldEl, .cell (some (.ref CEl)), cslEl⟩)
    (evEl : ∀ env : Env, ∃ pl : Sem Bool, eval (PySem.TfS.cB "limit" q1El q2El q3El q4El q5El) env = (do let ov ← attributeBase (.Call (.Name "super" q1El) [] [] q2El) "__init__" env (eval (.Call (.Name "super" q1El) [] [] q2El) env); standAt q3El.atName; let (f, first) ← holding [ov] (getMethod ov "__init__" pl); callWith q5El f first (backTo q5El (starEach [.Name "limit" q4El] env)) []))
    (mEl : PySem.W.mroIn K CEl (.ref CEl) = some true)
    (g1El : PySem.W.findIn K (.ref CEl) "__setattr__" = some (some (.builtin "object.__setattr__")))
    (g2El : PySem.W.findIn K (.ref CEl) "limit" = some none)
    (aEm : PySem.W.nsIn K mainGlobals "NoFit" = some (some (.ref CEm)))
    (xEm : K.lookup CEm = some (excClassObj nmEm qEm CEm NEm bsEm arBm true snEm subEm abEm colEm ddEm m0Em m1Em m2Em m3Em m5Em "ArithmeticError.__new__"))
    (iEm : PySem.W.findIn K (.ref CEm) "__init__" = some (some (.ref fEm)))
    (kEm : PySem.W.keepIn K (.ref CEm) = true)
    (bEm : PySem.W.subIn K (.ref CEm) (.type "BaseException") = some true)
    (tEm : PySem.W.typeIn K (.ref CEm) = some (.type "type"))
    (vEm : PySem.W.subIn K (.ref CEm) (.type "ArithmeticError") = some true)
    (h1Em : PySem.W.findIn K (.ref CEm) "__getattribute__" = some (some (.builtin "BaseException.__getattribute__")))
    (h2Em : PySem.W.findIn K (.ref CEm) "__getattr__" = some none)
    (h3Em : PySem.W.hasDictIn K CEm = true)
    (h4Em : PySem.W.findIn K (.ref CEm) "__class__" = some (some (.builtin "object.__class__")))
    (h5Em : PySem.W.mroIn K CEm (.type "object") = some true)
    (yEm : PySem.W.typeIn K (.ref fEm) = some (.type "function"))
    (lEm : K.lookup fEm = some ⟨ocEm, odEm, .func (PySem.W.ksFn "__init__" "NoFit.__init__" (PySem.TfS.iA "paper" p1Em p2Em) (PySem.TfS.sB "paper" q1Em q2Em q3Em q4Em q5Em q6Em :: [PySem.TfSF.fB "paper" "paper" r1Em r2Em r3Em r4Em]) (PySem.TfS.iS "paper") .none .none dcEm pmEm anEm (.ref cdaEm) ctEm ccEm), slEm⟩)
    (cEm : PySem.W.codeIn K (.ref cdaEm) "NoFit.__init__" = true)
    (lcEm : K.lookup cdaEm = some ⟨cclEm, cddEm, .fields vsEm, ccsEm⟩)
    (lvEm : vsEm[2]? = some (.str fileEm tfEm))
    (lfEm : ((P.main.file : Str) == fileEm) = true)
    (lxEm : K.lookup ccEm = some ⟨clEm, cldEm, .cell (some (.ref CEm)), cslEm⟩)
    (evEm : ∀ env : Env, ∃ pl : Sem Bool, eval (PySem.TfS.cB "paper" q1Em q2Em q3Em q4Em q5Em) env = (do let ov ← attributeBase (.Call (.Name "super" q1Em) [] [] q2Em) "__init__" env (eval (.Call (.Name "super" q1Em) [] [] q2Em) env); standAt q3Em.atName; let (f, first) ← holding [ov] (getMethod ov "__init__" pl); callWith q5Em f first (backTo q5Em (starEach [.Name "paper" q4Em] env)) []))
    (mEm : PySem.W.mroIn K CEm (.ref CEm) = some true)
    (g1Em : PySem.W.findIn K (.ref CEm) "__setattr__" = some (some (.builtin "object.__setattr__")))
    (g2Em : PySem.W.findIn K (.ref CEm) "paper" = some none)
    (aEn : PySem.W.nsIn K mainGlobals "NothingToUndo" = some (some (.ref CEn)))
    (xEn : K.lookup CEn = some (excClassObj nmEn qEn CEn NEn bsEn luBm true snEn subEn abEn colEn ddEn m0En m1En m2En m3En m5En "LookupError.__new__"))
    (iEn : PySem.W.findIn K (.ref CEn) "__init__" = some (some (.ref fEn)))
    (kEn : PySem.W.keepIn K (.ref CEn) = true)
    (bEn : PySem.W.subIn K (.ref CEn) (.type "BaseException") = some true)
    (tEn : PySem.W.typeIn K (.ref CEn) = some (.type "type"))
    (vEn : PySem.W.subIn K (.ref CEn) (.type "LookupError") = some true)
    (h1En : PySem.W.findIn K (.ref CEn) "__getattribute__" = some (some (.builtin "BaseException.__getattribute__")))
    (h2En : PySem.W.findIn K (.ref CEn) "__getattr__" = some none)
    (h3En : PySem.W.hasDictIn K CEn = true)
    (h4En : PySem.W.findIn K (.ref CEn) "__class__" = some (some (.builtin "object.__class__")))
    (h5En : PySem.W.mroIn K CEn (.type "object") = some true)
    (yEn : PySem.W.typeIn K (.ref fEn) = some (.type "function"))
    (lEn : K.lookup fEn = some ⟨ocEn, odEn, .func (PySem.W.ksFn "__init__" "NothingToUndo.__init__" (PySem.TfS.iA "many" p1En p2En) (PySem.TfS.sB "many" q1En q2En q3En q4En q5En q6En :: [PySem.TfSF.fB "many" "many" r1En r2En r3En r4En]) (PySem.TfS.iS "many") .none .none dcEn pmEn anEn (.ref cdaEn) ctEn ccEn), slEn⟩)
    (cEn : PySem.W.codeIn K (.ref cdaEn) "NothingToUndo.__init__" = true)
    (lcEn : K.lookup cdaEn = some ⟨cclEn, cddEn, .fields vsEn, ccsEn⟩)
    (lvEn : vsEn[2]? = some (.str fileEn tfEn))
    (lfEn : ((P.main.file : Str) == fileEn) = true)
    (lxEn : K.lookup ccEn = some ⟨clEn, cldEn, .cell (some (.ref CEn)), cslEn⟩)
    (evEn : ∀ env : Env, ∃ pl : Sem Bool, eval (PySem.TfS.cB "many" q1En q2En q3En q4En q5En) env = (do let ov ← attributeBase (.Call (.Name "super" q1En) [] [] q2En) "__init__" env (eval (.Call (.Name "super" q1En) [] [] q2En) env); standAt q3En.atName; let (f, first) ← holding [ov] (getMethod ov "__init__" pl); callWith q5En f first (backTo q5En (starEach [.Name "many" q4En] env)) []))
    (mEn : PySem.W.mroIn K CEn (.ref CEn) = some true)
    (g1En : PySem.W.findIn K (.ref CEn) "__setattr__" = some (some (.builtin "object.__setattr__")))
    (g2En : PySem.W.findIn K (.ref CEn) "many" = some none)
    (mEt : PySem.W.mroIn K CEt (.ref CEt) = some true)
    (nd : ([CEt, CEa, CEb, CEc, CEd, CEe, CEf, CEg, CEh, CEi, CEj, CEk, CEl, CEm, CEn] : List Addr).Nodup)
    (e5 : PySem.W.specialIn K (.builtin "object.__class__") "__get__" = some (some (.builtin "getset_descriptor.__get__")))
    (e6 : PySem.W.takesIn K (.builtin "object.__class__") = some true)
    (l1 : PySem.W.plainGet K C Str.empty = true)
    (l2 : PySem.W.hasDictIn K C = true)
    (l3 : PySem.W.plainOver K C = true)
    (l4 : PySem.W.findIn K (.ref C) "__setattr__" = some (some (.builtin "object.__setattr__")))
    (l5 : PySem.W.findIn K (.ref C) "own_marks" = some none)
    (l6 : PySem.W.findIn K (.ref C) "own_kinds" = some none)
    (l9' : PySem.W.findIn K (.ref C) "__class__" = some (some (.builtin "object.__class__")))
    (la' : PySem.W.mroIn K C (.type "object") = some true)
    (lb' : PySem.W.subIn K (.ref C) (.type "tuple") = some false)
    (le' : PySem.W.isClsIn K C = true)
    (lg' : PySem.W.typeIn K (.ref C) = some (.type "type"))
    (s0 : PySem.W.subIn K (.type "NoneType") (.ref C) = some false)
    (s1 : PySem.W.subIn K (.type "bool") (.ref C) = some false)
    (s2 : PySem.W.subIn K (.type "int") (.ref C) = some false)
    (s3 : PySem.W.subIn K (.type "str") (.ref C) = some false)
    (s4 : PySem.W.subIn K (.type "list") (.ref C) = some false)
    (s5 : PySem.W.subIn K (.type "tuple") (.ref C) = some false)
    (s6 : PySem.W.subIn K (.type "dict") (.ref C) = some false)
    (r1C : PySem.W.readsIn K C (.type "type") = true)
    (r2C : PySem.W.specialIn K (.ref C) "__getattribute__" = some (some (.builtin "type.__getattribute__")))
    (r3C : PySem.W.findCls K (.ref C) (.type "type") "of" = some (.get (.builtin "classmethod.__get__") (.ref pOf) .none (.ref C)))
    (r4C : PySem.W.recIn K pOf "classmethod" = some (.ref fOf :: rOf))
    (r5C : PySem.W.fnIn K fOf = true)
    (r1St : PySem.W.readsIn K St (.type "type") = true)
    (r2St : PySem.W.specialIn K (.ref St) "__getattribute__" = some (some (.builtin "type.__getattribute__")))
    (r3St : PySem.W.findCls K (.ref St) (.type "type") "of" = some (.get (.builtin "classmethod.__get__") (.ref pSo) .none (.ref St)))
    (r4St : PySem.W.recIn K pSo "classmethod" = some (.ref fSo :: rSo))
    (r5St : PySem.W.fnIn K fSo = true)
    (r1Qu : PySem.W.readsIn K Qu (.type "type") = true)
    (r2Qu : PySem.W.specialIn K (.ref Qu) "__getattribute__" = some (some (.builtin "type.__getattribute__")))
    (r3Qu : PySem.W.findCls K (.ref Qu) (.type "type") "of" = some (.get (.builtin "classmethod.__get__") (.ref pQo) .none (.ref Qu)))
    (r4Qu : PySem.W.recIn K pQo "classmethod" = some (.ref fQo :: rQo))
    (r5Qu : PySem.W.fnIn K fQo = true)
    (u1C : PySem.W.makesIn K C = true)
    (u2C : PySem.W.findIn K (.ref C) "__init__" = some (some (.ref fIn)))
    (u3C : PySem.W.isFn K (.ref fIn) = true)
    (u4C : PySem.W.keepIn K (.ref C) = true)
    (u1St : PySem.W.makesIn K St = true)
    (u2St : PySem.W.findIn K (.ref St) "__init__" = some (some (.ref fSi)))
    (u3St : PySem.W.isFn K (.ref fSi) = true)
    (u4St : PySem.W.keepIn K (.ref St) = true)
    (u1CM : PySem.W.makesIn K CM = true)
    (u2CM : PySem.W.findIn K (.ref CM) "__init__" = some (some (.ref fMi)))
    (u3CM : PySem.W.isFn K (.ref fMi) = true)
    (u4CM : PySem.W.keepIn K (.ref CM) = true)
    (w0Na : PySem.W.nsIn K mainGlobals "is_name" = some (some (.ref fNa)))
    (w1Na : K.lookup fNa = some ⟨ocNa, odNa, .func (PySem.W.fnOf "is_name" "is_name" (defArgs sName) (defBody sName) (defScope sName) .none kVNa dcNa pmNa anNa cdNa ctNa), slNa⟩)
    (w2Na : PySem.W.codeIn K cdNa "is_name" = true)
    (w3Na : PySem.W.keepIn K (.ref fNa) = true)
    (w0Df : PySem.W.nsIn K mainGlobals "different_names" = some (some (.ref fDf)))
    (w1Df : K.lookup fDf = some ⟨ocDf, odDf, .func (PySem.W.fnOf "different_names" "different_names" (defArgs sDiff) (defBody sDiff) (defScope sDiff) .none kVDf dcDf pmDf anDf cdDf ctDf), slDf⟩)
    (w2Df : PySem.W.codeIn K cdDf "different_names" = true)
    (w3Df : PySem.W.keepIn K (.ref fDf) = true)
    (w0Rl : PySem.W.nsIn K mainGlobals "require_language" = some (some (.ref fRl)))
    (w1Rl : K.lookup fRl = some ⟨ocRl, odRl, .func (PySem.W.fnOf "require_language" "require_language" (defArgs sRL) (defBody sRL) (defScope sRL) .none kVRl dcRl pmRl anRl cdRl ctRl), slRl⟩)
    (w2Rl : PySem.W.codeIn K cdRl "require_language" = true)
    (w3Rl : PySem.W.keepIn K (.ref fRl) = true)
    (w0Pr : PySem.W.nsIn K mainGlobals "require_pair" = some (some (.ref fPr)))
    (w1Pr : K.lookup fPr = some ⟨ocPr, odPr, .func (PySem.W.fnOf "require_pair" "require_pair" (defArgs sPr) (defBody sPr) (defScope sPr) .none kVPr dcPr pmPr anPr cdPr ctPr), slPr⟩)
    (w2Pr : PySem.W.codeIn K cdPr "require_pair" = true)
    (w3Pr : PySem.W.keepIn K (.ref fPr) = true)
    (w0Ck : PySem.W.nsIn K mainGlobals "checked_things" = some (some (.ref fCk)))
    (w1Ck : K.lookup fCk = some ⟨ocCk, odCk, .func (PySem.W.fnOf "checked_things" "checked_things" (defArgs sCk) (defBody sCk) (defScope sCk) .none kVCk dcCk pmCk anCk cdCk ctCk), slCk⟩)
    (w2Ck : PySem.W.codeIn K cdCk "checked_things" = true)
    (w3Ck : PySem.W.keepIn K (.ref fCk) = true)
    (w0Fo : PySem.W.nsIn K mainGlobals "is_form_node" = some (some (.ref fFo)))
    (w1Fo : K.lookup fFo = some ⟨ocFo, odFo, .func (PySem.W.fnOf "is_form_node" "is_form_node" (defArgs sFnd) (defBody sFnd) (defScope sFnd) .none kVFo dcFo pmFo anFo cdFo ctFo), slFo⟩)
    (w2Fo : PySem.W.codeIn K cdFo "is_form_node" = true)
    (w3Fo : PySem.W.keepIn K (.ref fFo) = true)
    (w0If : PySem.W.nsIn K mainGlobals "is_form" = some (some (.ref fIf)))
    (w1If : K.lookup fIf = some ⟨ocIf, odIf, .func (PySem.W.fnOf "is_form" "is_form" (defArgs sIfm) (defBody sIfm) (defScope sIfm) .none kVIf dcIf pmIf anIf cdIf ctIf), slIf⟩)
    (w2If : PySem.W.codeIn K cdIf "is_form" = true)
    (w3If : PySem.W.keepIn K (.ref fIf) = true)
    (w0Di : PySem.W.nsIn K mainGlobals "_law_dice" = some (some (.ref fDi)))
    (w1Di : K.lookup fDi = some ⟨ocDi, odDi, .func (PySem.W.fnOf "_law_dice" "_law_dice" (defArgs sDice) (defBody sDice) (defScope sDice) .none kVDi dcDi pmDi anDi cdDi ctDi), slDi⟩)
    (w2Di : PySem.W.codeIn K cdDi "_law_dice" = true)
    (w3Di : PySem.W.keepIn K (.ref fDi) = true)
    (w0Ro : PySem.W.nsIn K mainGlobals "_law_roll" = some (some (.ref fRo)))
    (w1Ro : K.lookup fRo = some ⟨ocRo, odRo, .func (PySem.W.fnOf "_law_roll" "_law_roll" (defArgs sRoll) (defBody sRoll) (defScope sRoll) .none kVRo dcRo pmRo anRo cdRo ctRo), slRo⟩)
    (w2Ro : PySem.W.codeIn K cdRo "_law_roll" = true)
    (w3Ro : PySem.W.keepIn K (.ref fRo) = true)
    (w0Pi : PySem.W.nsIn K mainGlobals "_law_pick" = some (some (.ref fPi)))
    (w1Pi : K.lookup fPi = some ⟨ocPi, odPi, .func (PySem.W.fnOf "_law_pick" "_law_pick" (defArgs sPick) (defBody sPick) (defScope sPick) .none kVPi dcPi pmPi anPi cdPi ctPi), slPi⟩)
    (w2Pi : PySem.W.codeIn K cdPi "_law_pick" = true)
    (w3Pi : PySem.W.keepIn K (.ref fPi) = true)
    (w0To : PySem.W.nsIn K mainGlobals "_law_told" = some (some (.ref fTo)))
    (w1To : K.lookup fTo = some ⟨ocTo, odTo, .func (PySem.W.fnOf "_law_told" "_law_told" (defArgs sTold) (defBody sTold) (defScope sTold) .none kVTo dcTo pmTo anTo cdTo ctTo), slTo⟩)
    (w2To : PySem.W.codeIn K cdTo "_law_told" = true)
    (w3To : PySem.W.keepIn K (.ref fTo) = true)
    (w0Mk : PySem.W.nsIn K mainGlobals "_law_marks" = some (some (.ref fMk)))
    (w1Mk : K.lookup fMk = some ⟨ocMk, odMk, .func (PySem.W.fnOf "_law_marks" "_law_marks" (defArgs sMk) (defBody sMk) (defScope sMk) .none kVMk dcMk pmMk anMk cdMk ctMk), slMk⟩)
    (w2Mk : PySem.W.codeIn K cdMk "_law_marks" = true)
    (w3Mk : PySem.W.keepIn K (.ref fMk) = true)
    (w0Bs : PySem.W.nsIn K mainGlobals "_law_bases" = some (some (.ref fBs)))
    (w1Bs : K.lookup fBs = some ⟨ocBs, odBs, .func (PySem.W.fnOf "_law_bases" "_law_bases" (defArgs sBs) (defBody sBs) (defScope sBs) .none kVBs dcBs pmBs anBs cdBs ctBs), slBs⟩)
    (w2Bs : PySem.W.codeIn K cdBs "_law_bases" = true)
    (w3Bs : PySem.W.keepIn K (.ref fBs) = true)
    (w0On : PySem.W.nsIn K mainGlobals "_law_only" = some (some (.ref fOn)))
    (w1On : K.lookup fOn = some ⟨ocOn, odOn, .func (PySem.W.fnOf "_law_only" "_law_only" (defArgs sOnly) (defBody sOnly) (defScope sOnly) .none kVOn dcOn pmOn anOn cdOn ctOn), slOn⟩)
    (w2On : PySem.W.codeIn K cdOn "_law_only" = true)
    (w3On : PySem.W.keepIn K (.ref fOn) = true)
    (w0Ms : PySem.W.nsIn K mainGlobals "_law_messages_right" = some (some (.ref fMs)))
    (w1Ms : K.lookup fMs = some ⟨ocMs, odMs, .func (PySem.W.fnOf "_law_messages_right" "_law_messages_right" (defArgs sMsg) (defBody sMsg) (defScope sMsg) .none kVMs dcMs pmMs anMs cdMs ctMs), slMs⟩)
    (w2Ms : PySem.W.codeIn K cdMs "_law_messages_right" = true)
    (w3Ms : PySem.W.keepIn K (.ref fMs) = true)
    (w0Va : PySem.W.nsIn K mainGlobals "_law_values_right" = some (some (.ref fVa)))
    (w1Va : K.lookup fVa = some ⟨ocVa, odVa, .func (PySem.W.fnOf "_law_values_right" "_law_values_right" (defArgs sVal) (defBody sVal) (defScope sVal) .none kVVa dcVa pmVa anVa (.ref cVa) ctVa), slVa⟩)
    (w2Va : PySem.W.codeIn K (.ref cVa) "_law_values_right" = true)
    (w3Va : PySem.W.keepIn K (.ref fVa) = true)
    (w0Tk : PySem.W.nsIn K mainGlobals "_law_taken" = some (some (.ref fTk)))
    (w1Tk : K.lookup fTk = some ⟨ocTk, odTk, .func (PySem.W.fnOf "_law_taken" "_law_taken" (defArgs sTk) (defBody sTk) (defScope sTk) .none kVTk dcTk pmTk anTk cdTk ctTk), slTk⟩)
    (w2Tk : PySem.W.codeIn K cdTk "_law_taken" = true)
    (w3Tk : PySem.W.keepIn K (.ref fTk) = true)
    (w0La : PySem.W.nsIn K mainGlobals "law" = some (some (.ref fLa)))
    (w1La : K.lookup fLa = some ⟨ocLa, odLa, .func (PySem.W.fnOf "law" "law" (defArgs sLaw) (defBody sLaw) (defScope sLaw) .none kVLa dcLa pmLa anLa (.ref cLa) ctLa), slLa⟩)
    (w2La : PySem.W.codeIn K (.ref cLa) "law" = true)
    (w3La : PySem.W.keepIn K (.ref fLa) = true)
    (w4La : K.lookup cLa = some ⟨veLa, oeLa, .fields vsLa, seLa⟩)
    (w5La : vsLa[11]? = some (.ref PLa))
    (w6La : K.lookup PLa = none)
    (w1In : K.lookup fIn = some ⟨ocIn, odIn, .func (PySem.W.fnOf "__init__" "Language.__init__" (defArgs sInit) (defBody sInit) (defScope sInit) .none kVIn dcIn pmIn anIn cdIn ctIn), slIn⟩)
    (w2In : PySem.W.codeIn K cdIn "Language.__init__" = true)
    (w3In : PySem.W.keepIn K (.ref fIn) = true)
    (w1Of : K.lookup fOf = some ⟨ocOf, odOf, .func (PySem.W.fnOf "of" "Language.of" (defArgs sOf) (defBody sOf) (defScope sOf) .none kVOf dcOf pmOf anOf cdOf ctOf), slOf⟩)
    (w2Of : PySem.W.codeIn K cdOf "Language.of" = true)
    (w3Of : PySem.W.keepIn K (.ref fOf) = true)
    (w1Si : K.lookup fSi = some ⟨ocSi, odSi, .func (PySem.W.fnOf "__init__" "Store.__init__" (defArgs sSin) (defBody sSin) (defScope sSin) .none kVSi dcSi pmSi anSi cdSi ctSi), slSi⟩)
    (w2Si : PySem.W.codeIn K cdSi "Store.__init__" = true)
    (w3Si : PySem.W.keepIn K (.ref fSi) = true)
    (w1So : K.lookup fSo = some ⟨ocSo, odSo, .func (PySem.W.fnOf "of" "Store.of" (defArgs sSof) (defBody sSof) (defScope sSof) .none kVSo dcSo pmSo anSo cdSo ctSo), slSo⟩)
    (w2So : PySem.W.codeIn K cdSo "Store.of" = true)
    (w3So : PySem.W.keepIn K (.ref fSo) = true)
    (w1Qo : K.lookup fQo = some ⟨ocQo, odQo, .func (PySem.W.fnOf "of" "Question.of" (defArgs sQof) (defBody sQof) (defScope sQof) .none kVQo dcQo pmQo anQo cdQo ctQo), slQo⟩)
    (w2Qo : PySem.W.codeIn K cdQo "Question.of" = true)
    (w3Qo : PySem.W.keepIn K (.ref fQo) = true)
    (z_isinstance : PySem.W.nsIn K mainGlobals "isinstance" = some none)
    (z_tuple : PySem.W.nsIn K mainGlobals "tuple" = some none)
    (z_all : PySem.W.nsIn K mainGlobals "all" = some none)
    (z_any : PySem.W.nsIn K mainGlobals "any" = some none)
    (z_sorted : PySem.W.nsIn K mainGlobals "sorted" = some none)
    (z_list : PySem.W.nsIn K mainGlobals "list" = some none)
    (z_len : PySem.W.nsIn K mainGlobals "len" = some none)
    (z_str : PySem.W.nsIn K mainGlobals "str" = some none)
    (z_int : PySem.W.nsIn K mainGlobals "int" = some none)
    (z_abs : PySem.W.nsIn K mainGlobals "abs" = some none)
    (z_max : PySem.W.nsIn K mainGlobals "max" = some none)
    (z_min : PySem.W.nsIn K mainGlobals "min" = some none)
    (z_range : PySem.W.nsIn K mainGlobals "range" = some none)
    (z_repr : PySem.W.nsIn K mainGlobals "repr" = some none)
    (z_super : PySem.W.nsIn K mainGlobals "super" = some none)
    (z_dict : PySem.W.nsIn K mainGlobals "dict" = some none)
    (z_enumerate : PySem.W.nsIn K mainGlobals "enumerate" = some none)
    (z_ValueError : PySem.W.nsIn K mainGlobals "ValueError" = some none)
    (z_IndexError : PySem.W.nsIn K mainGlobals "IndexError" = some none)
    (z_KeyError : PySem.W.nsIn K mainGlobals "KeyError" = some none)
    (z_OverflowError : PySem.W.nsIn K mainGlobals "OverflowError" = some none)
    (z_ArithmeticError : PySem.W.nsIn K mainGlobals "ArithmeticError" = some none)
    (z_LookupError : PySem.W.nsIn K mainGlobals "LookupError" = some none)
    (z_RuntimeError : PySem.W.nsIn K mainGlobals "RuntimeError" = some none)
    (g8 : PySem.W.nsIn K mainGlobals "MAX_MARKS" = some (some (.int 8 t8)))
    (g4 : PySem.W.nsIn K mainGlobals "MAX_KINDS" = some (some (.int 4 t4)))
    (g9 : PySem.W.nsIn K mainGlobals "MAX_SIGNS" = some (some (.int 8 t9)))
    (gs : PySem.W.nsIn K mainGlobals "SIGNS" = some (some (.str "abcdefghijklmnopqrstuvwxyz" ts)))
    (gN : PySem.W.nsIn K mainGlobals "MAX_NODES" = some (some (.int 2000 tN)))
    (gL : PySem.W.nsIn K mainGlobals "MAX_LEVELS" = some (some (.int 10 tL)))
    : LawG l w K CX0 9 63 "_law_script" mg fa h := by
  subst hP
  have e := hfa.symm.trans (PySem.W.mg_of X G w0La)
  cases e
  have m_super := PySem.W.mg_none_of X G z_super
  have clt : ∃ cd, PySem.W.clsIn K CEt = some cd := ⟨_, cls_of xEt⟩
  have TEt : TreeTxt l.prog K mg "TreeError" CEt CEt fEt := {
    gC := PySem.W.mg_of X G aEt, cls := ⟨nmEt, qEt, NEt, bsEt, _, snEt, subEt, abEt, colEt, ddEt, m0Et, m1Et, m2Et, m3Et, m5Et, xEt, line_ve⟩, iC := iEt, tC := yEt, kC := kEt, exC := bEt, tyC := tEt, suB := vEt, sup := sup_self xEt (by decide +kernel), opq := opq,
    fn := ⟨_, _, _, _, _, _, _, _, _, _, _, _, _, _, _, _, _, _, _, _, _, _, _, _, _, _, lEt, cEt, lcEt, lvEt, lfEt, lxEt, evEt⟩, clD := clt, inD := mEt, noS := m_super, topS := tS }
  have TEa : TreeTxt l.prog K mg "InvalidLanguage" CEa CEt fEt := {
    gC := PySem.W.mg_of X G aEa, cls := ⟨nmEa, qEa, NEa, bsEa, _, snEa, subEa, abEa, colEa, ddEa, m0Ea, m1Ea, m2Ea, m3Ea, m5Ea, xEa, line_tree⟩, iC := iEa, tC := yEt, kC := kEa, exC := bEa, tyC := tEa, suB := vEa, sup := sup_in xEa neEa, opq := opq,
    fn := ⟨_, _, _, _, _, _, _, _, _, _, _, _, _, _, _, _, _, _, _, _, _, _, _, _, _, _, lEt, cEt, lcEt, lvEt, lfEt, lxEt, evEt⟩, clD := clt, inD := mEa, noS := m_super, topS := tS }
  have TEb : TreeTxt l.prog K mg "InvalidStore" CEb CEt fEt := {
    gC := PySem.W.mg_of X G aEb, cls := ⟨nmEb, qEb, NEb, bsEb, _, snEb, subEb, abEb, colEb, ddEb, m0Eb, m1Eb, m2Eb, m3Eb, m5Eb, xEb, line_tree⟩, iC := iEb, tC := yEt, kC := kEb, exC := bEb, tyC := tEb, suB := vEb, sup := sup_in xEb neEb, opq := opq,
    fn := ⟨_, _, _, _, _, _, _, _, _, _, _, _, _, _, _, _, _, _, _, _, _, _, _, _, _, _, lEt, cEt, lcEt, lvEt, lfEt, lxEt, evEt⟩, clD := clt, inD := mEb, noS := m_super, topS := tS }
  have TEc : TreeTxt l.prog K mg "InvalidQuestion" CEc CEt fEt := {
    gC := PySem.W.mg_of X G aEc, cls := ⟨nmEc, qEc, NEc, bsEc, _, snEc, subEc, abEc, colEc, ddEc, m0Ec, m1Ec, m2Ec, m3Ec, m5Ec, xEc, line_tree⟩, iC := iEc, tC := yEt, kC := kEc, exC := bEc, tyC := tEc, suB := vEc, sup := sup_in xEc neEc, opq := opq,
    fn := ⟨_, _, _, _, _, _, _, _, _, _, _, _, _, _, _, _, _, _, _, _, _, _, _, _, _, _, lEt, cEt, lcEt, lvEt, lfEt, lxEt, evEt⟩, clD := clt, inD := mEc, noS := m_super, topS := tS }
  have TEd : TreeTxt l.prog K mg "InvalidExamples" CEd CEt fEt := {
    gC := PySem.W.mg_of X G aEd, cls := ⟨nmEd, qEd, NEd, bsEd, _, snEd, subEd, abEd, colEd, ddEd, m0Ed, m1Ed, m2Ed, m3Ed, m5Ed, xEd, line_tree⟩, iC := iEd, tC := yEt, kC := kEd, exC := bEd, tyC := tEd, suB := vEd, sup := sup_in xEd neEd, opq := opq,
    fn := ⟨_, _, _, _, _, _, _, _, _, _, _, _, _, _, _, _, _, _, _, _, _, _, _, _, _, _, lEt, cEt, lcEt, lvEt, lfEt, lxEt, evEt⟩, clD := clt, inD := mEd, noS := m_super, topS := tS }
  have TEe : TreeTxt l.prog K mg "InvalidAddress" CEe CEt fEt := {
    gC := PySem.W.mg_of X G aEe, cls := ⟨nmEe, qEe, NEe, bsEe, _, snEe, subEe, abEe, colEe, ddEe, m0Ee, m1Ee, m2Ee, m3Ee, m5Ee, xEe, line_tree⟩, iC := iEe, tC := yEt, kC := kEe, exC := bEe, tyC := tEe, suB := vEe, sup := sup_in xEe neEe, opq := opq,
    fn := ⟨_, _, _, _, _, _, _, _, _, _, _, _, _, _, _, _, _, _, _, _, _, _, _, _, _, _, lEt, cEt, lcEt, lvEt, lfEt, lxEt, evEt⟩, clD := clt, inD := mEe, noS := m_super, topS := tS }
  have TEf : TreeTxt l.prog K mg "InvalidOperation" CEf CEt fEt := {
    gC := PySem.W.mg_of X G aEf, cls := ⟨nmEf, qEf, NEf, bsEf, _, snEf, subEf, abEf, colEf, ddEf, m0Ef, m1Ef, m2Ef, m3Ef, m5Ef, xEf, line_tree⟩, iC := iEf, tC := yEt, kC := kEf, exC := bEf, tyC := tEf, suB := vEf, sup := sup_in xEf neEf, opq := opq,
    fn := ⟨_, _, _, _, _, _, _, _, _, _, _, _, _, _, _, _, _, _, _, _, _, _, _, _, _, _, lEt, cEt, lcEt, lvEt, lfEt, lxEt, evEt⟩, clD := clt, inD := mEf, noS := m_super, topS := tS }
  have TEg : TreeTxt l.prog K mg "InvalidEdit" CEg CEt fEt := {
    gC := PySem.W.mg_of X G aEg, cls := ⟨nmEg, qEg, NEg, bsEg, _, snEg, subEg, abEg, colEg, ddEg, m0Eg, m1Eg, m2Eg, m3Eg, m5Eg, xEg, line_tree⟩, iC := iEg, tC := yEt, kC := kEg, exC := bEg, tyC := tEg, suB := vEg, sup := sup_in xEg neEg, opq := opq,
    fn := ⟨_, _, _, _, _, _, _, _, _, _, _, _, _, _, _, _, _, _, _, _, _, _, _, _, _, _, lEt, cEt, lcEt, lvEt, lfEt, lxEt, evEt⟩, clD := clt, inD := mEg, noS := m_super, topS := tS }
  have TEh : TreeTxt l.prog K mg "ParseError" CEh CEt fEt := {
    gC := PySem.W.mg_of X G aEh, cls := ⟨nmEh, qEh, NEh, bsEh, _, snEh, subEh, abEh, colEh, ddEh, m0Eh, m1Eh, m2Eh, m3Eh, m5Eh, xEh, line_tree⟩, iC := iEh, tC := yEt, kC := kEh, exC := bEh, tyC := tEh, suB := vEh, sup := sup_in xEh neEh, opq := opq,
    fn := ⟨_, _, _, _, _, _, _, _, _, _, _, _, _, _, _, _, _, _, _, _, _, _, _, _, _, _, lEt, cEt, lcEt, lvEt, lfEt, lxEt, evEt⟩, clD := clt, inD := mEh, noS := m_super, topS := tS }
  have TEi : TreeTxt l.prog K mg "InvalidCommand" CEi CEt fEt := {
    gC := PySem.W.mg_of X G aEi, cls := ⟨nmEi, qEi, NEi, bsEi, _, snEi, subEi, abEi, colEi, ddEi, m0Ei, m1Ei, m2Ei, m3Ei, m5Ei, xEi, line_tree⟩, iC := iEi, tC := yEt, kC := kEi, exC := bEi, tyC := tEi, suB := vEi, sup := sup_in xEi neEi, opq := opq,
    fn := ⟨_, _, _, _, _, _, _, _, _, _, _, _, _, _, _, _, _, _, _, _, _, _, _, _, _, _, lEt, cEt, lcEt, lvEt, lfEt, lxEt, evEt⟩, clD := clt, inD := mEi, noS := m_super, topS := tS }
  have TEj : FldT l.prog K mg "IndexError" "IndexError.__new__" "IndexError" "IndexError.__init__" "InvalidNumber" "value" "InvalidNumber.__init__" CEj := ⟨⟨CEj, fEj, r1Ej, r2Ej, r3Ej, r4Ej, {
    gC := PySem.W.mg_of X G aEj, cls := ⟨nmEj, qEj, NEj, bsEj, _, snEj, subEj, abEj, colEj, ddEj, m0Ej, m1Ej, m2Ej, m3Ej, m5Ej, xEj, line_j⟩, iC := iEj, tC := yEj, kC := kEj, exC := bEj, tyC := tEj, suB := vEj, sup := sup_self xEj (by decide +kernel), opq := opq,
    fn := ⟨_, _, _, _, _, _, _, _, _, _, _, _, _, _, _, _, _, _, _, _, _, _, _, _, _, _, lEj, cEj, lcEj, lvEj, lfEj, lxEj, evEj⟩, clD := ⟨_, cls_of xEj⟩, inD := mEj, noS := m_super, topS := tS }⟩, fld_self xEj g1Ej g2Ej h5Ej (fun s => by kernel_rfl), ⟨h1Ej, h2Ej, bEj, h3Ej, g2Ej⟩⟩
  have TEk : FldT l.prog K mg "LookupError" "LookupError.__new__" "KeyError" "KeyError.__init__" "UnknownName" "name" "UnknownName.__init__" CEk := ⟨⟨CEk, fEk, r1Ek, r2Ek, r3Ek, r4Ek, {
    gC := PySem.W.mg_of X G aEk, cls := ⟨nmEk, qEk, NEk, bsEk, _, snEk, subEk, abEk, colEk, ddEk, m0Ek, m1Ek, m2Ek, m3Ek, m5Ek, xEk, line_k⟩, iC := iEk, tC := yEk, kC := kEk, exC := bEk, tyC := tEk, suB := vEk, sup := sup_self xEk (by decide +kernel), opq := opq,
    fn := ⟨_, _, _, _, _, _, _, _, _, _, _, _, _, _, _, _, _, _, _, _, _, _, _, _, _, _, lEk, cEk, lcEk, lvEk, lfEk, lxEk, evEk⟩, clD := ⟨_, cls_of xEk⟩, inD := mEk, noS := m_super, topS := tS }⟩, fld_self xEk g1Ek g2Ek h5Ek (fun s => by kernel_rfl), ⟨h1Ek, h2Ek, bEk, h3Ek, g2Ek⟩⟩
  have TEl : FldT l.prog K mg "OverflowError" "OverflowError.__new__" "OverflowError" "OverflowError.__init__" "TooMany" "limit" "TooMany.__init__" CEl := ⟨⟨CEl, fEl, r1El, r2El, r3El, r4El, {
    gC := PySem.W.mg_of X G aEl, cls := ⟨nmEl, qEl, NEl, bsEl, _, snEl, subEl, abEl, colEl, ddEl, m0El, m1El, m2El, m3El, m5El, xEl, line_l⟩, iC := iEl, tC := yEl, kC := kEl, exC := bEl, tyC := tEl, suB := vEl, sup := sup_self xEl (by decide +kernel), opq := opq,
    fn := ⟨_, _, _, _, _, _, _, _, _, _, _, _, _, _, _, _, _, _, _, _, _, _, _, _, _, _, lEl, cEl, lcEl, lvEl, lfEl, lxEl, evEl⟩, clD := ⟨_, cls_of xEl⟩, inD := mEl, noS := m_super, topS := tS }⟩, fld_self xEl g1El g2El h5El (fun s => by kernel_rfl), ⟨h1El, h2El, bEl, h3El, g2El⟩⟩
  have TEm : FldT l.prog K mg "ArithmeticError" "ArithmeticError.__new__" "ArithmeticError" "ArithmeticError.__init__" "NoFit" "paper" "NoFit.__init__" CEm := ⟨⟨CEm, fEm, r1Em, r2Em, r3Em, r4Em, {
    gC := PySem.W.mg_of X G aEm, cls := ⟨nmEm, qEm, NEm, bsEm, _, snEm, subEm, abEm, colEm, ddEm, m0Em, m1Em, m2Em, m3Em, m5Em, xEm, line_m⟩, iC := iEm, tC := yEm, kC := kEm, exC := bEm, tyC := tEm, suB := vEm, sup := sup_self xEm (by decide +kernel), opq := opq,
    fn := ⟨_, _, _, _, _, _, _, _, _, _, _, _, _, _, _, _, _, _, _, _, _, _, _, _, _, _, lEm, cEm, lcEm, lvEm, lfEm, lxEm, evEm⟩, clD := ⟨_, cls_of xEm⟩, inD := mEm, noS := m_super, topS := tS }⟩, fld_self xEm g1Em g2Em h5Em (fun s => by kernel_rfl), ⟨h1Em, h2Em, bEm, h3Em, g2Em⟩⟩
  have TEn : FldT l.prog K mg "LookupError" "LookupError.__new__" "LookupError" "LookupError.__init__" "NothingToUndo" "many" "NothingToUndo.__init__" CEn := ⟨⟨CEn, fEn, r1En, r2En, r3En, r4En, {
    gC := PySem.W.mg_of X G aEn, cls := ⟨nmEn, qEn, NEn, bsEn, _, snEn, subEn, abEn, colEn, ddEn, m0En, m1En, m2En, m3En, m5En, xEn, line_n⟩, iC := iEn, tC := yEn, kC := kEn, exC := bEn, tyC := tEn, suB := vEn, sup := sup_self xEn (by decide +kernel), opq := opq,
    fn := ⟨_, _, _, _, _, _, _, _, _, _, _, _, _, _, _, _, _, _, _, _, _, _, _, _, _, _, lEn, cEn, lcEn, lvEn, lfEn, lxEn, evEn⟩, clD := ⟨_, cls_of xEn⟩, inD := mEn, noS := m_super, topS := tS }⟩, fld_self xEn g1En g2En h5En (fun s => by kernel_rfl), ⟨h1En, h2En, bEn, h3En, g2En⟩⟩
  have Tb : Tab K mg ⟨CEt, CEa, CEb, CEc, CEd, CEe, CEf, CEg, CEh, CEi, CEj, CEk, CEl, CEm, CEn⟩ := {
    gt := PySem.W.mg_of X G aEt, ga := PySem.W.mg_of X G aEa, gb := PySem.W.mg_of X G aEb, gc := PySem.W.mg_of X G aEc, gd := PySem.W.mg_of X G aEd, ge := PySem.W.mg_of X G aEe, gf := PySem.W.mg_of X G aEf, gg := PySem.W.mg_of X G aEg, gh := PySem.W.mg_of X G aEh, gi := PySem.W.mg_of X G aEi, gj := PySem.W.mg_of X G aEj, gk := PySem.W.mg_of X G aEk, gl := PySem.W.mg_of X G aEl, gm := PySem.W.mg_of X G aEm, gn := PySem.W.mg_of X G aEn
    et := ecls_of xEt h1Et h2Et bEt h3Et h4Et e5 e6 h5Et tEt
    ea := ecls_of xEa h1Ea h2Ea bEa h3Ea h4Ea e5 e6 h5Ea tEa
    eb := ecls_of xEb h1Eb h2Eb bEb h3Eb h4Eb e5 e6 h5Eb tEb
    ec := ecls_of xEc h1Ec h2Ec bEc h3Ec h4Ec e5 e6 h5Ec tEc
    ed := ecls_of xEd h1Ed h2Ed bEd h3Ed h4Ed e5 e6 h5Ed tEd
    ee := ecls_of xEe h1Ee h2Ee bEe h3Ee h4Ee e5 e6 h5Ee tEe
    ef := ecls_of xEf h1Ef h2Ef bEf h3Ef h4Ef e5 e6 h5Ef tEf
    eg := ecls_of xEg h1Eg h2Eg bEg h3Eg h4Eg e5 e6 h5Eg tEg
    eh := ecls_of xEh h1Eh h2Eh bEh h3Eh h4Eh e5 e6 h5Eh tEh
    ei := ecls_of xEi h1Ei h2Ei bEi h3Ei h4Ei e5 e6 h5Ei tEi
    ej := ecls_of xEj h1Ej h2Ej bEj h3Ej h4Ej e5 e6 h5Ej tEj
    ek := ecls_of xEk h1Ek h2Ek bEk h3Ek h4Ek e5 e6 h5Ek tEk
    el := ecls_of xEl h1El h2El bEl h3El h4El e5 e6 h5El tEl
    em := ecls_of xEm h1Em h2Em bEm h3Em h4Em e5 e6 h5Em tEm
    en := ecls_of xEn h1En h2En bEn h3En h4En e5 e6 h5En tEn
    nd := nd }
  have Mg : Msgs l.prog K mg ⟨CEt, CEa, CEb, CEc, CEd, CEe, CEf, CEg, CEh, CEi, CEj, CEk, CEl, CEm, CEn⟩ := ⟨⟨_, _, TEt⟩, ⟨_, _, TEa⟩, ⟨_, _, TEb⟩, ⟨_, _, TEc⟩, ⟨_, _, TEd⟩, ⟨_, _, TEe⟩, ⟨_, _, TEf⟩, ⟨_, _, TEg⟩, ⟨_, _, TEh⟩, ⟨_, _, TEi⟩⟩
  have Fv : Fives l.prog K mg ⟨CEt, CEa, CEb, CEc, CEd, CEe, CEf, CEg, CEh, CEi, CEj, CEk, CEl, CEm, CEn⟩ := ⟨TEj, TEk, TEl, TEm, TEn⟩
  have Lc : LCls K C := ⟨⟨l1, l2, l3, l4⟩, l5, l6⟩
  have Mm : Mk K C fIn := ⟨u1C, u2C, u3C, u4C⟩
  have MS : Mk K St fSi := ⟨u1St, u2St, u3St, u4St⟩
  have MM : Mk K CM fMi := ⟨u1CM, u2CM, u3CM, u4CM⟩
  have Is : LIs K C := ⟨l9', e5, e6, la', by unfold PySem.W.kitOne; rw [if_pos (beq_self_eq_true _)], kit_refB (by decide +kernel) lb'⟩
  have FNa := fun_mk (st := sName) w1Na w2Na w3Na
  have FDf := fun_mk (st := sDiff) w1Df w2Df w3Df
  have FRl := fun_mk (st := sRL) w1Rl w2Rl w3Rl
  have FPr := fun_mk (st := sPr) w1Pr w2Pr w3Pr
  have FCk := fun_mk (st := sCk) w1Ck w2Ck w3Ck
  have FFo := fun_mk (st := sFnd) w1Fo w2Fo w3Fo
  have FIf := fun_mk (st := sIfm) w1If w2If w3If
  have FDi := fun_mk (st := sDice) w1Di w2Di w3Di
  have FRo := fun_mk (st := sRoll) w1Ro w2Ro w3Ro
  have FPi := fun_mk (st := sPick) w1Pi w2Pi w3Pi
  have FTo := fun_mk (st := sTold) w1To w2To w3To
  have FMk := fun_mk (st := sMk) w1Mk w2Mk w3Mk
  have FBs := fun_mk (st := sBs) w1Bs w2Bs w3Bs
  have FOn := fun_mk (st := sOnly) w1On w2On w3On
  have FMs := fun_mk (st := sMsg) w1Ms w2Ms w3Ms
  have FVa := func_mk (st := sVal) w1Va w2Va w3Va
  have FTk := fun_mk (st := sTk) w1Tk w2Tk w3Tk
  have FLa := func_mk (st := sLaw) w1La w2La w3La
  have FIn := fun_mk (st := sInit) w1In w2In w3In
  have FOf := fun_mk (st := sOf) w1Of w2Of w3Of
  have FSi := fun_mk (st := sSin) w1Si w2Si w3Si
  have FSo := fun_mk (st := sSof) w1So w2So w3So
  have FQo := fun_mk (st := sQof) w1Qo w2Qo w3Qo
  have bNa := FNa.binds (ps := ["value"]) fun _ _ _ _ _ _ us hl => match us, hl with | [_], _ => rfl
  have bDf := FDf.binds (ps := ["values"]) fun _ _ _ _ _ _ us hl => match us, hl with | [_], _ => rfl
  have bRl := FRl.binds (ps := ["language"]) fun _ _ _ _ _ _ us hl => match us, hl with | [_], _ => rfl
  have bPr := FPr.binds (ps := ["language", "things", "pair"]) fun _ _ _ _ _ _ us hl => match us, hl with | [_, _, _], _ => rfl
  have bCk := FCk.binds (ps := ["language", "things"]) fun _ _ _ _ _ _ us hl => match us, hl with | [_, _], _ => rfl
  have bFo := FFo.binds (ps := ["language", "value"]) fun _ _ _ _ _ _ us hl => match us, hl with | [_, _], _ => rfl
  have bIf := FIf.binds (ps := ["language", "value"]) fun _ _ _ _ _ _ us hl => match us, hl with | [_, _], _ => rfl
  have bDi := FDi.binds (ps := ["_law_script", "_law_spot"]) fun _ _ _ _ _ _ us hl => match us, hl with | [_, _], _ => rfl
  have bRo := FRo.binds (ps := ["_law_dice_here", "_law_upto"]) fun _ _ _ _ _ _ us hl => match us, hl with | [_, _], _ => rfl
  have bPi := FPi.binds (ps := ["_law_dice_here", "_law_items"]) fun _ _ _ _ _ _ us hl => match us, hl with | [_, _], _ => rfl
  have bTo := FTo.binds (ps := ["_law_told_here"]) fun _ _ _ _ _ _ us hl => match us, hl with | [_], _ => rfl
  have bMk := FMk.binds (ps := ["_law_one"]) fun _ _ _ _ _ _ us hl => match us, hl with | [_], _ => rfl
  have bBs := FBs.binds (ps := ["_law_one"]) fun _ _ _ _ _ _ us hl => match us, hl with | [_], _ => rfl
  have bOn := FOn.binds (ps := ["_law_spots", "_law_total"]) fun _ _ _ _ _ _ us hl => match us, hl with | [_, _], _ => rfl
  have bMs := FMs.binds (ps := ["_law_told_here"]) fun _ _ _ _ _ _ us hl => match us, hl with | [_], _ => rfl
  have bVa := FVa.binds (ps := ["_law_dice_here"]) fun _ _ _ _ _ _ us hl => match us, hl with | [_], _ => rfl
  have bTk := FTk.binds (ps := ["_law_call"]) fun _ _ _ _ _ _ us hl => match us, hl with | [_], _ => rfl
  have bLa := FLa.binds (ps := ["_law_script"]) fun _ _ _ _ _ _ us hl => match us, hl with | [_], _ => rfl
  have bOf := FOf.binds (ps := ["cls", "marks", "kinds"]) fun _ _ _ _ _ _ us hl => match us, hl with | [_, _, _], _ => rfl
  have bSo := FSo.binds (ps := ["cls", "language", "things"]) fun _ _ _ _ _ _ us hl => match us, hl with | [_, _, _], _ => rfl
  have bQo := FQo.binds (ps := ["cls", "language", "form"]) fun _ _ _ _ _ _ us hl => match us, hl with | [_, _, _], _ => rfl
  have jNa := PySem.W.mg_of X G w0Na
  have jDf := PySem.W.mg_of X G w0Df
  have jRl := PySem.W.mg_of X G w0Rl
  have jPr := PySem.W.mg_of X G w0Pr
  have jCk := PySem.W.mg_of X G w0Ck
  have jFo := PySem.W.mg_of X G w0Fo
  have jIf := PySem.W.mg_of X G w0If
  have jDi := PySem.W.mg_of X G w0Di
  have jRo := PySem.W.mg_of X G w0Ro
  have jPi := PySem.W.mg_of X G w0Pi
  have jTo := PySem.W.mg_of X G w0To
  have jMk := PySem.W.mg_of X G w0Mk
  have jBs := PySem.W.mg_of X G w0Bs
  have jOn := PySem.W.mg_of X G w0On
  have jMs := PySem.W.mg_of X G w0Ms
  have jVa := PySem.W.mg_of X G w0Va
  have jTk := PySem.W.mg_of X G w0Tk
  have jLa := PySem.W.mg_of X G w0La
  have m_isinstance := PySem.W.mg_none_of X G z_isinstance
  have m_tuple := PySem.W.mg_none_of X G z_tuple
  have m_all := PySem.W.mg_none_of X G z_all
  have m_any := PySem.W.mg_none_of X G z_any
  have m_sorted := PySem.W.mg_none_of X G z_sorted
  have m_list := PySem.W.mg_none_of X G z_list
  have m_len := PySem.W.mg_none_of X G z_len
  have m_str := PySem.W.mg_none_of X G z_str
  have m_int := PySem.W.mg_none_of X G z_int
  have m_abs := PySem.W.mg_none_of X G z_abs
  have m_max := PySem.W.mg_none_of X G z_max
  have m_min := PySem.W.mg_none_of X G z_min
  have m_range := PySem.W.mg_none_of X G z_range
  have m_repr := PySem.W.mg_none_of X G z_repr
  have m_dict := PySem.W.mg_none_of X G z_dict
  have m_enumerate := PySem.W.mg_none_of X G z_enumerate
  have m_ValueError := PySem.W.mg_none_of X G z_ValueError
  have m_IndexError := PySem.W.mg_none_of X G z_IndexError
  have m_KeyError := PySem.W.mg_none_of X G z_KeyError
  have m_OverflowError := PySem.W.mg_none_of X G z_OverflowError
  have m_ArithmeticError := PySem.W.mg_none_of X G z_ArithmeticError
  have m_LookupError := PySem.W.mg_none_of X G z_LookupError
  have m_RuntimeError := PySem.W.mg_none_of X G z_RuntimeError
  have gC := PySem.W.mg_of X G aC
  have g8' := PySem.W.mg_of X G g8
  have g4' := PySem.W.mg_of X G g4
  have g9' := PySem.W.mg_of X G g9
  have gs' : mg "SIGNS" = some (.str signs ts) := PySem.W.mg_of X G gs
  have gN' := PySem.W.mg_of X G gN
  have gL' := PySem.W.mg_of X G gL
  obtain ⟨hdL, tbL⟩ := tab "law" cLa PLa rc1 (tab_in w0La w1La rfl w4La w5La)
  have inL : (PLa, (("law" : Str) ++ ".<locals>.") ++ "<lambda>") ∈ [(PLa, (("law" : Str) ++ ".<locals>.") ++ "<lambda>")] := List.mem_cons_self
  have hUL : ∀ p ∈ [(PLa, (("law" : Str) ++ ".<locals>.") ++ "<lambda>")], p.1 = PLa → p.2 = (("law" : Str) ++ ".<locals>.") ++ "<lambda>" := by
    simp only [List.forall_mem_cons]
    exact ⟨fun _ => by trivial, fun p hp => (nomatch hp)⟩
  refine ⟨PySem.W.fnOf "law" "law" (defArgs sLaw) (defBody sLaw) (defScope sLaw) .none kVLa dcLa pmLa anLa (.ref cLa) ctLa, [(cLa, PLa)], spLaw K [(PLa, (("law" : Str) ++ ".<locals>.") ++ "<lambda>")], ⟨?_, ?_, ?_⟩, fun s u => .of_eq rfl, fun H a ns hl _ hT hS => ⟨a, ns, rfl, hS, hl, ?_, fun _ => rfl⟩, fun base KB GB TB => ?_⟩
  · simp only [List.forall_mem_cons]
    exact ⟨tbL, fun p hp => (nomatch hp)⟩
  · simp only [List.forall_mem_cons]
    exact ⟨w6La, fun p hp => (nomatch hp)⟩
  · simp only [List.forall_mem_cons]
    exact ⟨hdL, fun p hp => (nomatch hp)⟩
  · unfold Tabs
    simp only [List.forall_mem_cons] at hT ⊢
    exact ⟨TabS.nil hT.1, fun p hp => (nomatch hp)⟩
  simp only [List.forall_mem_cons] at TB
  have GN : ∀ k, FnOk l.prog w K mg base CX0 (k + 1) fNa _ ["value"] (spName K) := fun k => ok_name FNa m_isinstance m_str m_len m_all g9' gs'
  have GD : ∀ k, FnOk l.prog w K mg base (L2N.CX l.prog w) (k + 3) fDf _ ["values"] (spDiff K CEa) := fun k => ok_diff FDf TEa (GN k) bNa jNa w3Na m_isinstance m_tuple m_all m_sorted m_list
  have GI : ∀ k, FnA l.prog w K mg base (L2N.CX l.prog w) (k + 4) fIn ["kinds"] (spInit K C CEa) := fun k => ok_init FIn Lc TEa (GD k) bDf jDf w3Df m_len m_any g8' g4'
  have GO : ∀ k, FnOk l.prog w K mg base (L2N.CX l.prog w) (k + 6) fOf _ ["cls", "marks", "kinds"] (spOf K C CEa) := fun k => ok_of FOf Mm TEa (GI k) m_isinstance m_tuple
  have GR : ∀ k, CdX l.prog w K mg base (k + 1) "require_language" ["language"] (spRL K C CEa) := fun k => ⟨fRl, _, ok_rl FRl Lc Is TEa gC m_isinstance, bRl, jRl, w3Rl⟩
  have GPr : CdX l.prog w K mg base 4 "require_pair" ["language", "things", "pair"] (spPr K CEb) := ⟨fPr, _, ok_pr FPr TEb m_isinstance m_tuple m_len, bPr, jPr, w3Pr⟩
  have GCk : CdX l.prog w K mg base 5 "checked_things" ["language", "things"] (spCk K CEb) := ⟨fCk, _, ok_ck FCk TEb ⟨fNa, _, GN 3, bNa, jNa, w3Na⟩ GPr m_isinstance m_dict m_all, bCk, jCk, w3Ck⟩
  have GIf : CdN l.prog w K mg base 5 "is_form" ["language", "value"] spIfm := ⟨fIf, _, ok_ifm FIf ⟨fFo, _, ok_fnd FFo m_isinstance m_tuple m_len, bFo, jFo, w3Fo⟩ gN' gL', bIf, jIf, w3If⟩
  have GRo : ∀ k, FnOk l.prog w K mg base CX0 (k + 1) fRo _ ["_law_dice_here", "_law_upto"] spRoll := fun k => ok_roll FRo m_int
  have GP : ∀ k, FnOk l.prog w K mg base CX0 (k + 2) fPi _ ["_law_dice_here", "_law_items"] (spPick K) := fun k => ok_pick FPi FRo bRo jRo m_int m_len
  have GMk : ∀ k, FnOk l.prog w K mg base CX0 (k + 1) fMk _ ["_law_one"] (spMk K ⟨CEt, CEa, CEb, CEc, CEd, CEe, CEf, CEg, CEh, CEi, CEj, CEk, CEl, CEm, CEn⟩) := fun k => ok_mk FMk Tb m_isinstance
  have GBs : ∀ k, FnOk l.prog w K mg base CX0 (k + 1) fBs _ ["_law_one"] (spBs K ⟨CEt, CEa, CEb, CEc, CEd, CEe, CEf, CEg, CEh, CEi, CEj, CEk, CEl, CEm, CEn⟩) := fun k => ok_bs FBs Tb m_isinstance m_ValueError m_IndexError m_KeyError m_OverflowError m_ArithmeticError m_LookupError m_RuntimeError
  have GOn : ∀ k, FnOk l.prog w K mg base CX0 (k + 1) fOn _ ["_law_spots", "_law_total"] (spOnly K) := fun k => ok_only FOn m_range
  have Lx : Lw l.prog w K mg base 6 ⟨CEt, CEa, CEb, CEc, CEd, CEe, CEf, CEg, CEh, CEi, CEj, CEk, CEl, CEm, CEn⟩ C St Qu fSi := {
    GDi := ⟨fDi, _, ok_dice FDi m_int m_len m_abs m_max, bDi, jDi, w3Di⟩
    GPi := ⟨fPi, _, GP 6, bPi, jPi, w3Pi⟩
    GMs := ⟨fMs, _, ok_msg (k := 5) FMs Tb Mg ⟨fTo, _, ok_told FTo Mg, bTo, jTo, w3To⟩ ⟨fMk, _, GMk 6, bMk, jMk, w3Mk⟩ ⟨fBs, _, GBs 6, bBs, jBs, w3Bs⟩ ⟨fOn, _, GOn 6, bOn, jOn, w3On⟩ m_enumerate, bMs, jMs, w3Ms⟩
    GVa := ⟨fVa, _, ok_val (k := 5) FVa Tb Fv ⟨fPi, _, GP 5, bPi, jPi, w3Pi⟩ ⟨fRo, _, GRo 6, bRo, jRo, w3Ro⟩ ⟨fMk, _, GMk 6, bMk, jMk, w3Mk⟩ ⟨fBs, _, GBs 6, bBs, jBs, w3Bs⟩ ⟨fOn, _, GOn 6, bOn, jOn, w3On⟩ m_enumerate m_repr, bVa, jVa, w3Va⟩
    GOn := ⟨fOn, _, GOn 7, bOn, jOn, w3On⟩
    GMk := ⟨fMk, _, ok_mkP FMk Tb m_isinstance, bMk, jMk, w3Mk⟩
    GLa := ⟨gC, .type "type", pOf, fOf, _, ⟨r1C, r2C⟩, ⟨r3C, ⟨_, r4C⟩, r5C⟩, GO 0, bOf⟩
    GSt := ⟨PySem.W.mg_of X G aSt, .type "type", pSo, fSo, _, ⟨r1St, r2St⟩, ⟨r3St, ⟨_, r4St⟩, r5St⟩, ok_sof FSo (GR 4) GCk MM (PySem.W.mg_of X G aCM), bSo⟩
    GQu := ⟨PySem.W.mg_of X G aQu, .type "type", pQo, fQo, _, ⟨r1Qu, r2Qu⟩, ⟨r3Qu, ⟨_, r4Qu⟩, r5Qu⟩, ok_qof FQo TEc (GR 4) GIf, bQo⟩
    MS := MS
    FS := ⟨5, by decide, ok_sin FSi (GR 3)⟩
    tn := by
      simp only [tys0, List.forall_mem_cons]
      exact ⟨kit_ref le' lg' (ty_ne _ _) s0, kit_ref le' lg' (ty_ne _ _) s1, kit_ref le' lg' (ty_ne _ _) s2, kit_ref le' lg' (ty_ne _ _) s3, kit_ref le' lg' (ty_ne _ _) s4, kit_ref le' lg' (ty_ne _ _) s5, kit_ref le' lg' (ty_ne _ _) s6, fun p hp => (nomatch hp)⟩ }
  exact ok_law (k := 6) FLa Tb Lx FTk bTk jTk TB.1 inL hUL m_range m_max m_min m_len
end Tf

/-! the law from its head's facts -/
namespace Tf
open PySem PySem.Spec PyProof.Rows L2 ClX LamX TfG TfE
theorem all_hd {w : World} {K : PySem.W.Frag} {h : Heap} {mg : Str → Option Value} {fa : Addr} (X : K.In h) (G : h.Ns mainGlobals mg) (hfa : mg "law" = some (.ref fa))
    {rec : Str → Prop} (tab : ∀ (x : Str) (c P : Addr), rec x → PySem.W.tabIn K x = some (c, P) → PySem.W.CodeHd h c P ∧ h.get? P = some { cls := .none, data := .fields #[] }) (rc1 : rec "law") (c : TfHd.obsH hBs hFs K = (true, hVs)) : LawG PySem.Challenge.rw_treefits_k00_errors w K CX0 9 63 "_law_script" mg fa h := by
  have aC : PySem.W.nsIn K mainGlobals "Language" = some (some (.ref (He.ga K "Language"))) := of_decide_eq_true (TfHd.fact c 0)
  have aSt : PySem.W.nsIn K mainGlobals "Store" = some (some (.ref (He.ga K "Store"))) := of_decide_eq_true (TfHd.fact c 1)
  have aQu : PySem.W.nsIn K mainGlobals "Question" = some (some (.ref (He.ga K "Question"))) := of_decide_eq_true (TfHd.fact c 2)
  have aCM : PySem.W.nsIn K mainGlobals "MadeStore" = some (some (.ref (He.ga K "MadeStore"))) := of_decide_eq_true (TfHd.fact c 3)
  have opq : PySem.W.nsIn K cStatics "thirdparty.any" = some none := of_decide_eq_true (TfHd.fact c 4)
  have aEt : PySem.W.nsIn K mainGlobals "TreeError" = some (some (.ref (He.ga K "TreeError"))) := of_decide_eq_true (TfHd.fact c 5)
  obtain ⟨_, _, _, _, _, _, _, _, _, _, _, _, _, _, xEt⟩ := TfHd.exc_ok (TfHd.fact c 6)
  have iEt : PySem.W.findIn K (.ref (He.ga K "TreeError")) "__init__" = some (some (.ref (He.ma K (He.ga K "TreeError") "__init__"))) := of_decide_eq_true (TfHd.fact c 7)
  have kEt : PySem.W.keepIn K (.ref (He.ga K "TreeError")) = true := of_decide_eq_true (TfHd.fact c 8)
  have bEt : PySem.W.subIn K (.ref (He.ga K "TreeError")) (.type "BaseException") = some true := of_decide_eq_true (TfHd.fact c 9)
  have tEt : PySem.W.typeIn K (.ref (He.ga K "TreeError")) = some (.type "type") := of_decide_eq_true (TfHd.fact c 10)
  have vEt : PySem.W.subIn K (.ref (He.ga K "TreeError")) (.type "ValueError") = some true := of_decide_eq_true (TfHd.fact c 11)
  have h1Et : PySem.W.findIn K (.ref (He.ga K "TreeError")) "__getattribute__" = some (some (.builtin "BaseException.__getattribute__")) := of_decide_eq_true (TfHd.fact c 12)
  have h2Et : PySem.W.findIn K (.ref (He.ga K "TreeError")) "__getattr__" = some none := of_decide_eq_true (TfHd.fact c 13)
  have h3Et : PySem.W.hasDictIn K (He.ga K "TreeError") = true := of_decide_eq_true (TfHd.fact c 14)
  have h4Et : PySem.W.findIn K (.ref (He.ga K "TreeError")) "__class__" = some (some (.builtin "object.__class__")) := of_decide_eq_true (TfHd.fact c 15)
  have h5Et : PySem.W.mroIn K (He.ga K "TreeError") (.type "object") = some true := of_decide_eq_true (TfHd.fact c 16)
  have yEt : PySem.W.typeIn K (.ref (He.ma K (He.ga K "TreeError") "__init__")) = some (.type "function") := of_decide_eq_true (TfHd.fact c 17)
  obtain ⟨_, _, _, _, _, _, _, lEt, _⟩ := TfHd.fn_okC (TfHd.func c 0) (TfHd.fact c 18) (TfHd.fact c 19)
  have cEt : PySem.W.codeIn K (.ref (TfHd.codeA K (He.ma K (He.ga K "TreeError") "__init__"))) "TreeError.__init__" = true := of_decide_eq_true (TfHd.fact c 20)
  obtain ⟨_, _, _, lcEt⟩ := TfHd.flds_ok (TfHd.fact c 21)
  have lvEt := of_decide_eq_true (TfHd.fact c 22)
  obtain ⟨_, _, _, lxEt⟩ := TfHd.cell_ok (TfHd.fact c 23)
  have aEa : PySem.W.nsIn K mainGlobals "InvalidLanguage" = some (some (.ref (He.ga K "InvalidLanguage"))) := of_decide_eq_true (TfHd.fact c 24)
  obtain ⟨_, _, _, _, _, _, _, _, _, _, _, _, _, _, xEa⟩ := TfHd.exc_ok (TfHd.fact c 25)
  have iEa : PySem.W.findIn K (.ref (He.ga K "InvalidLanguage")) "__init__" = some (some (.ref (He.ma K (He.ga K "TreeError") "__init__"))) := of_decide_eq_true (TfHd.fact c 26)
  have kEa : PySem.W.keepIn K (.ref (He.ga K "InvalidLanguage")) = true := of_decide_eq_true (TfHd.fact c 27)
  have bEa : PySem.W.subIn K (.ref (He.ga K "InvalidLanguage")) (.type "BaseException") = some true := of_decide_eq_true (TfHd.fact c 28)
  have tEa : PySem.W.typeIn K (.ref (He.ga K "InvalidLanguage")) = some (.type "type") := of_decide_eq_true (TfHd.fact c 29)
  have vEa : PySem.W.subIn K (.ref (He.ga K "InvalidLanguage")) (.type "ValueError") = some true := of_decide_eq_true (TfHd.fact c 30)
  have h1Ea : PySem.W.findIn K (.ref (He.ga K "InvalidLanguage")) "__getattribute__" = some (some (.builtin "BaseException.__getattribute__")) := of_decide_eq_true (TfHd.fact c 31)
  have h2Ea : PySem.W.findIn K (.ref (He.ga K "InvalidLanguage")) "__getattr__" = some none := of_decide_eq_true (TfHd.fact c 32)
  have h3Ea : PySem.W.hasDictIn K (He.ga K "InvalidLanguage") = true := of_decide_eq_true (TfHd.fact c 33)
  have h4Ea : PySem.W.findIn K (.ref (He.ga K "InvalidLanguage")) "__class__" = some (some (.builtin "object.__class__")) := of_decide_eq_true (TfHd.fact c 34)
  have h5Ea : PySem.W.mroIn K (He.ga K "InvalidLanguage") (.type "object") = some true := of_decide_eq_true (TfHd.fact c 35)
  have mEa : PySem.W.mroIn K (He.ga K "InvalidLanguage") (.ref (He.ga K "TreeError")) = some true := of_decide_eq_true (TfHd.fact c 36)
  have neEa : (He.ga K "InvalidLanguage") ≠ (He.ga K "TreeError") := of_decide_eq_true (TfHd.fact c 37)
  have aEb : PySem.W.nsIn K mainGlobals "InvalidStore" = some (some (.ref (He.ga K "InvalidStore"))) := of_decide_eq_true (TfHd.fact c 38)
  obtain ⟨_, _, _, _, _, _, _, _, _, _, _, _, _, _, xEb⟩ := TfHd.exc_ok (TfHd.fact c 39)
  have iEb : PySem.W.findIn K (.ref (He.ga K "InvalidStore")) "__init__" = some (some (.ref (He.ma K (He.ga K "TreeError") "__init__"))) := of_decide_eq_true (TfHd.fact c 40)
  have kEb : PySem.W.keepIn K (.ref (He.ga K "InvalidStore")) = true := of_decide_eq_true (TfHd.fact c 41)
  have bEb : PySem.W.subIn K (.ref (He.ga K "InvalidStore")) (.type "BaseException") = some true := of_decide_eq_true (TfHd.fact c 42)
  have tEb : PySem.W.typeIn K (.ref (He.ga K "InvalidStore")) = some (.type "type") := of_decide_eq_true (TfHd.fact c 43)
  have vEb : PySem.W.subIn K (.ref (He.ga K "InvalidStore")) (.type "ValueError") = some true := of_decide_eq_true (TfHd.fact c 44)
  have h1Eb : PySem.W.findIn K (.ref (He.ga K "InvalidStore")) "__getattribute__" = some (some (.builtin "BaseException.__getattribute__")) := of_decide_eq_true (TfHd.fact c 45)
  have h2Eb : PySem.W.findIn K (.ref (He.ga K "InvalidStore")) "__getattr__" = some none := of_decide_eq_true (TfHd.fact c 46)
  have h3Eb : PySem.W.hasDictIn K (He.ga K "InvalidStore") = true := of_decide_eq_true (TfHd.fact c 47)
  have h4Eb : PySem.W.findIn K (.ref (He.ga K "InvalidStore")) "__class__" = some (some (.builtin "object.__class__")) := of_decide_eq_true (TfHd.fact c 48)
  have h5Eb : PySem.W.mroIn K (He.ga K "InvalidStore") (.type "object") = some true := of_decide_eq_true (TfHd.fact c 49)
  have mEb : PySem.W.mroIn K (He.ga K "InvalidStore") (.ref (He.ga K "TreeError")) = some true := of_decide_eq_true (TfHd.fact c 50)
  have neEb : (He.ga K "InvalidStore") ≠ (He.ga K "TreeError") := of_decide_eq_true (TfHd.fact c 51)
  have aEc : PySem.W.nsIn K mainGlobals "InvalidQuestion" = some (some (.ref (He.ga K "InvalidQuestion"))) := of_decide_eq_true (TfHd.fact c 52)
  obtain ⟨_, _, _, _, _, _, _, _, _, _, _, _, _, _, xEc⟩ := TfHd.exc_ok (TfHd.fact c 53)
  have iEc : PySem.W.findIn K (.ref (He.ga K "InvalidQuestion")) "__init__" = some (some (.ref (He.ma K (He.ga K "TreeError") "__init__"))) := of_decide_eq_true (TfHd.fact c 54)
  have kEc : PySem.W.keepIn K (.ref (He.ga K "InvalidQuestion")) = true := of_decide_eq_true (TfHd.fact c 55)
  have bEc : PySem.W.subIn K (.ref (He.ga K "InvalidQuestion")) (.type "BaseException") = some true := of_decide_eq_true (TfHd.fact c 56)
  have tEc : PySem.W.typeIn K (.ref (He.ga K "InvalidQuestion")) = some (.type "type") := of_decide_eq_true (TfHd.fact c 57)
  have vEc : PySem.W.subIn K (.ref (He.ga K "InvalidQuestion")) (.type "ValueError") = some true := of_decide_eq_true (TfHd.fact c 58)
  have h1Ec : PySem.W.findIn K (.ref (He.ga K "InvalidQuestion")) "__getattribute__" = some (some (.builtin "BaseException.__getattribute__")) := of_decide_eq_true (TfHd.fact c 59)
  have h2Ec : PySem.W.findIn K (.ref (He.ga K "InvalidQuestion")) "__getattr__" = some none := of_decide_eq_true (TfHd.fact c 60)
  have h3Ec : PySem.W.hasDictIn K (He.ga K "InvalidQuestion") = true := of_decide_eq_true (TfHd.fact c 61)
  have h4Ec : PySem.W.findIn K (.ref (He.ga K "InvalidQuestion")) "__class__" = some (some (.builtin "object.__class__")) := of_decide_eq_true (TfHd.fact c 62)
  have h5Ec : PySem.W.mroIn K (He.ga K "InvalidQuestion") (.type "object") = some true := of_decide_eq_true (TfHd.fact c 63)
  have mEc : PySem.W.mroIn K (He.ga K "InvalidQuestion") (.ref (He.ga K "TreeError")) = some true := of_decide_eq_true (TfHd.fact c 64)
  have neEc : (He.ga K "InvalidQuestion") ≠ (He.ga K "TreeError") := of_decide_eq_true (TfHd.fact c 65)
  have aEd : PySem.W.nsIn K mainGlobals "InvalidExamples" = some (some (.ref (He.ga K "InvalidExamples"))) := of_decide_eq_true (TfHd.fact c 66)
  obtain ⟨_, _, _, _, _, _, _, _, _, _, _, _, _, _, xEd⟩ := TfHd.exc_ok (TfHd.fact c 67)
  have iEd : PySem.W.findIn K (.ref (He.ga K "InvalidExamples")) "__init__" = some (some (.ref (He.ma K (He.ga K "TreeError") "__init__"))) := of_decide_eq_true (TfHd.fact c 68)
  have kEd : PySem.W.keepIn K (.ref (He.ga K "InvalidExamples")) = true := of_decide_eq_true (TfHd.fact c 69)
  have bEd : PySem.W.subIn K (.ref (He.ga K "InvalidExamples")) (.type "BaseException") = some true := of_decide_eq_true (TfHd.fact c 70)
  have tEd : PySem.W.typeIn K (.ref (He.ga K "InvalidExamples")) = some (.type "type") := of_decide_eq_true (TfHd.fact c 71)
  have vEd : PySem.W.subIn K (.ref (He.ga K "InvalidExamples")) (.type "ValueError") = some true := of_decide_eq_true (TfHd.fact c 72)
  have h1Ed : PySem.W.findIn K (.ref (He.ga K "InvalidExamples")) "__getattribute__" = some (some (.builtin "BaseException.__getattribute__")) := of_decide_eq_true (TfHd.fact c 73)
  have h2Ed : PySem.W.findIn K (.ref (He.ga K "InvalidExamples")) "__getattr__" = some none := of_decide_eq_true (TfHd.fact c 74)
  have h3Ed : PySem.W.hasDictIn K (He.ga K "InvalidExamples") = true := of_decide_eq_true (TfHd.fact c 75)
  have h4Ed : PySem.W.findIn K (.ref (He.ga K "InvalidExamples")) "__class__" = some (some (.builtin "object.__class__")) := of_decide_eq_true (TfHd.fact c 76)
  have h5Ed : PySem.W.mroIn K (He.ga K "InvalidExamples") (.type "object") = some true := of_decide_eq_true (TfHd.fact c 77)
  have mEd : PySem.W.mroIn K (He.ga K "InvalidExamples") (.ref (He.ga K "TreeError")) = some true := of_decide_eq_true (TfHd.fact c 78)
  have neEd : (He.ga K "InvalidExamples") ≠ (He.ga K "TreeError") := of_decide_eq_true (TfHd.fact c 79)
  have aEe : PySem.W.nsIn K mainGlobals "InvalidAddress" = some (some (.ref (He.ga K "InvalidAddress"))) := of_decide_eq_true (TfHd.fact c 80)
  obtain ⟨_, _, _, _, _, _, _, _, _, _, _, _, _, _, xEe⟩ := TfHd.exc_ok (TfHd.fact c 81)
  have iEe : PySem.W.findIn K (.ref (He.ga K "InvalidAddress")) "__init__" = some (some (.ref (He.ma K (He.ga K "TreeError") "__init__"))) := of_decide_eq_true (TfHd.fact c 82)
  have kEe : PySem.W.keepIn K (.ref (He.ga K "InvalidAddress")) = true := of_decide_eq_true (TfHd.fact c 83)
  have bEe : PySem.W.subIn K (.ref (He.ga K "InvalidAddress")) (.type "BaseException") = some true := of_decide_eq_true (TfHd.fact c 84)
  have tEe : PySem.W.typeIn K (.ref (He.ga K "InvalidAddress")) = some (.type "type") := of_decide_eq_true (TfHd.fact c 85)
  have vEe : PySem.W.subIn K (.ref (He.ga K "InvalidAddress")) (.type "ValueError") = some true := of_decide_eq_true (TfHd.fact c 86)
  have h1Ee : PySem.W.findIn K (.ref (He.ga K "InvalidAddress")) "__getattribute__" = some (some (.builtin "BaseException.__getattribute__")) := of_decide_eq_true (TfHd.fact c 87)
  have h2Ee : PySem.W.findIn K (.ref (He.ga K "InvalidAddress")) "__getattr__" = some none := of_decide_eq_true (TfHd.fact c 88)
  have h3Ee : PySem.W.hasDictIn K (He.ga K "InvalidAddress") = true := of_decide_eq_true (TfHd.fact c 89)
  have h4Ee : PySem.W.findIn K (.ref (He.ga K "InvalidAddress")) "__class__" = some (some (.builtin "object.__class__")) := of_decide_eq_true (TfHd.fact c 90)
  have h5Ee : PySem.W.mroIn K (He.ga K "InvalidAddress") (.type "object") = some true := of_decide_eq_true (TfHd.fact c 91)
  have mEe : PySem.W.mroIn K (He.ga K "InvalidAddress") (.ref (He.ga K "TreeError")) = some true := of_decide_eq_true (TfHd.fact c 92)
  have neEe : (He.ga K "InvalidAddress") ≠ (He.ga K "TreeError") := of_decide_eq_true (TfHd.fact c 93)
  have aEf : PySem.W.nsIn K mainGlobals "InvalidOperation" = some (some (.ref (He.ga K "InvalidOperation"))) := of_decide_eq_true (TfHd.fact c 94)
  obtain ⟨_, _, _, _, _, _, _, _, _, _, _, _, _, _, xEf⟩ := TfHd.exc_ok (TfHd.fact c 95)
  have iEf : PySem.W.findIn K (.ref (He.ga K "InvalidOperation")) "__init__" = some (some (.ref (He.ma K (He.ga K "TreeError") "__init__"))) := of_decide_eq_true (TfHd.fact c 96)
  have kEf : PySem.W.keepIn K (.ref (He.ga K "InvalidOperation")) = true := of_decide_eq_true (TfHd.fact c 97)
  have bEf : PySem.W.subIn K (.ref (He.ga K "InvalidOperation")) (.type "BaseException") = some true := of_decide_eq_true (TfHd.fact c 98)
  have tEf : PySem.W.typeIn K (.ref (He.ga K "InvalidOperation")) = some (.type "type") := of_decide_eq_true (TfHd.fact c 99)
  have vEf : PySem.W.subIn K (.ref (He.ga K "InvalidOperation")) (.type "ValueError") = some true := of_decide_eq_true (TfHd.fact c 100)
  have h1Ef : PySem.W.findIn K (.ref (He.ga K "InvalidOperation")) "__getattribute__" = some (some (.builtin "BaseException.__getattribute__")) := of_decide_eq_true (TfHd.fact c 101)
  have h2Ef : PySem.W.findIn K (.ref (He.ga K "InvalidOperation")) "__getattr__" = some none := of_decide_eq_true (TfHd.fact c 102)
  have h3Ef : PySem.W.hasDictIn K (He.ga K "InvalidOperation") = true := of_decide_eq_true (TfHd.fact c 103)
  have h4Ef : PySem.W.findIn K (.ref (He.ga K "InvalidOperation")) "__class__" = some (some (.builtin "object.__class__")) := of_decide_eq_true (TfHd.fact c 104)
  have h5Ef : PySem.W.mroIn K (He.ga K "InvalidOperation") (.type "object") = some true := of_decide_eq_true (TfHd.fact c 105)
  have mEf : PySem.W.mroIn K (He.ga K "InvalidOperation") (.ref (He.ga K "TreeError")) = some true := of_decide_eq_true (TfHd.fact c 106)
  have neEf : (He.ga K "InvalidOperation") ≠ (He.ga K "TreeError") := of_decide_eq_true (TfHd.fact c 107)
  have aEg : PySem.W.nsIn K mainGlobals "InvalidEdit" = some (some (.ref (He.ga K "InvalidEdit"))) := of_decide_eq_true (TfHd.fact c 108)
  obtain ⟨_, _, _, _, _, _, _, _, _, _, _, _, _, _, xEg⟩ := TfHd.exc_ok (TfHd.fact c 109)
  have iEg : PySem.W.findIn K (.ref (He.ga K "InvalidEdit")) "__init__" = some (some (.ref (He.ma K (He.ga K "TreeError") "__init__"))) := of_decide_eq_true (TfHd.fact c 110)
  have kEg : PySem.W.keepIn K (.ref (He.ga K "InvalidEdit")) = true := of_decide_eq_true (TfHd.fact c 111)
  have bEg : PySem.W.subIn K (.ref (He.ga K "InvalidEdit")) (.type "BaseException") = some true := of_decide_eq_true (TfHd.fact c 112)
  have tEg : PySem.W.typeIn K (.ref (He.ga K "InvalidEdit")) = some (.type "type") := of_decide_eq_true (TfHd.fact c 113)
  have vEg : PySem.W.subIn K (.ref (He.ga K "InvalidEdit")) (.type "ValueError") = some true := of_decide_eq_true (TfHd.fact c 114)
  have h1Eg : PySem.W.findIn K (.ref (He.ga K "InvalidEdit")) "__getattribute__" = some (some (.builtin "BaseException.__getattribute__")) := of_decide_eq_true (TfHd.fact c 115)
  have h2Eg : PySem.W.findIn K (.ref (He.ga K "InvalidEdit")) "__getattr__" = some none := of_decide_eq_true (TfHd.fact c 116)
  have h3Eg : PySem.W.hasDictIn K (He.ga K "InvalidEdit") = true := of_decide_eq_true (TfHd.fact c 117)
  have h4Eg : PySem.W.findIn K (.ref (He.ga K "InvalidEdit")) "__class__" = some (some (.builtin "object.__class__")) := of_decide_eq_true (TfHd.fact c 118)
  have h5Eg : PySem.W.mroIn K (He.ga K "InvalidEdit") (.type "object") = some true := of_decide_eq_true (TfHd.fact c 119)
  have mEg : PySem.W.mroIn K (He.ga K "InvalidEdit") (.ref (He.ga K "TreeError")) = some true := of_decide_eq_true (TfHd.fact c 120)
  have neEg : (He.ga K "InvalidEdit") ≠ (He.ga K "TreeError") := of_decide_eq_true (TfHd.fact c 121)
  have aEh : PySem.W.nsIn K mainGlobals "ParseError" = some (some (.ref (He.ga K "ParseError"))) := of_decide_eq_true (TfHd.fact c 122)
  obtain ⟨_, _, _, _, _, _, _, _, _, _, _, _, _, _, xEh⟩ := TfHd.exc_ok (TfHd.fact c 123)
  have iEh : PySem.W.findIn K (.ref (He.ga K "ParseError")) "__init__" = some (some (.ref (He.ma K (He.ga K "TreeError") "__init__"))) := of_decide_eq_true (TfHd.fact c 124)
  have kEh : PySem.W.keepIn K (.ref (He.ga K "ParseError")) = true := of_decide_eq_true (TfHd.fact c 125)
  have bEh : PySem.W.subIn K (.ref (He.ga K "ParseError")) (.type "BaseException") = some true := of_decide_eq_true (TfHd.fact c 126)
  have tEh : PySem.W.typeIn K (.ref (He.ga K "ParseError")) = some (.type "type") := of_decide_eq_true (TfHd.fact c 127)
  have vEh : PySem.W.subIn K (.ref (He.ga K "ParseError")) (.type "ValueError") = some true := of_decide_eq_true (TfHd.fact c 128)
  have h1Eh : PySem.W.findIn K (.ref (He.ga K "ParseError")) "__getattribute__" = some (some (.builtin "BaseException.__getattribute__")) := of_decide_eq_true (TfHd.fact c 129)
  have h2Eh : PySem.W.findIn K (.ref (He.ga K "ParseError")) "__getattr__" = some none := of_decide_eq_true (TfHd.fact c 130)
  have h3Eh : PySem.W.hasDictIn K (He.ga K "ParseError") = true := of_decide_eq_true (TfHd.fact c 131)
  have h4Eh : PySem.W.findIn K (.ref (He.ga K "ParseError")) "__class__" = some (some (.builtin "object.__class__")) := of_decide_eq_true (TfHd.fact c 132)
  have h5Eh : PySem.W.mroIn K (He.ga K "ParseError") (.type "object") = some true := of_decide_eq_true (TfHd.fact c 133)
  have mEh : PySem.W.mroIn K (He.ga K "ParseError") (.ref (He.ga K "TreeError")) = some true := of_decide_eq_true (TfHd.fact c 134)
  have neEh : (He.ga K "ParseError") ≠ (He.ga K "TreeError") := of_decide_eq_true (TfHd.fact c 135)
  have aEi : PySem.W.nsIn K mainGlobals "InvalidCommand" = some (some (.ref (He.ga K "InvalidCommand"))) := of_decide_eq_true (TfHd.fact c 136)
  obtain ⟨_, _, _, _, _, _, _, _, _, _, _, _, _, _, xEi⟩ := TfHd.exc_ok (TfHd.fact c 137)
  have iEi : PySem.W.findIn K (.ref (He.ga K "InvalidCommand")) "__init__" = some (some (.ref (He.ma K (He.ga K "TreeError") "__init__"))) := of_decide_eq_true (TfHd.fact c 138)
  have kEi : PySem.W.keepIn K (.ref (He.ga K "InvalidCommand")) = true := of_decide_eq_true (TfHd.fact c 139)
  have bEi : PySem.W.subIn K (.ref (He.ga K "InvalidCommand")) (.type "BaseException") = some true := of_decide_eq_true (TfHd.fact c 140)
  have tEi : PySem.W.typeIn K (.ref (He.ga K "InvalidCommand")) = some (.type "type") := of_decide_eq_true (TfHd.fact c 141)
  have vEi : PySem.W.subIn K (.ref (He.ga K "InvalidCommand")) (.type "ValueError") = some true := of_decide_eq_true (TfHd.fact c 142)
  have h1Ei : PySem.W.findIn K (.ref (He.ga K "InvalidCommand")) "__getattribute__" = some (some (.builtin "BaseException.__getattribute__")) := of_decide_eq_true (TfHd.fact c 143)
  have h2Ei : PySem.W.findIn K (.ref (He.ga K "InvalidCommand")) "__getattr__" = some none := of_decide_eq_true (TfHd.fact c 144)
  have h3Ei : PySem.W.hasDictIn K (He.ga K "InvalidCommand") = true := of_decide_eq_true (TfHd.fact c 145)
  have h4Ei : PySem.W.findIn K (.ref (He.ga K "InvalidCommand")) "__class__" = some (some (.builtin "object.__class__")) := of_decide_eq_true (TfHd.fact c 146)
  have h5Ei : PySem.W.mroIn K (He.ga K "InvalidCommand") (.type "object") = some true := of_decide_eq_true (TfHd.fact c 147)
  have mEi : PySem.W.mroIn K (He.ga K "InvalidCommand") (.ref (He.ga K "TreeError")) = some true := of_decide_eq_true (TfHd.fact c 148)
  have neEi : (He.ga K "InvalidCommand") ≠ (He.ga K "TreeError") := of_decide_eq_true (TfHd.fact c 149)
  have aEj : PySem.W.nsIn K mainGlobals "InvalidNumber" = some (some (.ref (He.ga K "InvalidNumber"))) := of_decide_eq_true (TfHd.fact c 150)
  obtain ⟨_, _, _, _, _, _, _, _, _, _, _, _, _, _, xEj⟩ := TfHd.exc_ok (TfHd.fact c 151)
  have iEj : PySem.W.findIn K (.ref (He.ga K "InvalidNumber")) "__init__" = some (some (.ref (He.ma K (He.ga K "InvalidNumber") "__init__"))) := of_decide_eq_true (TfHd.fact c 152)
  have kEj : PySem.W.keepIn K (.ref (He.ga K "InvalidNumber")) = true := of_decide_eq_true (TfHd.fact c 153)
  have bEj : PySem.W.subIn K (.ref (He.ga K "InvalidNumber")) (.type "BaseException") = some true := of_decide_eq_true (TfHd.fact c 154)
  have tEj : PySem.W.typeIn K (.ref (He.ga K "InvalidNumber")) = some (.type "type") := of_decide_eq_true (TfHd.fact c 155)
  have vEj : PySem.W.subIn K (.ref (He.ga K "InvalidNumber")) (.type "IndexError") = some true := of_decide_eq_true (TfHd.fact c 156)
  have h1Ej : PySem.W.findIn K (.ref (He.ga K "InvalidNumber")) "__getattribute__" = some (some (.builtin "BaseException.__getattribute__")) := of_decide_eq_true (TfHd.fact c 157)
  have h2Ej : PySem.W.findIn K (.ref (He.ga K "InvalidNumber")) "__getattr__" = some none := of_decide_eq_true (TfHd.fact c 158)
  have h3Ej : PySem.W.hasDictIn K (He.ga K "InvalidNumber") = true := of_decide_eq_true (TfHd.fact c 159)
  have h4Ej : PySem.W.findIn K (.ref (He.ga K "InvalidNumber")) "__class__" = some (some (.builtin "object.__class__")) := of_decide_eq_true (TfHd.fact c 160)
  have h5Ej : PySem.W.mroIn K (He.ga K "InvalidNumber") (.type "object") = some true := of_decide_eq_true (TfHd.fact c 161)
  have yEj : PySem.W.typeIn K (.ref (He.ma K (He.ga K "InvalidNumber") "__init__")) = some (.type "function") := of_decide_eq_true (TfHd.fact c 162)
  obtain ⟨_, _, _, _, _, _, _, lEj, _⟩ := TfHd.fn_okC (TfHd.func c 1) (TfHd.fact c 163) (TfHd.fact c 164)
  have cEj : PySem.W.codeIn K (.ref (TfHd.codeA K (He.ma K (He.ga K "InvalidNumber") "__init__"))) "InvalidNumber.__init__" = true := of_decide_eq_true (TfHd.fact c 165)
  obtain ⟨_, _, _, lcEj⟩ := TfHd.flds_ok (TfHd.fact c 166)
  have lvEj := of_decide_eq_true (TfHd.fact c 167)
  obtain ⟨_, _, _, lxEj⟩ := TfHd.cell_ok (TfHd.fact c 168)
  have mEj : PySem.W.mroIn K (He.ga K "InvalidNumber") (.ref (He.ga K "InvalidNumber")) = some true := of_decide_eq_true (TfHd.fact c 169)
  have g1Ej : PySem.W.findIn K (.ref (He.ga K "InvalidNumber")) "__setattr__" = some (some (.builtin "object.__setattr__")) := of_decide_eq_true (TfHd.fact c 170)
  have g2Ej : PySem.W.findIn K (.ref (He.ga K "InvalidNumber")) "value" = some none := of_decide_eq_true (TfHd.fact c 171)
  have aEk : PySem.W.nsIn K mainGlobals "UnknownName" = some (some (.ref (He.ga K "UnknownName"))) := of_decide_eq_true (TfHd.fact c 172)
  obtain ⟨_, _, _, _, _, _, _, _, _, _, _, _, _, _, xEk⟩ := TfHd.exc_ok (TfHd.fact c 173)
  have iEk : PySem.W.findIn K (.ref (He.ga K "UnknownName")) "__init__" = some (some (.ref (He.ma K (He.ga K "UnknownName") "__init__"))) := of_decide_eq_true (TfHd.fact c 174)
  have kEk : PySem.W.keepIn K (.ref (He.ga K "UnknownName")) = true := of_decide_eq_true (TfHd.fact c 175)
  have bEk : PySem.W.subIn K (.ref (He.ga K "UnknownName")) (.type "BaseException") = some true := of_decide_eq_true (TfHd.fact c 176)
  have tEk : PySem.W.typeIn K (.ref (He.ga K "UnknownName")) = some (.type "type") := of_decide_eq_true (TfHd.fact c 177)
  have vEk : PySem.W.subIn K (.ref (He.ga K "UnknownName")) (.type "KeyError") = some true := of_decide_eq_true (TfHd.fact c 178)
  have h1Ek : PySem.W.findIn K (.ref (He.ga K "UnknownName")) "__getattribute__" = some (some (.builtin "BaseException.__getattribute__")) := of_decide_eq_true (TfHd.fact c 179)
  have h2Ek : PySem.W.findIn K (.ref (He.ga K "UnknownName")) "__getattr__" = some none := of_decide_eq_true (TfHd.fact c 180)
  have h3Ek : PySem.W.hasDictIn K (He.ga K "UnknownName") = true := of_decide_eq_true (TfHd.fact c 181)
  have h4Ek : PySem.W.findIn K (.ref (He.ga K "UnknownName")) "__class__" = some (some (.builtin "object.__class__")) := of_decide_eq_true (TfHd.fact c 182)
  have h5Ek : PySem.W.mroIn K (He.ga K "UnknownName") (.type "object") = some true := of_decide_eq_true (TfHd.fact c 183)
  have yEk : PySem.W.typeIn K (.ref (He.ma K (He.ga K "UnknownName") "__init__")) = some (.type "function") := of_decide_eq_true (TfHd.fact c 184)
  obtain ⟨_, _, _, _, _, _, _, lEk, _⟩ := TfHd.fn_okC (TfHd.func c 2) (TfHd.fact c 185) (TfHd.fact c 186)
  have cEk : PySem.W.codeIn K (.ref (TfHd.codeA K (He.ma K (He.ga K "UnknownName") "__init__"))) "UnknownName.__init__" = true := of_decide_eq_true (TfHd.fact c 187)
  obtain ⟨_, _, _, lcEk⟩ := TfHd.flds_ok (TfHd.fact c 188)
  have lvEk := of_decide_eq_true (TfHd.fact c 189)
  obtain ⟨_, _, _, lxEk⟩ := TfHd.cell_ok (TfHd.fact c 190)
  have mEk : PySem.W.mroIn K (He.ga K "UnknownName") (.ref (He.ga K "UnknownName")) = some true := of_decide_eq_true (TfHd.fact c 191)
  have g1Ek : PySem.W.findIn K (.ref (He.ga K "UnknownName")) "__setattr__" = some (some (.builtin "object.__setattr__")) := of_decide_eq_true (TfHd.fact c 192)
  have g2Ek : PySem.W.findIn K (.ref (He.ga K "UnknownName")) "name" = some none := of_decide_eq_true (TfHd.fact c 193)
  have aEl : PySem.W.nsIn K mainGlobals "TooMany" = some (some (.ref (He.ga K "TooMany"))) := of_decide_eq_true (TfHd.fact c 194)
  obtain ⟨_, _, _, _, _, _, _, _, _, _, _, _, _, _, xEl⟩ := TfHd.exc_ok (TfHd.fact c 195)
  have iEl : PySem.W.findIn K (.ref (He.ga K "TooMany")) "__init__" = some (some (.ref (He.ma K (He.ga K "TooMany") "__init__"))) := of_decide_eq_true (TfHd.fact c 196)
  have kEl : PySem.W.keepIn K (.ref (He.ga K "TooMany")) = true := of_decide_eq_true (TfHd.fact c 197)
  have bEl : PySem.W.subIn K (.ref (He.ga K "TooMany")) (.type "BaseException") = some true := of_decide_eq_true (TfHd.fact c 198)
  have tEl : PySem.W.typeIn K (.ref (He.ga K "TooMany")) = some (.type "type") := of_decide_eq_true (TfHd.fact c 199)
  have vEl : PySem.W.subIn K (.ref (He.ga K "TooMany")) (.type "OverflowError") = some true := of_decide_eq_true (TfHd.fact c 200)
  have h1El : PySem.W.findIn K (.ref (He.ga K "TooMany")) "__getattribute__" = some (some (.builtin "BaseException.__getattribute__")) := of_decide_eq_true (TfHd.fact c 201)
  have h2El : PySem.W.findIn K (.ref (He.ga K "TooMany")) "__getattr__" = some none := of_decide_eq_true (TfHd.fact c 202)
  have h3El : PySem.W.hasDictIn K (He.ga K "TooMany") = true := of_decide_eq_true (TfHd.fact c 203)
  have h4El : PySem.W.findIn K (.ref (He.ga K "TooMany")) "__class__" = some (some (.builtin "object.__class__")) := of_decide_eq_true (TfHd.fact c 204)
  have h5El : PySem.W.mroIn K (He.ga K "TooMany") (.type "object") = some true := of_decide_eq_true (TfHd.fact c 205)
  have yEl : PySem.W.typeIn K (.ref (He.ma K (He.ga K "TooMany") "__init__")) = some (.type "function") := of_decide_eq_true (TfHd.fact c 206)
  obtain ⟨_, _, _, _, _, _, _, lEl, _⟩ := TfHd.fn_okC (TfHd.func c 3) (TfHd.fact c 207) (TfHd.fact c 208)
  have cEl : PySem.W.codeIn K (.ref (TfHd.codeA K (He.ma K (He.ga K "TooMany") "__init__"))) "TooMany.__init__" = true := of_decide_eq_true (TfHd.fact c 209)
  obtain ⟨_, _, _, lcEl⟩ := TfHd.flds_ok (TfHd.fact c 210)
  have lvEl := of_decide_eq_true (TfHd.fact c 211)
  obtain ⟨_, _, _, lxEl⟩ := TfHd.cell_ok (TfHd.fact c 212)
  have mEl : PySem.W.mroIn K (He.ga K "TooMany") (.ref (He.ga K "TooMany")) = some true := of_decide_eq_true (TfHd.fact c 213)
  have g1El : PySem.W.findIn K (.ref (He.ga K "TooMany")) "__setattr__" = some (some (.builtin "object.__setattr__")) := of_decide_eq_true (TfHd.fact c 214)
  have g2El : PySem.W.findIn K (.ref (He.ga K "TooMany")) "limit" = some none := of_decide_eq_true (TfHd.fact c 215)
  have aEm : PySem.W.nsIn K mainGlobals "NoFit" = some (some (.ref (He.ga K "NoFit"))) := of_decide_eq_true (TfHd.fact c 216)
  obtain ⟨_, _, _, _, _, _, _, _, _, _, _, _, _, _, xEm⟩ := TfHd.exc_ok (TfHd.fact c 217)
  have iEm : PySem.W.findIn K (.ref (He.ga K "NoFit")) "__init__" = some (some (.ref (He.ma K (He.ga K "NoFit") "__init__"))) := of_decide_eq_true (TfHd.fact c 218)
  have kEm : PySem.W.keepIn K (.ref (He.ga K "NoFit")) = true := of_decide_eq_true (TfHd.fact c 219)
  have bEm : PySem.W.subIn K (.ref (He.ga K "NoFit")) (.type "BaseException") = some true := of_decide_eq_true (TfHd.fact c 220)
  have tEm : PySem.W.typeIn K (.ref (He.ga K "NoFit")) = some (.type "type") := of_decide_eq_true (TfHd.fact c 221)
  have vEm : PySem.W.subIn K (.ref (He.ga K "NoFit")) (.type "ArithmeticError") = some true := of_decide_eq_true (TfHd.fact c 222)
  have h1Em : PySem.W.findIn K (.ref (He.ga K "NoFit")) "__getattribute__" = some (some (.builtin "BaseException.__getattribute__")) := of_decide_eq_true (TfHd.fact c 223)
  have h2Em : PySem.W.findIn K (.ref (He.ga K "NoFit")) "__getattr__" = some none := of_decide_eq_true (TfHd.fact c 224)
  have h3Em : PySem.W.hasDictIn K (He.ga K "NoFit") = true := of_decide_eq_true (TfHd.fact c 225)
  have h4Em : PySem.W.findIn K (.ref (He.ga K "NoFit")) "__class__" = some (some (.builtin "object.__class__")) := of_decide_eq_true (TfHd.fact c 226)
  have h5Em : PySem.W.mroIn K (He.ga K "NoFit") (.type "object") = some true := of_decide_eq_true (TfHd.fact c 227)
  have yEm : PySem.W.typeIn K (.ref (He.ma K (He.ga K "NoFit") "__init__")) = some (.type "function") := of_decide_eq_true (TfHd.fact c 228)
  obtain ⟨_, _, _, _, _, _, _, lEm, _⟩ := TfHd.fn_okC (TfHd.func c 4) (TfHd.fact c 229) (TfHd.fact c 230)
  have cEm : PySem.W.codeIn K (.ref (TfHd.codeA K (He.ma K (He.ga K "NoFit") "__init__"))) "NoFit.__init__" = true := of_decide_eq_true (TfHd.fact c 231)
  obtain ⟨_, _, _, lcEm⟩ := TfHd.flds_ok (TfHd.fact c 232)
  have lvEm := of_decide_eq_true (TfHd.fact c 233)
  obtain ⟨_, _, _, lxEm⟩ := TfHd.cell_ok (TfHd.fact c 234)
  have mEm : PySem.W.mroIn K (He.ga K "NoFit") (.ref (He.ga K "NoFit")) = some true := of_decide_eq_true (TfHd.fact c 235)
  have g1Em : PySem.W.findIn K (.ref (He.ga K "NoFit")) "__setattr__" = some (some (.builtin "object.__setattr__")) := of_decide_eq_true (TfHd.fact c 236)
  have g2Em : PySem.W.findIn K (.ref (He.ga K "NoFit")) "paper" = some none := of_decide_eq_true (TfHd.fact c 237)
  have aEn : PySem.W.nsIn K mainGlobals "NothingToUndo" = some (some (.ref (He.ga K "NothingToUndo"))) := of_decide_eq_true (TfHd.fact c 238)
  obtain ⟨_, _, _, _, _, _, _, _, _, _, _, _, _, _, xEn⟩ := TfHd.exc_ok (TfHd.fact c 239)
  have iEn : PySem.W.findIn K (.ref (He.ga K "NothingToUndo")) "__init__" = some (some (.ref (He.ma K (He.ga K "NothingToUndo") "__init__"))) := of_decide_eq_true (TfHd.fact c 240)
  have kEn : PySem.W.keepIn K (.ref (He.ga K "NothingToUndo")) = true := of_decide_eq_true (TfHd.fact c 241)
  have bEn : PySem.W.subIn K (.ref (He.ga K "NothingToUndo")) (.type "BaseException") = some true := of_decide_eq_true (TfHd.fact c 242)
  have tEn : PySem.W.typeIn K (.ref (He.ga K "NothingToUndo")) = some (.type "type") := of_decide_eq_true (TfHd.fact c 243)
  have vEn : PySem.W.subIn K (.ref (He.ga K "NothingToUndo")) (.type "LookupError") = some true := of_decide_eq_true (TfHd.fact c 244)
  have h1En : PySem.W.findIn K (.ref (He.ga K "NothingToUndo")) "__getattribute__" = some (some (.builtin "BaseException.__getattribute__")) := of_decide_eq_true (TfHd.fact c 245)
  have h2En : PySem.W.findIn K (.ref (He.ga K "NothingToUndo")) "__getattr__" = some none := of_decide_eq_true (TfHd.fact c 246)
  have h3En : PySem.W.hasDictIn K (He.ga K "NothingToUndo") = true := of_decide_eq_true (TfHd.fact c 247)
  have h4En : PySem.W.findIn K (.ref (He.ga K "NothingToUndo")) "__class__" = some (some (.builtin "object.__class__")) := of_decide_eq_true (TfHd.fact c 248)
  have h5En : PySem.W.mroIn K (He.ga K "NothingToUndo") (.type "object") = some true := of_decide_eq_true (TfHd.fact c 249)
  have yEn : PySem.W.typeIn K (.ref (He.ma K (He.ga K "NothingToUndo") "__init__")) = some (.type "function") := of_decide_eq_true (TfHd.fact c 250)
  obtain ⟨_, _, _, _, _, _, _, lEn, _⟩ := TfHd.fn_okC (TfHd.func c 5) (TfHd.fact c 251) (TfHd.fact c 252)
  have cEn : PySem.W.codeIn K (.ref (TfHd.codeA K (He.ma K (He.ga K "NothingToUndo") "__init__"))) "NothingToUndo.__init__" = true := of_decide_eq_true (TfHd.fact c 253)
  obtain ⟨_, _, _, lcEn⟩ := TfHd.flds_ok (TfHd.fact c 254)
  have lvEn := of_decide_eq_true (TfHd.fact c 255)
  obtain ⟨_, _, _, lxEn⟩ := TfHd.cell_ok (TfHd.fact c 256)
  have mEn : PySem.W.mroIn K (He.ga K "NothingToUndo") (.ref (He.ga K "NothingToUndo")) = some true := of_decide_eq_true (TfHd.fact c 257)
  have g1En : PySem.W.findIn K (.ref (He.ga K "NothingToUndo")) "__setattr__" = some (some (.builtin "object.__setattr__")) := of_decide_eq_true (TfHd.fact c 258)
  have g2En : PySem.W.findIn K (.ref (He.ga K "NothingToUndo")) "many" = some none := of_decide_eq_true (TfHd.fact c 259)
  have mEt : PySem.W.mroIn K (He.ga K "TreeError") (.ref (He.ga K "TreeError")) = some true := of_decide_eq_true (TfHd.fact c 260)
  have nd : ([(He.ga K "TreeError"), (He.ga K "InvalidLanguage"), (He.ga K "InvalidStore"), (He.ga K "InvalidQuestion"), (He.ga K "InvalidExamples"), (He.ga K "InvalidAddress"), (He.ga K "InvalidOperation"), (He.ga K "InvalidEdit"), (He.ga K "ParseError"), (He.ga K "InvalidCommand"), (He.ga K "InvalidNumber"), (He.ga K "UnknownName"), (He.ga K "TooMany"), (He.ga K "NoFit"), (He.ga K "NothingToUndo")] : List Addr).Nodup := of_decide_eq_true (TfHd.fact c 261)
  have e5 : PySem.W.specialIn K (.builtin "object.__class__") "__get__" = some (some (.builtin "getset_descriptor.__get__")) := of_decide_eq_true (TfHd.fact c 262)
  have e6 : PySem.W.takesIn K (.builtin "object.__class__") = some true := of_decide_eq_true (TfHd.fact c 263)
  have l1 : PySem.W.plainGet K (He.ga K "Language") Str.empty = true := of_decide_eq_true (TfHd.fact c 264)
  have l2 : PySem.W.hasDictIn K (He.ga K "Language") = true := of_decide_eq_true (TfHd.fact c 265)
  have l3 : PySem.W.plainOver K (He.ga K "Language") = true := of_decide_eq_true (TfHd.fact c 266)
  have l4 : PySem.W.findIn K (.ref (He.ga K "Language")) "__setattr__" = some (some (.builtin "object.__setattr__")) := of_decide_eq_true (TfHd.fact c 267)
  have l5 : PySem.W.findIn K (.ref (He.ga K "Language")) "own_marks" = some none := of_decide_eq_true (TfHd.fact c 268)
  have l6 : PySem.W.findIn K (.ref (He.ga K "Language")) "own_kinds" = some none := of_decide_eq_true (TfHd.fact c 269)
  have l9' : PySem.W.findIn K (.ref (He.ga K "Language")) "__class__" = some (some (.builtin "object.__class__")) := of_decide_eq_true (TfHd.fact c 270)
  have la' : PySem.W.mroIn K (He.ga K "Language") (.type "object") = some true := of_decide_eq_true (TfHd.fact c 271)
  have lb' : PySem.W.subIn K (.ref (He.ga K "Language")) (.type "tuple") = some false := of_decide_eq_true (TfHd.fact c 272)
  have le' : PySem.W.isClsIn K (He.ga K "Language") = true := of_decide_eq_true (TfHd.fact c 273)
  have lg' : PySem.W.typeIn K (.ref (He.ga K "Language")) = some (.type "type") := of_decide_eq_true (TfHd.fact c 274)
  have s0 : PySem.W.subIn K (.type "NoneType") (.ref (He.ga K "Language")) = some false := of_decide_eq_true (TfHd.fact c 275)
  have s1 : PySem.W.subIn K (.type "bool") (.ref (He.ga K "Language")) = some false := of_decide_eq_true (TfHd.fact c 276)
  have s2 : PySem.W.subIn K (.type "int") (.ref (He.ga K "Language")) = some false := of_decide_eq_true (TfHd.fact c 277)
  have s3 : PySem.W.subIn K (.type "str") (.ref (He.ga K "Language")) = some false := of_decide_eq_true (TfHd.fact c 278)
  have s4 : PySem.W.subIn K (.type "list") (.ref (He.ga K "Language")) = some false := of_decide_eq_true (TfHd.fact c 279)
  have s5 : PySem.W.subIn K (.type "tuple") (.ref (He.ga K "Language")) = some false := of_decide_eq_true (TfHd.fact c 280)
  have s6 : PySem.W.subIn K (.type "dict") (.ref (He.ga K "Language")) = some false := of_decide_eq_true (TfHd.fact c 281)
  have r1C : PySem.W.readsIn K (He.ga K "Language") (.type "type") = true := of_decide_eq_true (TfHd.fact c 282)
  have r2C : PySem.W.specialIn K (.ref (He.ga K "Language")) "__getattribute__" = some (some (.builtin "type.__getattribute__")) := of_decide_eq_true (TfHd.fact c 283)
  have r3C := TfHd.cm_ok (TfHd.fact c 284)
  have r4C := TfHd.rec_ok (TfHd.fact c 285)
  have r5C : PySem.W.fnIn K (TfHd.recA K (TfHd.cmA K (He.ga K "Language") "of") "classmethod") = true := of_decide_eq_true (TfHd.fact c 286)
  have r1St : PySem.W.readsIn K (He.ga K "Store") (.type "type") = true := of_decide_eq_true (TfHd.fact c 287)
  have r2St : PySem.W.specialIn K (.ref (He.ga K "Store")) "__getattribute__" = some (some (.builtin "type.__getattribute__")) := of_decide_eq_true (TfHd.fact c 288)
  have r3St := TfHd.cm_ok (TfHd.fact c 289)
  have r4St := TfHd.rec_ok (TfHd.fact c 290)
  have r5St : PySem.W.fnIn K (TfHd.recA K (TfHd.cmA K (He.ga K "Store") "of") "classmethod") = true := of_decide_eq_true (TfHd.fact c 291)
  have r1Qu : PySem.W.readsIn K (He.ga K "Question") (.type "type") = true := of_decide_eq_true (TfHd.fact c 292)
  have r2Qu : PySem.W.specialIn K (.ref (He.ga K "Question")) "__getattribute__" = some (some (.builtin "type.__getattribute__")) := of_decide_eq_true (TfHd.fact c 293)
  have r3Qu := TfHd.cm_ok (TfHd.fact c 294)
  have r4Qu := TfHd.rec_ok (TfHd.fact c 295)
  have r5Qu : PySem.W.fnIn K (TfHd.recA K (TfHd.cmA K (He.ga K "Question") "of") "classmethod") = true := of_decide_eq_true (TfHd.fact c 296)
  have u1C : PySem.W.makesIn K (He.ga K "Language") = true := of_decide_eq_true (TfHd.fact c 297)
  have u2C : PySem.W.findIn K (.ref (He.ga K "Language")) "__init__" = some (some (.ref (He.ma K (He.ga K "Language") "__init__"))) := of_decide_eq_true (TfHd.fact c 298)
  have u3C : PySem.W.isFn K (.ref (He.ma K (He.ga K "Language") "__init__")) = true := of_decide_eq_true (TfHd.fact c 299)
  have u4C : PySem.W.keepIn K (.ref (He.ga K "Language")) = true := of_decide_eq_true (TfHd.fact c 300)
  have u1St : PySem.W.makesIn K (He.ga K "Store") = true := of_decide_eq_true (TfHd.fact c 301)
  have u2St : PySem.W.findIn K (.ref (He.ga K "Store")) "__init__" = some (some (.ref (He.ma K (He.ga K "Store") "__init__"))) := of_decide_eq_true (TfHd.fact c 302)
  have u3St : PySem.W.isFn K (.ref (He.ma K (He.ga K "Store") "__init__")) = true := of_decide_eq_true (TfHd.fact c 303)
  have u4St : PySem.W.keepIn K (.ref (He.ga K "Store")) = true := of_decide_eq_true (TfHd.fact c 304)
  have u1CM : PySem.W.makesIn K (He.ga K "MadeStore") = true := of_decide_eq_true (TfHd.fact c 305)
  have u2CM : PySem.W.findIn K (.ref (He.ga K "MadeStore")) "__init__" = some (some (.ref (He.ma K (He.ga K "MadeStore") "__init__"))) := of_decide_eq_true (TfHd.fact c 306)
  have u3CM : PySem.W.isFn K (.ref (He.ma K (He.ga K "MadeStore") "__init__")) = true := of_decide_eq_true (TfHd.fact c 307)
  have u4CM : PySem.W.keepIn K (.ref (He.ga K "MadeStore")) = true := of_decide_eq_true (TfHd.fact c 308)
  have w0Na : PySem.W.nsIn K mainGlobals "is_name" = some (some (.ref (He.ga K "is_name"))) := of_decide_eq_true (TfHd.fact c 309)
  obtain ⟨_, _, _, _, _, _, _, _, w1Na, _⟩ := TfHd.fn_ok (TfHd.func c 6) (TfHd.fact c 310)
  have w2Na : PySem.W.codeIn K (.ref (TfHd.codeA K (He.ga K "is_name"))) "is_name" = true := of_decide_eq_true (TfHd.fact c 311)
  have w3Na : PySem.W.keepIn K (.ref (He.ga K "is_name")) = true := of_decide_eq_true (TfHd.fact c 312)
  have w0Df : PySem.W.nsIn K mainGlobals "different_names" = some (some (.ref (He.ga K "different_names"))) := of_decide_eq_true (TfHd.fact c 313)
  obtain ⟨_, _, _, _, _, _, _, _, w1Df, _⟩ := TfHd.fn_ok (TfHd.func c 7) (TfHd.fact c 314)
  have w2Df : PySem.W.codeIn K (.ref (TfHd.codeA K (He.ga K "different_names"))) "different_names" = true := of_decide_eq_true (TfHd.fact c 315)
  have w3Df : PySem.W.keepIn K (.ref (He.ga K "different_names")) = true := of_decide_eq_true (TfHd.fact c 316)
  have w0Rl : PySem.W.nsIn K mainGlobals "require_language" = some (some (.ref (He.ga K "require_language"))) := of_decide_eq_true (TfHd.fact c 317)
  obtain ⟨_, _, _, _, _, _, _, _, w1Rl, _⟩ := TfHd.fn_ok (TfHd.func c 8) (TfHd.fact c 318)
  have w2Rl : PySem.W.codeIn K (.ref (TfHd.codeA K (He.ga K "require_language"))) "require_language" = true := of_decide_eq_true (TfHd.fact c 319)
  have w3Rl : PySem.W.keepIn K (.ref (He.ga K "require_language")) = true := of_decide_eq_true (TfHd.fact c 320)
  have w0Pr : PySem.W.nsIn K mainGlobals "require_pair" = some (some (.ref (He.ga K "require_pair"))) := of_decide_eq_true (TfHd.fact c 321)
  obtain ⟨_, _, _, _, _, _, _, _, w1Pr, _⟩ := TfHd.fn_ok (TfHd.func c 9) (TfHd.fact c 322)
  have w2Pr : PySem.W.codeIn K (.ref (TfHd.codeA K (He.ga K "require_pair"))) "require_pair" = true := of_decide_eq_true (TfHd.fact c 323)
  have w3Pr : PySem.W.keepIn K (.ref (He.ga K "require_pair")) = true := of_decide_eq_true (TfHd.fact c 324)
  have w0Ck : PySem.W.nsIn K mainGlobals "checked_things" = some (some (.ref (He.ga K "checked_things"))) := of_decide_eq_true (TfHd.fact c 325)
  obtain ⟨_, _, _, _, _, _, _, _, w1Ck, _⟩ := TfHd.fn_ok (TfHd.func c 10) (TfHd.fact c 326)
  have w2Ck : PySem.W.codeIn K (.ref (TfHd.codeA K (He.ga K "checked_things"))) "checked_things" = true := of_decide_eq_true (TfHd.fact c 327)
  have w3Ck : PySem.W.keepIn K (.ref (He.ga K "checked_things")) = true := of_decide_eq_true (TfHd.fact c 328)
  have w0Fo : PySem.W.nsIn K mainGlobals "is_form_node" = some (some (.ref (He.ga K "is_form_node"))) := of_decide_eq_true (TfHd.fact c 329)
  obtain ⟨_, _, _, _, _, _, _, _, w1Fo, _⟩ := TfHd.fn_ok (TfHd.func c 11) (TfHd.fact c 330)
  have w2Fo : PySem.W.codeIn K (.ref (TfHd.codeA K (He.ga K "is_form_node"))) "is_form_node" = true := of_decide_eq_true (TfHd.fact c 331)
  have w3Fo : PySem.W.keepIn K (.ref (He.ga K "is_form_node")) = true := of_decide_eq_true (TfHd.fact c 332)
  have w0If : PySem.W.nsIn K mainGlobals "is_form" = some (some (.ref (He.ga K "is_form"))) := of_decide_eq_true (TfHd.fact c 333)
  obtain ⟨_, _, _, _, _, _, _, _, w1If, _⟩ := TfHd.fn_ok (TfHd.func c 12) (TfHd.fact c 334)
  have w2If : PySem.W.codeIn K (.ref (TfHd.codeA K (He.ga K "is_form"))) "is_form" = true := of_decide_eq_true (TfHd.fact c 335)
  have w3If : PySem.W.keepIn K (.ref (He.ga K "is_form")) = true := of_decide_eq_true (TfHd.fact c 336)
  have w0Di : PySem.W.nsIn K mainGlobals "_law_dice" = some (some (.ref (He.ga K "_law_dice"))) := of_decide_eq_true (TfHd.fact c 337)
  obtain ⟨_, _, _, _, _, _, _, _, w1Di, _⟩ := TfHd.fn_ok (TfHd.func c 13) (TfHd.fact c 338)
  have w2Di : PySem.W.codeIn K (.ref (TfHd.codeA K (He.ga K "_law_dice"))) "_law_dice" = true := of_decide_eq_true (TfHd.fact c 339)
  have w3Di : PySem.W.keepIn K (.ref (He.ga K "_law_dice")) = true := of_decide_eq_true (TfHd.fact c 340)
  have w0Ro : PySem.W.nsIn K mainGlobals "_law_roll" = some (some (.ref (He.ga K "_law_roll"))) := of_decide_eq_true (TfHd.fact c 341)
  obtain ⟨_, _, _, _, _, _, _, _, w1Ro, _⟩ := TfHd.fn_ok (TfHd.func c 14) (TfHd.fact c 342)
  have w2Ro : PySem.W.codeIn K (.ref (TfHd.codeA K (He.ga K "_law_roll"))) "_law_roll" = true := of_decide_eq_true (TfHd.fact c 343)
  have w3Ro : PySem.W.keepIn K (.ref (He.ga K "_law_roll")) = true := of_decide_eq_true (TfHd.fact c 344)
  have w0Pi : PySem.W.nsIn K mainGlobals "_law_pick" = some (some (.ref (He.ga K "_law_pick"))) := of_decide_eq_true (TfHd.fact c 345)
  obtain ⟨_, _, _, _, _, _, _, _, w1Pi, _⟩ := TfHd.fn_ok (TfHd.func c 15) (TfHd.fact c 346)
  have w2Pi : PySem.W.codeIn K (.ref (TfHd.codeA K (He.ga K "_law_pick"))) "_law_pick" = true := of_decide_eq_true (TfHd.fact c 347)
  have w3Pi : PySem.W.keepIn K (.ref (He.ga K "_law_pick")) = true := of_decide_eq_true (TfHd.fact c 348)
  have w0To : PySem.W.nsIn K mainGlobals "_law_told" = some (some (.ref (He.ga K "_law_told"))) := of_decide_eq_true (TfHd.fact c 349)
  obtain ⟨_, _, _, _, _, _, _, _, w1To, _⟩ := TfHd.fn_ok (TfHd.func c 16) (TfHd.fact c 350)
  have w2To : PySem.W.codeIn K (.ref (TfHd.codeA K (He.ga K "_law_told"))) "_law_told" = true := of_decide_eq_true (TfHd.fact c 351)
  have w3To : PySem.W.keepIn K (.ref (He.ga K "_law_told")) = true := of_decide_eq_true (TfHd.fact c 352)
  have w0Mk : PySem.W.nsIn K mainGlobals "_law_marks" = some (some (.ref (He.ga K "_law_marks"))) := of_decide_eq_true (TfHd.fact c 353)
  obtain ⟨_, _, _, _, _, _, _, _, w1Mk, _⟩ := TfHd.fn_ok (TfHd.func c 17) (TfHd.fact c 354)
  have w2Mk : PySem.W.codeIn K (.ref (TfHd.codeA K (He.ga K "_law_marks"))) "_law_marks" = true := of_decide_eq_true (TfHd.fact c 355)
  have w3Mk : PySem.W.keepIn K (.ref (He.ga K "_law_marks")) = true := of_decide_eq_true (TfHd.fact c 356)
  have w0Bs : PySem.W.nsIn K mainGlobals "_law_bases" = some (some (.ref (He.ga K "_law_bases"))) := of_decide_eq_true (TfHd.fact c 357)
  obtain ⟨_, _, _, _, _, _, _, _, w1Bs, _⟩ := TfHd.fn_ok (TfHd.func c 18) (TfHd.fact c 358)
  have w2Bs : PySem.W.codeIn K (.ref (TfHd.codeA K (He.ga K "_law_bases"))) "_law_bases" = true := of_decide_eq_true (TfHd.fact c 359)
  have w3Bs : PySem.W.keepIn K (.ref (He.ga K "_law_bases")) = true := of_decide_eq_true (TfHd.fact c 360)
  have w0On : PySem.W.nsIn K mainGlobals "_law_only" = some (some (.ref (He.ga K "_law_only"))) := of_decide_eq_true (TfHd.fact c 361)
  obtain ⟨_, _, _, _, _, _, _, _, w1On, _⟩ := TfHd.fn_ok (TfHd.func c 19) (TfHd.fact c 362)
  have w2On : PySem.W.codeIn K (.ref (TfHd.codeA K (He.ga K "_law_only"))) "_law_only" = true := of_decide_eq_true (TfHd.fact c 363)
  have w3On : PySem.W.keepIn K (.ref (He.ga K "_law_only")) = true := of_decide_eq_true (TfHd.fact c 364)
  have w0Ms : PySem.W.nsIn K mainGlobals "_law_messages_right" = some (some (.ref (He.ga K "_law_messages_right"))) := of_decide_eq_true (TfHd.fact c 365)
  obtain ⟨_, _, _, _, _, _, _, _, w1Ms, _⟩ := TfHd.fn_ok (TfHd.func c 20) (TfHd.fact c 366)
  have w2Ms : PySem.W.codeIn K (.ref (TfHd.codeA K (He.ga K "_law_messages_right"))) "_law_messages_right" = true := of_decide_eq_true (TfHd.fact c 367)
  have w3Ms : PySem.W.keepIn K (.ref (He.ga K "_law_messages_right")) = true := of_decide_eq_true (TfHd.fact c 368)
  have w0Va : PySem.W.nsIn K mainGlobals "_law_values_right" = some (some (.ref (He.ga K "_law_values_right"))) := of_decide_eq_true (TfHd.fact c 369)
  obtain ⟨_, _, _, _, _, _, _, _, w1Va, _⟩ := TfHd.fn_ok (TfHd.func c 21) (TfHd.fact c 370)
  have w2Va : PySem.W.codeIn K (.ref (TfHd.codeA K (He.ga K "_law_values_right"))) "_law_values_right" = true := of_decide_eq_true (TfHd.fact c 371)
  have w3Va : PySem.W.keepIn K (.ref (He.ga K "_law_values_right")) = true := of_decide_eq_true (TfHd.fact c 372)
  have w0Tk : PySem.W.nsIn K mainGlobals "_law_taken" = some (some (.ref (He.ga K "_law_taken"))) := of_decide_eq_true (TfHd.fact c 373)
  obtain ⟨_, _, _, _, _, _, _, _, w1Tk, _⟩ := TfHd.fn_ok (TfHd.func c 22) (TfHd.fact c 374)
  have w2Tk : PySem.W.codeIn K (.ref (TfHd.codeA K (He.ga K "_law_taken"))) "_law_taken" = true := of_decide_eq_true (TfHd.fact c 375)
  have w3Tk : PySem.W.keepIn K (.ref (He.ga K "_law_taken")) = true := of_decide_eq_true (TfHd.fact c 376)
  have w0La : PySem.W.nsIn K mainGlobals "law" = some (some (.ref (He.ga K "law"))) := of_decide_eq_true (TfHd.fact c 377)
  obtain ⟨_, _, _, _, _, _, _, _, w1La, _⟩ := TfHd.fn_ok (TfHd.func c 23) (TfHd.fact c 378)
  have w2La : PySem.W.codeIn K (.ref (TfHd.codeA K (He.ga K "law"))) "law" = true := of_decide_eq_true (TfHd.fact c 379)
  have w3La : PySem.W.keepIn K (.ref (He.ga K "law")) = true := of_decide_eq_true (TfHd.fact c 380)
  obtain ⟨_, _, _, w4La⟩ := TfHd.flds_ok (TfHd.fact c 381)
  have w5La := of_decide_eq_true (TfHd.fact c 382)
  have w6La := Option.isNone_iff_eq_none.mp (TfHd.fact c 383)
  obtain ⟨_, _, _, _, _, _, _, _, w1In, _⟩ := TfHd.fn_ok (TfHd.func c 24) (TfHd.fact c 384)
  have w2In : PySem.W.codeIn K (.ref (TfHd.codeA K (He.ma K (He.ga K "Language") "__init__"))) "Language.__init__" = true := of_decide_eq_true (TfHd.fact c 385)
  have w3In : PySem.W.keepIn K (.ref (He.ma K (He.ga K "Language") "__init__")) = true := of_decide_eq_true (TfHd.fact c 386)
  obtain ⟨_, _, _, _, _, _, _, _, w1Of, _⟩ := TfHd.fn_ok (TfHd.func c 25) (TfHd.fact c 387)
  have w2Of : PySem.W.codeIn K (.ref (TfHd.codeA K (TfHd.recA K (TfHd.cmA K (He.ga K "Language") "of") "classmethod"))) "Language.of" = true := of_decide_eq_true (TfHd.fact c 388)
  have w3Of : PySem.W.keepIn K (.ref (TfHd.recA K (TfHd.cmA K (He.ga K "Language") "of") "classmethod")) = true := of_decide_eq_true (TfHd.fact c 389)
  obtain ⟨_, _, _, _, _, _, _, _, w1Si, _⟩ := TfHd.fn_ok (TfHd.func c 26) (TfHd.fact c 390)
  have w2Si : PySem.W.codeIn K (.ref (TfHd.codeA K (He.ma K (He.ga K "Store") "__init__"))) "Store.__init__" = true := of_decide_eq_true (TfHd.fact c 391)
  have w3Si : PySem.W.keepIn K (.ref (He.ma K (He.ga K "Store") "__init__")) = true := of_decide_eq_true (TfHd.fact c 392)
  obtain ⟨_, _, _, _, _, _, _, _, w1So, _⟩ := TfHd.fn_ok (TfHd.func c 27) (TfHd.fact c 393)
  have w2So : PySem.W.codeIn K (.ref (TfHd.codeA K (TfHd.recA K (TfHd.cmA K (He.ga K "Store") "of") "classmethod"))) "Store.of" = true := of_decide_eq_true (TfHd.fact c 394)
  have w3So : PySem.W.keepIn K (.ref (TfHd.recA K (TfHd.cmA K (He.ga K "Store") "of") "classmethod")) = true := of_decide_eq_true (TfHd.fact c 395)
  obtain ⟨_, _, _, _, _, _, _, _, w1Qo, _⟩ := TfHd.fn_ok (TfHd.func c 28) (TfHd.fact c 396)
  have w2Qo : PySem.W.codeIn K (.ref (TfHd.codeA K (TfHd.recA K (TfHd.cmA K (He.ga K "Question") "of") "classmethod"))) "Question.of" = true := of_decide_eq_true (TfHd.fact c 397)
  have w3Qo : PySem.W.keepIn K (.ref (TfHd.recA K (TfHd.cmA K (He.ga K "Question") "of") "classmethod")) = true := of_decide_eq_true (TfHd.fact c 398)
  have z_isinstance : PySem.W.nsIn K mainGlobals "isinstance" = some none := of_decide_eq_true (TfHd.fact c 399)
  have z_tuple : PySem.W.nsIn K mainGlobals "tuple" = some none := of_decide_eq_true (TfHd.fact c 400)
  have z_all : PySem.W.nsIn K mainGlobals "all" = some none := of_decide_eq_true (TfHd.fact c 401)
  have z_any : PySem.W.nsIn K mainGlobals "any" = some none := of_decide_eq_true (TfHd.fact c 402)
  have z_sorted : PySem.W.nsIn K mainGlobals "sorted" = some none := of_decide_eq_true (TfHd.fact c 403)
  have z_list : PySem.W.nsIn K mainGlobals "list" = some none := of_decide_eq_true (TfHd.fact c 404)
  have z_len : PySem.W.nsIn K mainGlobals "len" = some none := of_decide_eq_true (TfHd.fact c 405)
  have z_str : PySem.W.nsIn K mainGlobals "str" = some none := of_decide_eq_true (TfHd.fact c 406)
  have z_int : PySem.W.nsIn K mainGlobals "int" = some none := of_decide_eq_true (TfHd.fact c 407)
  have z_abs : PySem.W.nsIn K mainGlobals "abs" = some none := of_decide_eq_true (TfHd.fact c 408)
  have z_max : PySem.W.nsIn K mainGlobals "max" = some none := of_decide_eq_true (TfHd.fact c 409)
  have z_min : PySem.W.nsIn K mainGlobals "min" = some none := of_decide_eq_true (TfHd.fact c 410)
  have z_range : PySem.W.nsIn K mainGlobals "range" = some none := of_decide_eq_true (TfHd.fact c 411)
  have z_repr : PySem.W.nsIn K mainGlobals "repr" = some none := of_decide_eq_true (TfHd.fact c 412)
  have z_super : PySem.W.nsIn K mainGlobals "super" = some none := of_decide_eq_true (TfHd.fact c 413)
  have z_dict : PySem.W.nsIn K mainGlobals "dict" = some none := of_decide_eq_true (TfHd.fact c 414)
  have z_enumerate : PySem.W.nsIn K mainGlobals "enumerate" = some none := of_decide_eq_true (TfHd.fact c 415)
  have z_ValueError : PySem.W.nsIn K mainGlobals "ValueError" = some none := of_decide_eq_true (TfHd.fact c 416)
  have z_IndexError : PySem.W.nsIn K mainGlobals "IndexError" = some none := of_decide_eq_true (TfHd.fact c 417)
  have z_KeyError : PySem.W.nsIn K mainGlobals "KeyError" = some none := of_decide_eq_true (TfHd.fact c 418)
  have z_OverflowError : PySem.W.nsIn K mainGlobals "OverflowError" = some none := of_decide_eq_true (TfHd.fact c 419)
  have z_ArithmeticError : PySem.W.nsIn K mainGlobals "ArithmeticError" = some none := of_decide_eq_true (TfHd.fact c 420)
  have z_LookupError : PySem.W.nsIn K mainGlobals "LookupError" = some none := of_decide_eq_true (TfHd.fact c 421)
  have z_RuntimeError : PySem.W.nsIn K mainGlobals "RuntimeError" = some none := of_decide_eq_true (TfHd.fact c 422)
  have g8 : PySem.W.nsIn K mainGlobals "MAX_MARKS" = some (some (.int 8 (TfHd.tokA K "MAX_MARKS"))) := of_decide_eq_true (TfHd.fact c 423)
  have g4 : PySem.W.nsIn K mainGlobals "MAX_KINDS" = some (some (.int 4 (TfHd.tokA K "MAX_KINDS"))) := of_decide_eq_true (TfHd.fact c 424)
  have g9 : PySem.W.nsIn K mainGlobals "MAX_SIGNS" = some (some (.int 8 (TfHd.tokA K "MAX_SIGNS"))) := of_decide_eq_true (TfHd.fact c 425)
  have gs : PySem.W.nsIn K mainGlobals "SIGNS" = some (some (.str "abcdefghijklmnopqrstuvwxyz" (TfHd.tokA K "SIGNS"))) := of_decide_eq_true (TfHd.fact c 426)
  have gN : PySem.W.nsIn K mainGlobals "MAX_NODES" = some (some (.int 2000 (TfHd.tokA K "MAX_NODES"))) := of_decide_eq_true (TfHd.fact c 427)
  have gL : PySem.W.nsIn K mainGlobals "MAX_LEVELS" = some (some (.int 10 (TfHd.tokA K "MAX_LEVELS"))) := of_decide_eq_true (TfHd.fact c 428)
  exact all_mk X G hfa rfl tab rc1 aC aSt aQu aCM opq (by decide +kernel) aEt xEt iEt kEt bEt tEt vEt h1Et h2Et h3Et h4Et h5Et yEt lEt cEt lcEt lvEt (beq_self_eq_true _) lxEt (fun env => ⟨_, rfl⟩) aEa xEa iEa kEa bEa tEa vEa h1Ea h2Ea h3Ea h4Ea h5Ea mEa neEa aEb xEb iEb kEb bEb tEb vEb h1Eb h2Eb h3Eb h4Eb h5Eb mEb neEb aEc xEc iEc kEc bEc tEc vEc h1Ec h2Ec h3Ec h4Ec h5Ec mEc neEc aEd xEd iEd kEd bEd tEd vEd h1Ed h2Ed h3Ed h4Ed h5Ed mEd neEd aEe xEe iEe kEe bEe tEe vEe h1Ee h2Ee h3Ee h4Ee h5Ee mEe neEe aEf xEf iEf kEf bEf tEf vEf h1Ef h2Ef h3Ef h4Ef h5Ef mEf neEf aEg xEg iEg kEg bEg tEg vEg h1Eg h2Eg h3Eg h4Eg h5Eg mEg neEg aEh xEh iEh kEh bEh tEh vEh h1Eh h2Eh h3Eh h4Eh h5Eh mEh neEh aEi xEi iEi kEi bEi tEi vEi h1Ei h2Ei h3Ei h4Ei h5Ei mEi neEi aEj xEj iEj kEj bEj tEj vEj h1Ej h2Ej h3Ej h4Ej h5Ej yEj lEj cEj lcEj lvEj (beq_self_eq_true _) lxEj (fun env => ⟨_, rfl⟩) mEj g1Ej g2Ej aEk xEk iEk kEk bEk tEk vEk h1Ek h2Ek h3Ek h4Ek h5Ek yEk lEk cEk lcEk lvEk (beq_self_eq_true _) lxEk (fun env => ⟨_, rfl⟩) mEk g1Ek g2Ek aEl xEl iEl kEl bEl tEl vEl h1El h2El h3El h4El h5El yEl lEl cEl lcEl lvEl (beq_self_eq_true _) lxEl (fun env => ⟨_, rfl⟩) mEl g1El g2El aEm xEm iEm kEm bEm tEm vEm h1Em h2Em h3Em h4Em h5Em yEm lEm cEm lcEm lvEm (beq_self_eq_true _) lxEm (fun env => ⟨_, rfl⟩) mEm g1Em g2Em aEn xEn iEn kEn bEn tEn vEn h1En h2En h3En h4En h5En yEn lEn cEn lcEn lvEn (beq_self_eq_true _) lxEn (fun env => ⟨_, rfl⟩) mEn g1En g2En mEt nd e5 e6 l1 l2 l3 l4 l5 l6 l9' la' lb' le' lg' s0 s1 s2 s3 s4 s5 s6 r1C r2C r3C r4C r5C r1St r2St r3St r4St r5St r1Qu r2Qu r3Qu r4Qu r5Qu u1C u2C u3C u4C u1St u2St u3St u4St u1CM u2CM u3CM u4CM w0Na w1Na w2Na w3Na w0Df w1Df w2Df w3Df w0Rl w1Rl w2Rl w3Rl w0Pr w1Pr w2Pr w3Pr w0Ck w1Ck w2Ck w3Ck w0Fo w1Fo w2Fo w3Fo w0If w1If w2If w3If w0Di w1Di w2Di w3Di w0Ro w1Ro w2Ro w3Ro w0Pi w1Pi w2Pi w3Pi w0To w1To w2To w3To w0Mk w1Mk w2Mk w3Mk w0Bs w1Bs w2Bs w3Bs w0On w1On w2On w3On w0Ms w1Ms w2Ms w3Ms w0Va w1Va w2Va w3Va w0Tk w1Tk w2Tk w3Tk w0La w1La w2La w3La w4La w5La w6La w1In w2In w3In w1Of w2Of w3Of w1Si w2Si w3Si w1So w2So w3So w1Qo w2Qo w3Qo z_isinstance z_tuple z_all z_any z_sorted z_list z_len z_str z_int z_abs z_max z_min z_range z_repr z_super z_dict z_enumerate z_ValueError z_IndexError z_KeyError z_OverflowError z_ArithmeticError z_LookupError z_RuntimeError g8 g4 g9 gs gN gL
end Tf
open PySem PySem.W PySem.Calls PyProof.Rows
set_option maxRecDepth 100000 in
set_option maxHeartbeats 0 in
theorem PySem.Challenge.cw_treefits_k00_errors_holds : PySem.Challenge.rw_treefits_k00_errors.Holds := by
  w_on; o_law
  refine HandSHeadRun.head_any (r := OpenLaw.row PySem.Challenge.rw_treefits_k00_errors) (q := Tf.hQ) (H := Tf.hH) (ob := Tf.hOb) (M := 15000) (loose := Tf.hNm) (d := HandSHeadRun.topDef (OpenLaw.row PySem.Challenge.rw_treefits_k00_errors).prog 98) (kwd := []) (fun s => TfHd.obT_eq s)
    (by kernel_rfl) (fun s => by kernel_rfl) Tf.hRun (by kernel_rfl) (by kernel_rfl) (by kernel_rfl) (by rfl) (by first | assumption | decide +kernel) (by decide +kernel) ⟨rfl, rfl, rfl, rfl, rfl, by decide +kernel⟩ ?hw ?hc
  case hw => w_witness2
  case hc =>
    refine TfHd.walk_H (l := PySem.Challenge.rw_treefits_k00_errors) (n := 63) (k := 9) (x := "_law_script") (CX := fun _ => L2.CX0) rfl (by decide) (by kernel_rfl) ⟨rfl, by decide, by decide⟩ ?F (fun _ _ _ _ _ h => h)
    intro w mg fa h Y G tab hmg0
    obtain ⟨K, KX, c⟩ := Y
    have hmg : mg ("law" : PySem.Str) = some (.ref fa) := by
      have e : (HandSHeadRun.topDef (OpenLaw.row PySem.Challenge.rw_treefits_k00_errors).prog 98).name = ("law" : PySem.Str) := by kernel_rfl
      rw [← e]
      exact hmg0
    exact ⟨K, KX, Tf.all_hd KX G hmg (tab K KX) (by kernel_rfl) c⟩

